import PyProof.Rows.All
import Wide.All
import OpenK.AllK
import Wide.FinOn
import HandS.ForMost
import HandS.Conv
import HandS.Deep
import HandS.SortRule
import HandS.SortInts
import HandS.Style
import KE.KItemsList
import KE.KDictZip
import KE.KTurns
import HandS.ListItems
import HandS.Zip
import HandS.IsInst
import HandS.TupAny
import HandS.SetFor
import HandS.NoneIn
import KE.KDictDisplayH
import HandS.Small
import HandS.Words
import HandS.Ends
import PySem.Challenge.RW_drawnlayers_k52_steps_and_walks
set_option Elab.async false
set_option linter.all false
set_option maxRecDepth 100000
/-! DL: data read off the heap as trees (D), owned or at rest; the readings of HandS judged over such data, without the heap. -/
namespace DL
open PySem L2

inductive D where
  | non | bl (b : Bool) | int (i : Int) | str (s : Str)
  | tup (ds : List D) | lst (ds : List D) | mls (ds : List D) | cst (ds : List D)
  | dct (ks : List (List Key)) (ds : List D)
  | raw (o : HO)

mutual
/-- nothing in it may change any more -/
def D.pure : D → Bool
  | .tup ds => pureL ds
  | .lst ds => pureL ds
  | .cst ds => pureL ds
  | .mls _ => false
  | .dct _ _ => false
  | .raw _ => false
  | _ => true
def pureL : List D → Bool
  | [] => true
  | d :: ds => d.pure && pureL ds
end
mutual
def D.noraw : D → Bool
  | .tup ds => norawL ds
  | .lst ds => norawL ds
  | .cst ds => norawL ds
  | .mls ds => norawL ds
  | .dct _ _ => false
  | .raw _ => false
  | _ => true
def norawL : List D → Bool
  | [] => true
  | d :: ds => d.noraw && norawL ds
end
mutual
/-- all of it at rest -/
def D.frz : D → D
  | .tup ds => .tup (frzL ds)
  | .lst ds => .lst (frzL ds)
  | .cst ds => .cst (frzL ds)
  | .mls ds => .lst (frzL ds)
  | d => d
def frzL : List D → List D
  | [] => []
  | d :: ds => d.frz :: frzL ds
end

mutual
inductive Own (K : PySem.W.Frag) (B H : Hp) : D → V → List Addr → Prop where
  | non : Own K B H .non .non []
  | bl (b : Bool) : Own K B H (.bl b) (.bl b) []
  | int (i : Int) : Own K B H (.int i) (.int i) []
  | str (s : Str) : Own K B H (.str s) (.str s) []
  | tup {a : Addr} {vs : List V} {ds : List D} {f : List Addr} : B a = some (.tup vs) → OwnL K B H ds vs f → Own K B H (.tup ds) (.ref a) f
  | lst {a : Addr} {vs : List V} {ds : List D} {f : List Addr} : B a = some (.lst vs) → OwnL K B H ds vs f → Own K B H (.lst ds) (.ref a) f
  | cst {a : Addr} {vs : List V} {ds : List D} {f : List Addr} : SqL K B a vs → OwnL K B H ds vs f → Own K B H (.cst ds) (.ref a) f
  | mls {a : Addr} {vs : List V} {ds : List D} {f : List Addr} : H a = some (.lst vs) → OwnL K B H ds vs f → Own K B H (.mls ds) (.ref a) (a :: f)
  | dct {a : Addr} {ks : List (List Key)} {vs : List V} {ds : List D} {f : List Addr} : H a = some (.dT (ks.zip vs)) → ks.length = ds.length → OwnL K B H ds vs f → Own K B H (.dct ks ds) (.ref a) (a :: f)
  | raw {a : Addr} {o : HO} : H a = some o → Own K B H (.raw o) (.ref a) [a]
inductive OwnL (K : PySem.W.Frag) (B H : Hp) : List D → List V → List Addr → Prop where
  | nil : OwnL K B H [] [] []
  | cons {d : D} {v : V} {f : List Addr} {ds : List D} {vs : List V} {g : List Addr} : Own K B H d v f → OwnL K B H ds vs g → OwnL K B H (d :: ds) (v :: vs) (f ++ g)
end

section
variable {K : PySem.W.Frag} {B B' H H' : Hp}
theorem sqt_mono {a : Addr} {xs : List V} (e : Same H H') (h : SqT K H a xs) : SqT K H' a xs := by
  rcases h with (h | ⟨o, h⟩) | h
  · exact .inl (.inl (e _ _ h))
  · exact .inl (.inr ⟨o, e _ _ h⟩)
  · exact .inr h
theorem sql_mono {a : Addr} {xs : List V} (e : Same H H') (h : SqL K H a xs) : SqL K H' a xs := e.seq h
mutual
theorem Own.mono (hb : Same B B') : ∀ {d : D} {v : V} {f : List Addr}, Own K B H d v f → (∀ a ∈ f, H' a = H a) → Own K B' H' d v f
  | _, _, _, .non, _ => .non
  | _, _, _, .bl b, _ => .bl b
  | _, _, _, .int i, _ => .int i
  | _, _, _, .str s, _ => .str s
  | _, _, _, .tup h l, k => .tup (hb _ _ h) (l.mono hb k)
  | _, _, _, .lst h l, k => .lst (hb _ _ h) (l.mono hb k)
  | _, _, _, .cst h l, k => .cst (sql_mono hb h) (l.mono hb k)
  | _, _, _, .mls h l, k => .mls ((k _ (List.mem_cons_self)).trans h) (l.mono hb fun a m => k a (List.mem_cons_of_mem _ m))
  | _, _, _, .dct h e l, k => .dct ((k _ (List.mem_cons_self)).trans h) e (l.mono hb fun a m => k a (List.mem_cons_of_mem _ m))
  | _, _, _, .raw h, k => .raw ((k _ (List.mem_cons_self)).trans h)
theorem OwnL.mono (hb : Same B B') : ∀ {ds : List D} {vs : List V} {f : List Addr}, OwnL K B H ds vs f → (∀ a ∈ f, H' a = H a) → OwnL K B' H' ds vs f
  | _, _, _, .nil, _ => .nil
  | _, _, _, .cons h l, k => .cons (h.mono hb fun a m => k a (List.mem_append_left _ m)) (l.mono hb fun a m => k a (List.mem_append_right _ m))
end
mutual
theorem Own.there : ∀ {d : D} {v : V} {f : List Addr}, Own K B H d v f → ∀ a ∈ f, ∃ o, H a = some o
  | _, _, _, .non, a, m => nomatch m
  | _, _, _, .bl b, a, m => nomatch m
  | _, _, _, .int i, a, m => nomatch m
  | _, _, _, .str s, a, m => nomatch m
  | _, _, _, .tup h l, a, m => l.there a m
  | _, _, _, .lst h l, a, m => l.there a m
  | _, _, _, .cst h l, a, m => l.there a m
  | _, _, _, .mls h l, a, m => by
    rcases List.mem_cons.mp m with rfl | m
    · exact ⟨_, h⟩
    · exact l.there a m
  | _, _, _, .dct h e l, a, m => by
    rcases List.mem_cons.mp m with rfl | m
    · exact ⟨_, h⟩
    · exact l.there a m
  | _, _, _, .raw h, a, m => by
    rcases List.mem_cons.mp m with rfl | m
    · exact ⟨_, h⟩
    · nomatch m
theorem OwnL.there : ∀ {ds : List D} {vs : List V} {f : List Addr}, OwnL K B H ds vs f → ∀ a ∈ f, ∃ o, H a = some o
  | _, _, _, .nil, a, m => nomatch m
  | _, _, _, .cons h l, a, m => by
    rcases List.mem_append.mp m with m | m
    · exact h.there a m
    · exact l.there a m
end
mutual
theorem Own.nofp : ∀ {d : D} {v : V} {f : List Addr}, Own K B H d v f → d.pure = true → f = []
  | _, _, _, .non, _ => rfl
  | _, _, _, .bl b, _ => rfl
  | _, _, _, .int i, _ => rfl
  | _, _, _, .str s, _ => rfl
  | .tup _, _, _, .tup h l, p => l.nofp (by rw [D.pure] at p; exact p)
  | .lst _, _, _, .lst h l, p => l.nofp (by rw [D.pure] at p; exact p)
  | .cst _, _, _, .cst h l, p => l.nofp (by rw [D.pure] at p; exact p)
  | .mls _, _, _, .mls h l, p => by simp [D.pure] at p
  | .dct _ _, _, _, .dct h e l, p => by simp [D.pure] at p
  | .raw _, _, _, .raw h, p => by simp [D.pure] at p
theorem OwnL.nofp : ∀ {ds : List D} {vs : List V} {f : List Addr}, OwnL K B H ds vs f → pureL ds = true → f = []
  | _, _, _, .nil, _ => rfl
  | d :: ds, _, _, .cons h l, p => by
    rw [pureL, Bool.and_eq_true] at p
    rw [h.nofp p.1, l.nofp p.2]
    rfl
end
theorem OwnL.len : ∀ {ds : List D} {vs : List V} {f : List Addr}, OwnL K B H ds vs f → ds.length = vs.length
  | _, _, _, .nil => rfl
  | _, _, _, .cons _ l => by rw [List.length_cons, List.length_cons, l.len]
theorem OwnL.app : ∀ {ds : List D} {vs : List V} {f : List Addr} {ds' : List D} {vs' : List V} {f' : List Addr}, OwnL K B H ds vs f → OwnL K B H ds' vs' f' → OwnL K B H (ds ++ ds') (vs ++ vs') (f ++ f')
  | _, _, _, _, _, _, .nil, r => r
  | _, _, _, _, _, _, .cons h l, r => by
    rw [List.append_assoc]
    exact .cons h (l.app r)
theorem OwnL.split : ∀ {ds ds' : List D} {vs vs' : List V} {f : List Addr}, ds.length = vs.length → OwnL K B H (ds ++ ds') (vs ++ vs') f → ∃ g g', f = g ++ g' ∧ OwnL K B H ds vs g ∧ OwnL K B H ds' vs' g'
  | [], _, [], _, f, _, h => ⟨[], f, rfl, .nil, h⟩
  | [], _, _ :: _, _, _, e, _ => nomatch e
  | _ :: _, _, [], _, _, e, _ => nomatch e
  | d :: ds, ds', v :: vs, vs', _, e, .cons (f := f0) (g := g0) h l => by
    obtain ⟨g, g', rfl, l1, l2⟩ := OwnL.split (Nat.succ.inj e) l
    exact ⟨f0 ++ g, g', by rw [List.append_assoc], .cons h l1, l2⟩
theorem OwnL.get : ∀ {ds : List D} {vs : List V} {f : List Addr} {i : Nat} {d : D}, OwnL K B H ds vs f → ds[i]? = some d → ∃ v g, vs[i]? = some v ∧ Own K B H d v g ∧ ∀ a ∈ g, a ∈ f
  | _, _, _, _, _, .nil, e => by simp at e
  | _, _, _, 0, _, .cons h l, e => by
    simp at e
    subst e
    exact ⟨_, _, rfl, h, fun a m => List.mem_append_left _ m⟩
  | _, _, _, i + 1, _, .cons h l, e => by
    obtain ⟨v, g, e1, o, s⟩ := l.get (i := i) (by simpa using e)
    exact ⟨v, g, by simpa using e1, o, fun a m => List.mem_append_right _ (s a m)⟩
theorem OwnL.getV {ds : List D} {vs : List V} {f : List Addr} {i : Nat} {v : V} (h : OwnL K B H ds vs f) (e : vs[i]? = some v) : ∃ d g, ds[i]? = some d ∧ Own K B H d v g ∧ ∀ a ∈ g, a ∈ f := by
  have hi : i < ds.length := by rw [h.len]; exact (List.getElem?_eq_some_iff.mp e).1
  obtain ⟨v', g, e1, o, s⟩ := h.get (List.getElem?_eq_getElem hi)
  rw [e] at e1
  cases e1
  exact ⟨_, g, List.getElem?_eq_getElem hi, o, s⟩
theorem pureL_get : ∀ {ds : List D} {i : Nat} {d : D}, pureL ds = true → ds[i]? = some d → d.pure = true
  | [], _, _, _, e => by simp at e
  | d :: ds, 0, _, p, e => by
    simp at e
    subst e
    rw [pureL, Bool.and_eq_true] at p
    exact p.1
  | d :: ds, i + 1, _, p, e => by
    rw [pureL, Bool.and_eq_true] at p
    exact pureL_get p.2 (by simpa using e)
theorem pureL_all : ∀ {ds : List D}, (∀ d ∈ ds, d.pure = true) → pureL ds = true
  | [], _ => rfl
  | d :: ds, h => by
    rw [pureL, Bool.and_eq_true]
    exact ⟨h d List.mem_cons_self, pureL_all fun x m => h x (List.mem_cons_of_mem _ m)⟩
theorem pureL_mem : ∀ {ds : List D}, pureL ds = true → ∀ d ∈ ds, d.pure = true
  | d :: ds, p, x, m => by
    rw [pureL, Bool.and_eq_true] at p
    rcases List.mem_cons.mp m with rfl | m
    · exact p.1
    · exact pureL_mem p.2 x m
theorem pureL_map {α : Type} {g : α → D} (h : ∀ x, (g x).pure = true) (xs : List α) : pureL (xs.map g) = true := pureL_all fun d m => by
  obtain ⟨x, _, rfl⟩ := List.mem_map.mp m
  exact h x
theorem pureL_app {ds es : List D} (h : pureL ds = true) (h' : pureL es = true) : pureL (ds ++ es) = true := pureL_all fun d m => by
  rcases List.mem_append.mp m with m | m
  · exact pureL_mem h d m
  · exact pureL_mem h' d m
mutual
theorem D.pure_noraw : ∀ {d : D}, d.pure = true → d.noraw = true
  | .non, _ => rfl
  | .bl _, _ => rfl
  | .int _, _ => rfl
  | .str _, _ => rfl
  | .tup ds, p => by rw [D.noraw]; exact pureL_noraw (by rw [D.pure] at p; exact p)
  | .lst ds, p => by rw [D.noraw]; exact pureL_noraw (by rw [D.pure] at p; exact p)
  | .cst ds, p => by rw [D.noraw]; exact pureL_noraw (by rw [D.pure] at p; exact p)
  | .mls _, p => by simp [D.pure] at p
  | .dct _ _, p => by simp [D.pure] at p
  | .raw _, p => by simp [D.pure] at p
theorem pureL_noraw : ∀ {ds : List D}, pureL ds = true → norawL ds = true
  | [], _ => rfl
  | d :: ds, p => by
    rw [pureL, Bool.and_eq_true] at p
    rw [norawL, Bool.and_eq_true]
    exact ⟨D.pure_noraw p.1, pureL_noraw p.2⟩
end
mutual
theorem D.frz_pure : ∀ {d : D}, d.noraw = true → d.frz.pure = true
  | .non, _ => rfl
  | .bl _, _ => rfl
  | .int _, _ => rfl
  | .str _, _ => rfl
  | .tup ds, p => by rw [D.frz, D.pure]; exact frzL_pure (by rw [D.noraw] at p; exact p)
  | .lst ds, p => by rw [D.frz, D.pure]; exact frzL_pure (by rw [D.noraw] at p; exact p)
  | .cst ds, p => by rw [D.frz, D.pure]; exact frzL_pure (by rw [D.noraw] at p; exact p)
  | .mls ds, p => by rw [D.frz, D.pure]; exact frzL_pure (by rw [D.noraw] at p; exact p)
  | .dct _ _, p => by simp [D.noraw] at p
  | .raw _, p => by simp [D.noraw] at p
theorem frzL_pure : ∀ {ds : List D}, norawL ds = true → pureL (frzL ds) = true
  | [], _ => rfl
  | d :: ds, p => by
    rw [norawL, Bool.and_eq_true] at p
    rw [frzL, pureL, Bool.and_eq_true]
    exact ⟨D.frz_pure p.1, frzL_pure p.2⟩
end
mutual
theorem D.frz_id : ∀ {d : D}, d.pure = true → d.frz = d
  | .non, _ => rfl
  | .bl _, _ => rfl
  | .int _, _ => rfl
  | .str _, _ => rfl
  | .tup ds, p => by rw [D.frz, frzL_id (by rw [D.pure] at p; exact p)]
  | .lst ds, p => by rw [D.frz, frzL_id (by rw [D.pure] at p; exact p)]
  | .cst ds, p => by rw [D.frz, frzL_id (by rw [D.pure] at p; exact p)]
  | .mls _, p => by simp [D.pure] at p
  | .dct _ _, p => by simp [D.pure] at p
  | .raw _, p => by simp [D.pure] at p
theorem frzL_id : ∀ {ds : List D}, pureL ds = true → frzL ds = ds
  | [], _ => rfl
  | d :: ds, p => by
    rw [pureL, Bool.and_eq_true] at p
    rw [frzL, D.frz_id p.1, frzL_id p.2]
end
mutual
theorem Own.frz (hb : Same B B') : ∀ {d : D} {v : V} {f : List Addr}, Own K B H d v f → d.noraw = true → (∀ a ∈ f, B' a = H a) → Own K B' H d.frz v []
  | _, _, _, .non, _, _ => .non
  | _, _, _, .bl b, _, _ => .bl b
  | _, _, _, .int i, _, _ => .int i
  | _, _, _, .str s, _, _ => .str s
  | .tup ds, _, _, .tup h l, n, k => by rw [D.frz]; exact .tup (hb _ _ h) (l.frz hb (by rw [D.noraw] at n; exact n) k)
  | .lst ds, _, _, .lst h l, n, k => by rw [D.frz]; exact .lst (hb _ _ h) (l.frz hb (by rw [D.noraw] at n; exact n) k)
  | .cst ds, _, _, .cst h l, n, k => by rw [D.frz]; exact .cst (sql_mono hb h) (l.frz hb (by rw [D.noraw] at n; exact n) k)
  | .mls ds, _, _, .mls h l, n, k => by
    rw [D.frz]
    exact .lst ((k _ List.mem_cons_self).trans h) (l.frz hb (by rw [D.noraw] at n; exact n) fun a m => k a (List.mem_cons_of_mem _ m))
  | .dct _ _, _, _, .dct h e l, n, _ => by simp [D.noraw] at n
  | .raw _, _, _, .raw h, n, _ => by simp [D.noraw] at n
theorem OwnL.frz (hb : Same B B') : ∀ {ds : List D} {vs : List V} {f : List Addr}, OwnL K B H ds vs f → norawL ds = true → (∀ a ∈ f, B' a = H a) → OwnL K B' H (frzL ds) vs []
  | _, _, _, .nil, _, _ => .nil
  | d :: ds, _, _, .cons h l, n, k => by
    rw [norawL, Bool.and_eq_true] at n
    rw [frzL]
    exact .cons (f := []) (g := []) (h.frz hb n.1 fun a m => k a (List.mem_append_left _ m)) (l.frz hb n.2 fun a m => k a (List.mem_append_right _ m))
end

/-! ### the state: what is held, each by itself -/
structure Sta (K : PySem.W.Frag) (B H : Hp) (L : List (D × V)) : Prop where
  sub : Same B H
  own : ∃ fp, OwnL K B H (L.map (·.1)) (L.map (·.2)) fp ∧ fp.Nodup ∧ ∀ a ∈ fp, B a = none

theorem OwnL.perm {L L' : List (D × V)} (p : L.Perm L') : ∀ {fp : List Addr}, OwnL K B H (L.map (·.1)) (L.map (·.2)) fp → ∃ fp', OwnL K B H (L'.map (·.1)) (L'.map (·.2)) fp' ∧ fp.Perm fp' := by
  induction p with
  | nil => exact fun {fp} h => ⟨fp, h, .refl _⟩
  | cons x _ ih =>
    intro fp h
    rw [List.map_cons, List.map_cons] at h
    cases h with
    | cons o l =>
      obtain ⟨fp', l', q⟩ := ih l
      exact ⟨_, by rw [List.map_cons, List.map_cons]; exact .cons o l', List.Perm.append_left _ q⟩
  | swap x y l =>
    intro fp h
    rw [List.map_cons, List.map_cons, List.map_cons, List.map_cons] at h
    cases h with
    | cons o l =>
      cases l with
      | cons o' l =>
        rename_i f1 f2 f3
        refine ⟨_, by rw [List.map_cons, List.map_cons, List.map_cons, List.map_cons]; exact .cons o' (.cons o l), ?_⟩
        rw [← List.append_assoc, ← List.append_assoc]
        exact List.Perm.append_right _ List.perm_append_comm
  | trans _ _ i1 i2 =>
    intro fp h
    obtain ⟨f1, h1, p1⟩ := i1 h
    obtain ⟨f2, h2, p2⟩ := i2 h1
    exact ⟨f2, h2, p1.trans p2⟩

variable {L L' : List (D × V)} {d : D} {v : V} {ds : List D} {vs : List V} {p a : Addr} {o o' : HO}
theorem Sta.perm (h : Sta K B H L) (q : L.Perm L') : Sta K B H L' := by
  obtain ⟨s, fp, l, n, b⟩ := h
  obtain ⟨fp', l', p'⟩ := OwnL.perm q l
  exact ⟨s, fp', l', p'.nodup_iff.mp n, fun a m => b a (p'.mem_iff.mpr m)⟩
theorem Sta.drop (h : Sta K B H ((d, v) :: L)) : Sta K B H L := by
  obtain ⟨s, fp, l, n, b⟩ := h
  rw [List.map_cons, List.map_cons] at l
  cases l with
  | cons o l => exact ⟨s, _, l, (List.nodup_append.mp n).2.1, fun a m => b a (List.mem_append_right _ m)⟩
theorem Sta.dropL (h : Sta K B H (L' ++ L)) : Sta K B H L := by
  induction L' with
  | nil => exact h
  | cons x r ih => exact ih (Sta.drop (d := x.1) (v := x.2) h)
theorem Sta.here (h : Sta K B H ((d, v) :: L)) : ∃ f, Own K B H d v f := by
  obtain ⟨s, fp, l, n, b⟩ := h
  rw [List.map_cons, List.map_cons] at l
  cases l with
  | cons o l => exact ⟨_, o⟩
/-- a thing at rest is added -/
theorem Sta.add (h : Sta K B H L) (ho : Own K B H d v []) : Sta K B H ((d, v) :: L) := by
  obtain ⟨s, fp, l, n, b⟩ := h
  exact ⟨s, [] ++ fp, by rw [List.map_cons, List.map_cons]; exact .cons ho l, n, b⟩
theorem Sta.addP (h : Sta K B H L) {f : List Addr} (ho : Own K B H d v f) (hp : d.pure = true) : Sta K B H ((d, v) :: L) := by
  obtain rfl := ho.nofp hp
  exact h.add ho
theorem Sta.dup (h : Sta K B H ((d, v) :: L)) (hp : d.pure = true) : Sta K B H ((d, v) :: (d, v) :: L) := by
  obtain ⟨f, o⟩ := h.here
  exact h.addP o hp
theorem zip_fst : ∀ {ds : List D} {vs : List V}, ds.length = vs.length → (ds.zip vs).map (·.1) = ds
  | [], [], _ => rfl
  | [], _ :: _, e => nomatch e
  | _ :: _, [], e => nomatch e
  | d :: ds, v :: vs, e => by rw [List.zip_cons_cons, List.map_cons, zip_fst (Nat.succ.inj e)]
theorem zip_snd : ∀ {ds : List D} {vs : List V}, ds.length = vs.length → (ds.zip vs).map (·.2) = vs
  | [], [], _ => rfl
  | [], _ :: _, e => nomatch e
  | _ :: _, [], e => nomatch e
  | d :: ds, v :: vs, e => by rw [List.zip_cons_cons, List.map_cons, zip_snd (Nat.succ.inj e)]
theorem Sta.parts (h : Sta K B H (ds.zip vs ++ L)) (hl : ds.length = vs.length) : ∃ f g, OwnL K B H ds vs f ∧ OwnL K B H (L.map (·.1)) (L.map (·.2)) g ∧ (f ++ g).Nodup ∧ ∀ a ∈ f ++ g, B a = none := by
  obtain ⟨s, fp, l, n, b⟩ := h
  rw [List.map_append, List.map_append, zip_fst hl, zip_snd hl] at l
  obtain ⟨f, g, rfl, l1, l2⟩ := l.split hl
  exact ⟨f, g, l1, l2, n, b⟩
theorem Sta.ofParts {f g : List Addr} (hs : Same B H) (hl : ds.length = vs.length) (h1 : OwnL K B H ds vs f) (h2 : OwnL K B H (L.map (·.1)) (L.map (·.2)) g) (n : (f ++ g).Nodup) (b : ∀ a ∈ f ++ g, B a = none) : Sta K B H (ds.zip vs ++ L) := by
  refine ⟨hs, f ++ g, ?_, n, b⟩
  rw [List.map_append, List.map_append, zip_fst hl, zip_snd hl]
  exact h1.app h2
theorem same_updN {H : Hp} (h : H p = none) : Same H (upd H p o) := fun b u q => by
  rw [upd_ne (ne_of_none q h)]
  exact q
theorem Sta.bnone (h : Sta K B H L) (hp : H p = none) : B p = none := h.sub.free hp
/-- a new list -/
theorem Sta.newL (h : Sta K B H (ds.zip vs ++ L)) (hl : ds.length = vs.length) (hp : H p = none) : Sta K B (upd H p (.lst vs)) ((.mls ds, .ref p) :: L) := by
  obtain ⟨f, g, l1, l2, n, b⟩ := h.parts hl
  have hb := h.bnone hp
  have np : ∀ a ∈ f ++ g, a ≠ p := fun a m e => by
    subst e
    rcases List.mem_append.mp m with m | m
    · obtain ⟨o, q⟩ := l1.there a m
      rw [hp] at q; cases q
    · obtain ⟨o, q⟩ := l2.there a m
      rw [hp] at q; cases q
  have e : ∀ a ∈ f ++ g, upd H p (.lst vs) a = H a := fun a m => upd_ne (np a m)
  refine ⟨fun c u q => ?_, (p :: f) ++ g, ?_, ?_, ?_⟩
  · rw [upd_ne (ne_of_none (h.sub c u q) hp)]
    exact h.sub c u q
  · rw [List.map_cons, List.map_cons]
    exact .cons (.mls upd_same (l1.mono (.refl _) fun a m => e a (List.mem_append_left _ m))) (l2.mono (.refl _) fun a m => e a (List.mem_append_right _ m))
  · rw [List.cons_append, List.nodup_cons]
    exact ⟨fun m => np p m rfl, n⟩
  · intro a m
    rw [List.cons_append] at m
    rcases List.mem_cons.mp m with rfl | m
    · exact hb
    · exact b a m
/-- a new tuple -/
theorem Sta.newT (h : Sta K B H (ds.zip vs ++ L)) (hl : ds.length = vs.length) (hp : H p = none) : Same B (upd B p (.tup vs)) ∧ Sta K (upd B p (.tup vs)) (upd H p (.tup vs)) ((.tup ds, .ref p) :: L) := by
  obtain ⟨f, g, l1, l2, n, b⟩ := h.parts hl
  have hb := h.bnone hp
  have np : ∀ a ∈ f ++ g, a ≠ p := fun a m e => by
    subst e
    rcases List.mem_append.mp m with m | m
    · obtain ⟨o, q⟩ := l1.there a m
      rw [hp] at q; cases q
    · obtain ⟨o, q⟩ := l2.there a m
      rw [hp] at q; cases q
  have e : ∀ a ∈ f ++ g, upd H p (.tup vs) a = H a := fun a m => upd_ne (np a m)
  have sb : Same B (upd B p (.tup vs)) := same_updN hb
  refine ⟨sb, fun c u q => ?_, f ++ g, ?_, n, fun a m => ?_⟩
  · by_cases hc : c = p
    · subst hc
      rw [upd_same] at q ⊢
      exact q
    · rw [upd_ne hc] at q ⊢
      exact h.sub c u q
  · rw [List.map_cons, List.map_cons]
    exact .cons (.tup upd_same (l1.mono sb fun a m => e a (List.mem_append_left _ m))) (l2.mono sb fun a m => e a (List.mem_append_right _ m))
  · rw [upd_ne (np a m)]
    exact b a m
/-- a list that is held opened: what stands at its address, and its items -/
theorem Sta.openL (h : Sta K B H ((.mls ds, v) :: L)) : ∃ a vs, v = .ref a ∧ ds.length = vs.length ∧ H a = some (.lst vs) ∧ Sta K B H ((.raw (.lst vs), .ref a) :: (ds.zip vs ++ L)) := by
  obtain ⟨s, fp, l, n, b⟩ := h
  rw [List.map_cons, List.map_cons] at l
  cases l with
  | cons o l =>
    cases o with
    | mls ha li =>
      rename_i g a vs f
      refine ⟨a, vs, rfl, li.len, ha, s, [a] ++ (f ++ g), ?_, by simpa using n, by simpa using b⟩
      rw [List.map_cons, List.map_cons, List.map_append, List.map_append, zip_fst li.len, zip_snd li.len]
      exact .cons (.raw ha) (li.app l)
theorem Sta.closeL (h : Sta K B H ((.raw (.lst vs), .ref a) :: (ds.zip vs ++ L))) (hl : ds.length = vs.length) : Sta K B H ((.mls ds, .ref a) :: L) := by
  obtain ⟨s, fp, l, n, b⟩ := h
  rw [List.map_cons, List.map_cons, List.map_append, List.map_append, zip_fst hl, zip_snd hl] at l
  cases l with
  | cons o l =>
    cases o with
    | raw ha =>
      obtain ⟨f, g, rfl, l1, l2⟩ := l.split hl
      refine ⟨s, (a :: f) ++ g, ?_, by simpa using n, by simpa using b⟩
      rw [List.map_cons, List.map_cons]
      exact .cons (.mls ha l1) l2
/-- what stands at an address that is held is written anew -/
theorem Sta.put (h : Sta K B H ((.raw o, .ref a) :: L)) (o' : HO) : Sta K B (upd H a o') ((.raw o', .ref a) :: L) := by
  obtain ⟨s, fp, l, n, b⟩ := h
  rw [List.map_cons, List.map_cons] at l
  cases l with
  | cons q l =>
    cases q with
    | raw ha =>
      rename_i g
      have n' : (a :: g).Nodup := n
      have b' : ∀ c ∈ a :: g, B c = none := b
      refine ⟨fun c u q => ?_, [a] ++ g, ?_, n, b⟩
      · have hc : c ≠ a := fun e => by
          rw [e, b' a List.mem_cons_self] at q
          cases q
        rw [upd_ne hc]
        exact s c u q
      · rw [List.map_cons, List.map_cons]
        refine .cons (.raw upd_same) (l.mono (.refl _) fun c m => upd_ne ?_)
        rintro rfl
        exact (List.nodup_cons.mp n').1 m
theorem Sta.rawAt (h : Sta K B H ((.raw o, .ref a) :: L)) : H a = some o := by
  obtain ⟨f, q⟩ := h.here
  cases q with
  | raw ha => exact ha
/-- all of it is laid to rest -/
theorem Sta.freeze (h : Sta K B H ((d, v) :: L)) (hn : d.noraw = true) : ∃ B', Same B B' ∧ Sta K B' H ((d.frz, v) :: L) := by
  obtain ⟨s, fp, l, n, b⟩ := h
  rw [List.map_cons, List.map_cons] at l
  cases l with
  | cons o l =>
    rename_i f g
    have sb : Same B (fun a => if a ∈ f then H a else B a) := fun a u q => by
      show (if a ∈ f then H a else B a) = some u
      split
      · exact s a u q
      · exact q
    refine ⟨_, sb, fun a u q => ?_, [] ++ g, ?_, (List.nodup_append.mp n).2.1, fun a m => ?_⟩
    · have q' : (if a ∈ f then H a else B a) = some u := q
      split at q'
      · exact q'
      · exact s a u q'
    · rw [List.map_cons, List.map_cons]
      exact .cons (o.frz sb hn fun a m => if_pos m) (l.mono sb fun _ _ => rfl)
    · have na : a ∉ f := fun m' => (List.nodup_append.mp n).2.2 a m' a m rfl
      show (if a ∈ f then H a else B a) = none
      rw [if_neg na]
      exact b a (List.mem_append_right _ m)
end
end DL

set_option Elab.async false
set_option linter.all false
set_option maxRecDepth 100000
namespace DL
open PySem L2
abbrev DEnv := List (Option D)
/-- the slots that are known, with their values -/
def slots : DEnv → L2.St → List (D × V)
  | some d :: e, some v :: s => (d, v) :: slots e s
  | _ :: e, _ :: s => slots e s
  | _, _ => []
def Mat : DEnv → L2.St → Prop
  | [], [] => True
  | some _ :: e, some _ :: s => Mat e s
  | none :: e, _ :: s => Mat e s
  | _, _ => False
theorem Mat.len : ∀ {e : DEnv} {s : L2.St}, Mat e s → e.length = s.length
  | [], [], _ => rfl
  | some _ :: e, some _ :: s, h => by rw [List.length_cons, List.length_cons, Mat.len (e := e) (s := s) h]
  | none :: e, _ :: s, h => by rw [List.length_cons, List.length_cons, Mat.len (e := e) (s := s) h]
  | [], _ :: _, h => h.elim
  | some _ :: _, none :: _, h => h.elim
  | some _ :: _, [], h => h.elim
  | none :: _, [], h => h.elim
theorem mat_get : ∀ {e : DEnv} {s : L2.St} {i : Nat} {d : D}, Mat e s → e[i]? = some (some d) → ∃ v, s[i]? = some (some v) ∧ (slots e s).Perm ((d, v) :: slots (e.set i none) s) ∧ Mat (e.set i none) s
  | [], _, _, _, _, h => by simp at h
  | some x :: e, some v :: s, 0, d, m, h => by
    simp at h
    subst h
    exact ⟨v, rfl, .refl _, m⟩
  | none :: e, v :: s, 0, d, m, h => by simp at h
  | some x :: e, some v :: s, i + 1, d, m, h => by
    obtain ⟨w, h1, h2, h3⟩ := mat_get (e := e) (s := s) (i := i) m (by simpa using h)
    refine ⟨w, by simpa using h1, ?_, h3⟩
    show ((x, v) :: slots e s).Perm ((d, w) :: (x, v) :: slots (e.set i none) s)
    exact (List.Perm.cons _ h2).trans (.swap _ _ _)
  | none :: e, v :: s, i + 1, d, m, h => by
    obtain ⟨w, h1, h2, h3⟩ := mat_get (e := e) (s := s) (i := i) m (by simpa using h)
    refine ⟨w, by simpa using h1, ?_, h3⟩
    show (slots e s).Perm ((d, w) :: slots (e.set i none) s)
    exact h2
  | some _ :: _, none :: _, _, _, m, _ => m.elim
  | some _ :: _, [], _, _, m, _ => m.elim
  | none :: _, [], _, _, m, _ => m.elim
/-- a slot is known again -/
theorem mat_put : ∀ {e : DEnv} {s : L2.St} {i : Nat} {d : D} {v : V}, Mat e s → s[i]? = some (some v) → (slots (e.set i (some d)) s).Perm ((d, v) :: slots (e.set i none) s) ∧ Mat (e.set i (some d)) s
  | [], [], _, _, _, _, h => by simp at h
  | some x :: e, some v :: s, 0, d, w, m, h => by
    simp at h
    subst h
    exact ⟨.refl _, m⟩
  | none :: e, some v :: s, 0, d, w, m, h => by
    simp at h
    subst h
    exact ⟨.refl _, m⟩
  | none :: e, none :: s, 0, d, w, m, h => by simp at h
  | some x :: e, some u :: s, i + 1, d, w, m, h => by
    obtain ⟨h2, h3⟩ := mat_put (e := e) (s := s) (i := i) (d := d) (v := w) m (by simpa using h)
    refine ⟨?_, h3⟩
    show ((x, u) :: slots (e.set i (some d)) s).Perm ((d, w) :: (x, u) :: slots (e.set i none) s)
    exact (List.Perm.cons _ h2).trans (.swap _ _ _)
  | none :: e, u :: s, i + 1, d, w, m, h => by
    obtain ⟨h2, h3⟩ := mat_put (e := e) (s := s) (i := i) (d := d) (v := w) m (by simpa using h)
    refine ⟨?_, h3⟩
    show (slots (e.set i (some d)) s).Perm ((d, w) :: slots (e.set i none) s)
    exact h2
  | [], _ :: _, _, _, _, m, _ => m.elim
  | some _ :: _, none :: _, _, _, _, m, _ => m.elim
  | some _ :: _, [], _, _, _, m, _ => m.elim
  | none :: _, [], _, _, _, m, _ => m.elim
/-- a slot is stored -/
theorem mat_asg : ∀ {e : DEnv} {s : L2.St} {i : Nat} {d : D} {v : V}, Mat e s → i < e.length → (slots (e.set i (some d)) (s.set i (some v))).Perm ((d, v) :: slots (e.set i none) s) ∧ Mat (e.set i (some d)) (s.set i (some v))
  | [], [], _, _, _, _, h => by simp at h
  | some x :: e, some v :: s, 0, d, w, m, h => ⟨.refl _, m⟩
  | none :: e, some v :: s, 0, d, w, m, h => ⟨.refl _, m⟩
  | none :: e, none :: s, 0, d, w, m, h => ⟨.refl _, m⟩
  | some x :: e, some u :: s, i + 1, d, w, m, h => by
    obtain ⟨h2, h3⟩ := mat_asg (e := e) (s := s) (i := i) (d := d) (v := w) m (by simpa using h)
    refine ⟨?_, h3⟩
    show ((x, u) :: slots (e.set i (some d)) (s.set i (some w))).Perm ((d, w) :: (x, u) :: slots (e.set i none) s)
    exact (List.Perm.cons _ h2).trans (.swap _ _ _)
  | none :: e, u :: s, i + 1, d, w, m, h => by
    obtain ⟨h2, h3⟩ := mat_asg (e := e) (s := s) (i := i) (d := d) (v := w) m (by simpa using h)
    refine ⟨?_, h3⟩
    show (slots (e.set i (some d)) (s.set i (some w))).Perm ((d, w) :: slots (e.set i none) s)
    exact h2
  | [], _ :: _, _, _, _, m, _ => m.elim
  | some _ :: _, none :: _, _, _, _, m, _ => m.elim
  | some _ :: _, [], _, _, _, m, _ => m.elim
  | none :: _, [], _, _, _, m, _ => m.elim
/-- a slot is forgotten -/
theorem mat_forget : ∀ {e : DEnv} {s : L2.St} (i : Nat), Mat e s → Mat (e.set i none) s ∧ (∃ r, (slots e s).Perm (r ++ slots (e.set i none) s)) ∧ ∀ u, Mat (e.set i none) (s.set i u) ∧ slots (e.set i none) (s.set i u) = slots (e.set i none) s
  | [], [], _, _ => ⟨trivial, ⟨[], .refl _⟩, fun _ => ⟨trivial, rfl⟩⟩
  | some x :: e, some v :: s, 0, m => ⟨m, ⟨[(x, v)], .refl _⟩, fun _ => ⟨m, rfl⟩⟩
  | none :: e, v :: s, 0, m => ⟨m, ⟨[], .refl _⟩, fun _ => ⟨m, rfl⟩⟩
  | some x :: e, some u :: s, i + 1, m => by
    obtain ⟨h1, ⟨r, h2⟩, h3⟩ := mat_forget (e := e) (s := s) i m
    refine ⟨h1, ⟨r, ?_⟩, fun w => ⟨(h3 w).1, ?_⟩⟩
    · show ((x, u) :: slots e s).Perm (r ++ (x, u) :: slots (e.set i none) s)
      exact (List.Perm.cons _ h2).trans List.perm_middle.symm
    · show (x, u) :: slots (e.set i none) (s.set i w) = (x, u) :: slots (e.set i none) s
      rw [(h3 w).2]
  | none :: e, u :: s, i + 1, m => by
    obtain ⟨h1, ⟨r, h2⟩, h3⟩ := mat_forget (e := e) (s := s) i m
    exact ⟨h1, ⟨r, h2⟩, fun w => ⟨(h3 w).1, (h3 w).2⟩⟩
  | [], _ :: _, _, m => m.elim
  | some _ :: _, none :: _, _, m => m.elim
  | some _ :: _, [], _, m => m.elim
  | none :: _, [], _, m => m.elim

/-- the state of a body: its slots, and what is held besides -/
structure In (K : PySem.W.Frag) (B H : Hp) (env : DEnv) (σ : L2.St) (L : List (D × V)) : Prop where
  mat : Mat env σ
  sta : Sta K B H (slots env σ ++ L)

section
variable {K : PySem.W.Frag}
/-- what a value says, read where nothing changes -/
def Pk (K : PySem.W.Frag) (te : TE) (env : DEnv) (d : D) : Prop :=
  ∀ (B H : Hp) (σ : L2.St) (L : List (D × V)), In K B H env σ L → ∃ v f, Own K B H d v f ∧ ∀ Q : VK, Q v H → te σ H Q
def PkT (K : PySem.W.Frag) (tt : TT) (env : DEnv) (b : Bool) : Prop :=
  ∀ (B H : Hp) (σ : L2.St) (L : List (D × V)), In K B H env σ L → ∀ Q : Bool → Hp → Prop, Q b H → tt σ H Q
/-- an expression that may change what the slots hold -/
def XE (K : PySem.W.Frag) (te : TE) (env : DEnv) (Q : D → DEnv → Prop) : Prop :=
  ∀ (B H : Hp) (σ : L2.St) (L : List (D × V)), In K B H env σ L → ∀ Q' : VK,
    (∀ d env' v B' H', Q d env' → Same B B' → Mat env' σ → Sta K B' H' ((d, v) :: (slots env' σ ++ L)) → Q' v H') → te σ H Q'
def XT (K : PySem.W.Frag) (tt : TT) (env : DEnv) (Q : Bool → DEnv → Prop) : Prop :=
  ∀ (B H : Hp) (σ : L2.St) (L : List (D × V)), In K B H env σ L → ∀ Q' : Bool → Hp → Prop,
    (∀ b env' B' H', Q b env' → Same B B' → Mat env' σ → Sta K B' H' (slots env' σ ++ L) → Q' b H') → tt σ H Q'
/-- an argument: a value, or a slot that is lent -/
inductive Arg where
  | val (d : D) | bor (i : Nat)
/-- the values of the arguments, beside their words -/
inductive ArgV (σ : L2.St) : List Arg → List V → List (D × V) → Prop where
  | nil : ArgV σ [] [] []
  | val {d : D} {v : V} {as : List Arg} {vs : List V} {l : List (D × V)} : ArgV σ as vs l → ArgV σ (.val d :: as) (v :: vs) ((d, v) :: l)
  | bor {i : Nat} {v : V} {as : List Arg} {vs : List V} {l : List (D × V)} : σ[i]? = some (some v) → ArgV σ as vs l → ArgV σ (.bor i :: as) (v :: vs) l
def XA (K : PySem.W.Frag) (ta : TA) (env : DEnv) (Q : List Arg → DEnv → Prop) : Prop :=
  ∀ (B H : Hp) (σ : L2.St) (L : List (D × V)), In K B H env σ L → ∀ Q' : List V → Hp → Prop,
    (∀ as env' vs l B' H', Q as env' → Same B B' → Mat env' σ → ArgV σ as vs l → Sta K B' H' (l ++ (slots env' σ ++ L)) → Q' vs H') → ta σ H Q'

theorem XE.imp {te : TE} {env : DEnv} {Q R : D → DEnv → Prop} (h : XE K te env Q) (f : ∀ d e, Q d e → R d e) : XE K te env R :=
  fun B H σ L I Q' k => h B H σ L I Q' fun d env' v B' H' q => k d env' v B' H' (f _ _ q)
theorem XT.imp {tt : TT} {env : DEnv} {Q R : Bool → DEnv → Prop} (h : XT K tt env Q) (f : ∀ d e, Q d e → R d e) : XT K tt env R :=
  fun B H σ L I Q' k => h B H σ L I Q' fun d env' B' H' q => k d env' B' H' (f _ _ q)

theorem Sta.front {B H : Hp} {L L' M : List (D × V)} (h : Sta K B H (L ++ M)) (p : L.Perm L') : Sta K B H (L' ++ M) := h.perm (p.append_right M)
/-- reading once more what is at rest -/
theorem xe_pk {te : TE} {env : DEnv} {d : D} {Q : D → DEnv → Prop} (h : Pk K te env d) (hp : d.pure = true) (q : Q d env) : XE K te env Q := fun B H σ L I Q' k => by
  obtain ⟨v, f, o, r⟩ := h B H σ L I
  exact r Q' (k d env v B H q (.refl _) I.mat (I.sta.addP o hp))
theorem xt_pk {tt : TT} {env : DEnv} {b : Bool} {Q : Bool → DEnv → Prop} (h : PkT K tt env b) (q : Q b env) : XT K tt env Q := fun B H σ L I Q' k =>
  h B H σ L I _ (k b env B H q (.refl _) I.mat I.sta)

/-! ### names and constants -/
theorem pk_var {env : DEnv} {i : Nat} {d : D} (h : env[i]? = some (some d)) : Pk K (tVar i) env d := fun B H σ L I => by
  obtain ⟨v, e, p, m⟩ := mat_get I.mat h
  obtain ⟨f, o⟩ := (I.sta.front p).here
  exact ⟨v, f, o, fun Q q => ⟨v, e, q⟩⟩
/-- what a slot holds goes out of it -/
theorem xe_mov {env : DEnv} {i : Nat} {d : D} {Q : D → DEnv → Prop} (h : env[i]? = some (some d)) (q : Q d (env.set i none)) : XE K (tVar i) env Q := fun B H σ L I Q' k => by
  obtain ⟨v, e, p, m⟩ := mat_get I.mat h
  exact ⟨v, e, k d _ v B H q (.refl _) m (I.sta.front p)⟩
theorem pk_int {env : DEnv} {i : Int} : Pk K (tC (.int i)) env (.int i) := fun B H σ L I => ⟨_, _, .int i, fun _ q => q⟩
theorem pk_bl {env : DEnv} {b : Bool} : Pk K (tC (.bl b)) env (.bl b) := fun B H σ L I => ⟨_, _, .bl b, fun _ q => q⟩
theorem pk_str {env : DEnv} {s : Str} : Pk K (tC (.str s)) env (.str s) := fun B H σ L I => ⟨_, _, .str s, fun _ q => q⟩
theorem pk_non {env : DEnv} : Pk K (tC .non) env .non := fun B H σ L I => ⟨_, _, .non, fun _ q => q⟩

/-! ### operators on numbers -/
/-- the data that a scalar is -/
def toD : V → D
  | .bl b => .bl b
  | .int i => .int i
  | .str s => .str s
  | _ => .non
def isSc : V → Bool
  | .non => true
  | .bl _ => true
  | .int _ => true
  | .str _ => true
  | _ => false
theorem own_toD {B H : Hp} : ∀ {v : V}, isSc v = true → Own K B H (toD v) v []
  | .non, _ => .non
  | .bl b, _ => .bl b
  | .int i, _ => .int i
  | .str s, _ => .str s
  | .byt _, h => by cases h
  | .flt _, h => by cases h
  | .ref _, h => by cases h
  | .ty _, h => by cases h
theorem toD_pure : ∀ (v : V), (toD v).pure = true
  | .non => rfl
  | .bl b => rfl
  | .int i => rfl
  | .str s => rfl
  | .byt _ => rfl
  | .flt _ => rfl
  | .ref _ => rfl
  | .ty _ => rfl
theorem Own.int_inv {B H : Hp} {i : Int} {v : V} {f : List Addr} (h : Own K B H (.int i) v f) : v = .int i := by cases h; rfl
theorem Own.bl_inv {B H : Hp} {i : Bool} {v : V} {f : List Addr} (h : Own K B H (.bl i) v f) : v = .bl i := by cases h; rfl
theorem Own.str_inv {B H : Hp} {i : Str} {v : V} {f : List Addr} (h : Own K B H (.str i) v f) : v = .str i := by cases h; rfl
theorem Own.non_inv {B H : Hp} {v : V} {f : List Addr} (h : Own K B H .non v f) : v = .non := by cases h; rfl
/-- two numbers -/
theorem pk_I0 {g : Int → Int → V} {ta tb : TE} {env : DEnv} {i j : Int} (ha : Pk K ta env (.int i)) (hb : Pk K tb env (.int j)) (hs : isSc (g i j) = true) : Pk K (tOp (rI0 g) ta tb) env (toD (g i j)) := fun B H σ L I => by
  obtain ⟨v, f, o, r⟩ := ha B H σ L I
  obtain ⟨u, f', o', r'⟩ := hb B H σ L I
  cases o.int_inv
  cases o'.int_inv
  exact ⟨_, _, own_toD hs, fun Q q => r _ (r' _ ⟨i, j, rfl, rfl, q⟩)⟩
theorem pk_I {C : Int → Int → Prop} {g : Int → Int → V} {ta tb : TE} {env : DEnv} {i j : Int} (ha : Pk K ta env (.int i)) (hb : Pk K tb env (.int j)) (hc : C i j) (hs : isSc (g i j) = true) : Pk K (tOp (rI C g) ta tb) env (toD (g i j)) := fun B H σ L I => by
  obtain ⟨v, f, o, r⟩ := ha B H σ L I
  obtain ⟨u, f', o', r'⟩ := hb B H σ L I
  cases o.int_inv
  cases o'.int_inv
  exact ⟨_, _, own_toD hs, fun Q q => r _ (r' _ ⟨i, j, rfl, rfl, hc, q⟩)⟩
abbrev rAdd2 : R2 := rI0 fun i j => .int (i + j)
abbrev rSub2 : R2 := rI0 fun i j => .int (i - j)
abbrev rMul2 : R2 := rI CMul fun i j => .int (i * j)
abbrev rMod2 : R2 := rI (fun _ j => 0 < j) fun i j => .int (i % j)
abbrev rDiv2 : R2 := rI CDiv fun i j => .int (i / j)
abbrev rPow2 : R2 := rI CPow fun i j => .int (i ^ j.toNat)
abbrev rLt2 : R2 := rI0 fun i j => .bl (decide (i < j))
abbrev rLe2 : R2 := rI0 fun i j => .bl (decide (i ≤ j))
abbrev rGt2 : R2 := rI0 fun i j => .bl (decide (j < i))
abbrev rGe2 : R2 := rI0 fun i j => .bl (decide (j ≤ i))
section
variable {ta tb : TE} {env : DEnv} {i j : Int}
theorem pk_add (ha : Pk K ta env (.int i)) (hb : Pk K tb env (.int j)) : Pk K (tOp rAdd2 ta tb) env (.int (i + j)) := pk_I0 ha hb rfl
theorem pk_sub (ha : Pk K ta env (.int i)) (hb : Pk K tb env (.int j)) : Pk K (tOp rSub2 ta tb) env (.int (i - j)) := pk_I0 ha hb rfl
theorem pk_mul (ha : Pk K ta env (.int i)) (hb : Pk K tb env (.int j)) (hc : CMul i j) : Pk K (tOp rMul2 ta tb) env (.int (i * j)) := pk_I ha hb hc rfl
theorem pk_mod (ha : Pk K ta env (.int i)) (hb : Pk K tb env (.int j)) (hc : 0 < j) : Pk K (tOp rMod2 ta tb) env (.int (i % j)) := pk_I ha hb hc rfl
theorem pk_div (ha : Pk K ta env (.int i)) (hb : Pk K tb env (.int j)) (hc : CDiv i j) : Pk K (tOp rDiv2 ta tb) env (.int (i / j)) := pk_I ha hb hc rfl
theorem pk_pow (ha : Pk K ta env (.int i)) (hb : Pk K tb env (.int j)) (hc : CPow i j) : Pk K (tOp rPow2 ta tb) env (.int (i ^ j.toNat)) := pk_I ha hb hc rfl
theorem pk_lt (ha : Pk K ta env (.int i)) (hb : Pk K tb env (.int j)) : Pk K (tOp rLt2 ta tb) env (.bl (decide (i < j))) := pk_I0 ha hb rfl
theorem pk_le (ha : Pk K ta env (.int i)) (hb : Pk K tb env (.int j)) : Pk K (tOp rLe2 ta tb) env (.bl (decide (i ≤ j))) := pk_I0 ha hb rfl
theorem pk_gt (ha : Pk K ta env (.int i)) (hb : Pk K tb env (.int j)) : Pk K (tOp rGt2 ta tb) env (.bl (decide (j < i))) := pk_I0 ha hb rfl
theorem pk_ge (ha : Pk K ta env (.int i)) (hb : Pk K tb env (.int j)) : Pk K (tOp rGe2 ta tb) env (.bl (decide (j ≤ i))) := pk_I0 ha hb rfl
abbrev rNeg : V → Hp → VK → Prop := rU fun i => .int (-i)
theorem pk_neg (ha : Pk K ta env (.int i)) : Pk K (tUn rNeg ta) env (.int (-i)) := fun B H σ L I => by
  obtain ⟨v, f, o, r⟩ := ha B H σ L I
  cases o.int_inv
  exact ⟨_, _, .int (-i), fun Q q => r _ ⟨i, rfl, q⟩⟩
/-- == and != of scalars -/
def scD : D → D → Bool
  | .non, .non => true | .non, .int _ => true | .int _, .non => true | .non, .bl _ => true | .bl _, .non => true | .non, .str _ => true | .str _, .non => true
  | .int _, .int _ => true | .bl _, .bl _ => true | .str _, .str _ => true
  | .int _, .str _ => true | .str _, .int _ => true | .bl _, .str _ => true | .str _, .bl _ => true
  | _, _ => false
def eqS : D → D → Bool
  | .non, .non => true
  | .int i, .int j => decide (i = j)
  | .bl i, .bl j => decide (i = j)
  | .str i, .str j => decide (i = j)
  | _, _ => false
theorem sc_of {B H : Hp} {x y : D} {v u : V} {f g : List Addr} (hx : Own K B H x v f) (hy : Own K B H y u g) (h : scD x y = true) : scal v u = true ∧ decide (v = u) = eqS x y := by
  cases hx <;> cases hy <;> first | (cases h; done) | exact ⟨rfl, by simp [eqS]⟩ | exact ⟨rfl, by simp⟩
theorem pk_eq {x y : D} (ha : Pk K ta env x) (hb : Pk K tb env y) (h : scD x y = true) : Pk K (tOp rEq ta tb) env (.bl (eqS x y)) := fun B H σ L I => by
  obtain ⟨v, f, o, r⟩ := ha B H σ L I
  obtain ⟨u, f', o', r'⟩ := hb B H σ L I
  obtain ⟨s1, s2⟩ := sc_of o o' h
  refine ⟨_, _, .bl (eqS x y), fun Q q => r _ (r' _ ⟨s1, ?_⟩)⟩
  rw [s2]
  exact q
theorem pk_ne {x y : D} (ha : Pk K ta env x) (hb : Pk K tb env y) (h : scD x y = true) : Pk K (tOp rNe ta tb) env (.bl (!eqS x y)) := fun B H σ L I => by
  obtain ⟨v, f, o, r⟩ := ha B H σ L I
  obtain ⟨u, f', o', r'⟩ := hb B H σ L I
  obtain ⟨s1, s2⟩ := sc_of o o' h
  refine ⟨_, _, .bl (!eqS x y), fun Q q => r _ (r' _ ⟨s1, ?_⟩)⟩
  rw [s2]
  exact q
theorem pk_eqI (ha : Pk K ta env (.int i)) (hb : Pk K tb env (.int j)) : Pk K (tOp rEq ta tb) env (.bl (decide (i = j))) := pk_eq ha hb rfl
theorem pk_neI (ha : Pk K ta env (.int i)) (hb : Pk K tb env (.int j)) : Pk K (tOp rNe ta tb) env (.bl (!decide (i = j))) := pk_ne ha hb rfl
/-- is None -/
def D.isN : D → Bool
  | .non => true
  | _ => false
theorem isN_of {B H : Hp} {x : D} {v : V} {f : List Addr} (hx : Own K B H x v f) : decide (v = V.non) = x.isN := by cases hx <;> rfl
abbrev rIsN2 : R2 := fun x y H Q => y = .non ∧ Q (.bl (decide (x = .non))) H
abbrev rNotN2 : R2 := fun x y H Q => y = .non ∧ Q (.bl (!decide (x = .non))) H
theorem pk_isN {x : D} (ha : Pk K ta env x) : Pk K (tOp rIsN2 ta (tC .non)) env (.bl x.isN) := fun B H σ L I => by
  obtain ⟨v, f, o, r⟩ := ha B H σ L I
  refine ⟨_, _, .bl x.isN, fun Q q => r _ ⟨rfl, ?_⟩⟩
  rw [isN_of o]
  exact q
theorem pk_notN {x : D} (ha : Pk K ta env x) : Pk K (tOp rNotN2 ta (tC .non)) env (.bl (!x.isN)) := fun B H σ L I => by
  obtain ⟨v, f, o, r⟩ := ha B H σ L I
  refine ⟨_, _, .bl (!x.isN), fun Q q => r _ ⟨rfl, ?_⟩⟩
  rw [isN_of o]
  exact q
end

/-! ### lists and tuples read -/
def D.isL : D → Option (List D)
  | .lst ds => some ds
  | .cst ds => some ds
  | .mls ds => some ds
  | _ => none
def D.isT : D → Option (List D)
  | .tup ds => some ds
  | _ => none
def D.isS : D → Option (List D)
  | .lst ds => some ds
  | .cst ds => some ds
  | .mls ds => some ds
  | .tup ds => some ds
  | _ => none
theorem own_L {B H : Hp} {t : D} {v : V} {f : List Addr} {ds : List D} (o : Own K B H t v f) (hs : Same B H) (h : t.isL = some ds) : ∃ a vs g, v = .ref a ∧ SqL K H a vs ∧ OwnL K B H ds vs g := by
  cases o with
  | lst q l => cases h; exact ⟨_, _, _, rfl, .inl (.inl (hs _ _ q)), l⟩
  | cst q l => cases h; exact ⟨_, _, _, rfl, sql_mono hs q, l⟩
  | mls q l => cases h; exact ⟨_, _, _, rfl, .inl (.inl q), l⟩
  | _ => cases h
theorem own_T {B H : Hp} {t : D} {v : V} {f : List Addr} {ds : List D} (o : Own K B H t v f) (hs : Same B H) (h : t.isT = some ds) : ∃ a vs g, v = .ref a ∧ SqT K H a vs ∧ OwnL K B H ds vs g := by
  cases o with
  | tup q l => cases h; exact ⟨_, _, _, rfl, .inl (.inl (hs _ _ q)), l⟩
  | _ => cases h
theorem own_S {B H : Hp} {t : D} {v : V} {f : List Addr} {ds : List D} (o : Own K B H t v f) (hs : Same B H) (h : t.isS = some ds) : ∃ a vs g, v = .ref a ∧ (SqL K H a vs ∨ SqT K H a vs) ∧ OwnL K B H ds vs g := by
  cases o with
  | lst q l => cases h; exact ⟨_, _, _, rfl, .inl (.inl (.inl (hs _ _ q))), l⟩
  | cst q l => cases h; exact ⟨_, _, _, rfl, .inl (sql_mono hs q), l⟩
  | mls q l => cases h; exact ⟨_, _, _, rfl, .inl (.inl (.inl q)), l⟩
  | tup q l => cases h; exact ⟨_, _, _, rfl, .inr (.inl (.inl (hs _ _ q))), l⟩
  | _ => cases h
theorem OwnL.at {B H : Hp} {ds : List D} {vs : List V} {f : List Addr} {i : Int} {d : D} (h : OwnL K B H ds vs f) (e : atI ds i = some d) : ∃ v g, atI vs i = some v ∧ Own K B H d v g := by
  unfold atI at e ⊢
  rw [← h.len]
  cases q : ixN ds.length i with
  | none => rw [q] at e; cases e
  | some j =>
    rw [q] at e
    obtain ⟨v, g, e1, o, _⟩ := h.get (show ds[j]? = some d from e)
    exact ⟨v, g, e1, o⟩
section
variable {ta tb : TE} {env : DEnv} {t d : D} {ds : List D} {i : Int}
theorem pk_ixL (ha : Pk K ta env t) (hb : Pk K tb env (.int i)) (ht : t.isL = some ds) (hi : atI ds i = some d) : Pk K (tOp (rIxL K) ta tb) env d := fun B H σ L I => by
  obtain ⟨v, f, o, r⟩ := ha B H σ L I
  obtain ⟨u, f', o', r'⟩ := hb B H σ L I
  cases o'.int_inv
  obtain ⟨a, vs, g, rfl, hq, l⟩ := own_L o I.sta.sub ht
  obtain ⟨x, g', e, ox⟩ := l.at hi
  exact ⟨x, g', ox, fun Q q => r _ (r' _ ⟨a, vs, i, x, rfl, rfl, hq, e, q⟩)⟩
theorem pk_ixT (ha : Pk K ta env t) (hb : Pk K tb env (.int i)) (ht : t.isT = some ds) (hi : atI ds i = some d) : Pk K (tOp (rIxT K) ta tb) env d := fun B H σ L I => by
  obtain ⟨v, f, o, r⟩ := ha B H σ L I
  obtain ⟨u, f', o', r'⟩ := hb B H σ L I
  cases o'.int_inv
  obtain ⟨a, vs, g, rfl, hq, l⟩ := own_T o I.sta.sub ht
  obtain ⟨x, g', e, ox⟩ := l.at hi
  exact ⟨x, g', ox, fun Q q => r _ (r' _ ⟨a, vs, i, x, rfl, rfl, hq, e, q⟩)⟩
/-- of a list or a tuple, whichever -/
abbrev rIxS2 (K : PySem.W.Frag) : R2 := fun x y H Q => rIxL K x y H Q ∨ rIxT K x y H Q
theorem pk_ixS (ha : Pk K ta env t) (hb : Pk K tb env (.int i)) (ht : t.isS = some ds) (hi : atI ds i = some d) : Pk K (tOp (rIxS2 K) ta tb) env d := fun B H σ L I => by
  obtain ⟨v, f, o, r⟩ := ha B H σ L I
  obtain ⟨u, f', o', r'⟩ := hb B H σ L I
  cases o'.int_inv
  obtain ⟨a, vs, g, rfl, hq, l⟩ := own_S o I.sta.sub ht
  obtain ⟨x, g', e, ox⟩ := l.at hi
  rcases hq with hq | hq
  · exact ⟨x, g', ox, fun Q q => r _ (r' _ (.inl ⟨a, vs, i, x, rfl, rfl, hq, e, q⟩))⟩
  · exact ⟨x, g', ox, fun Q q => r _ (r' _ (.inr ⟨a, vs, i, x, rfl, rfl, hq, e, q⟩))⟩
abbrev rLen2 (K : PySem.W.Frag) : List V → Hp → VK → Prop := fun xs H Q => ∃ p ys, xs = [.ref p] ∧ (SqL K H p ys ∨ SqT K H p ys) ∧ Q (.int ys.length) H
theorem pk_len (ha : Pk K ta env t) (ht : t.isS = some ds) : Pk K (tCB (rLen2 K) (tCons ta tNil)) env (.int ds.length) := fun B H σ L I => by
  obtain ⟨v, f, o, r⟩ := ha B H σ L I
  obtain ⟨a, vs, g, rfl, hq, l⟩ := own_S o I.sta.sub ht
  refine ⟨_, _, .int ds.length, fun Q q => r _ ⟨a, vs, rfl, hq, ?_⟩⟩
  rw [← l.len]
  exact q
end

/-! ### tests -/
section
variable {te : TE} {tt tu : TT} {env : DEnv} {b c : Bool}
theorem pkt_test (h : Pk K te env (.bl b)) : PkT K (tTest te) env b := fun B H σ L I Q q => by
  obtain ⟨v, f, o, r⟩ := h B H σ L I
  cases o.bl_inv
  exact r _ ⟨b, rfl, q⟩
theorem pkt_B (h : Pk K te env (.bl b)) : PkT K (tB te) env b := fun B H σ L I Q q => by
  obtain ⟨v, f, o, r⟩ := h B H σ L I
  cases o.bl_inv
  exact r _ ⟨b, rfl, q⟩
theorem pkt_not (h : PkT K tt env b) : PkT K (tNot tt) env (!b) := fun B H σ L I Q q => h B H σ L I (fun c H1 => Q (!c) H1) q
theorem pkt_and (h : PkT K tt env b) (h' : b = true → PkT K tu env c) : PkT K (tAnd tt tu) env (b && c) := fun B H σ L I Q q => h B H σ L I _ (by
  cases b with
  | true => exact iteT (h' rfl B H σ L I Q q)
  | false => exact iteF q)
theorem pkt_or (h : PkT K tt env b) (h' : b = false → PkT K tu env c) : PkT K (tOr tt tu) env (b || c) := fun B H σ L I Q q => h B H σ L I _ (by
  cases b with
  | true => exact iteT q
  | false => exact iteF (h' rfl B H σ L I Q q))
theorem xt_test {Q : Bool → DEnv → Prop} (h : XE K te env fun d e => ∃ b, d = .bl b ∧ Q b e) : XT K (tTest te) env Q := fun B H σ L I Q' k =>
  h B H σ L I _ fun d env' v B' H' ⟨b, e, q⟩ sb m s => by
    subst e
    obtain ⟨f, o⟩ := s.here
    cases o.bl_inv
    exact ⟨b, rfl, k b env' B' H' q sb m s.drop⟩
theorem xt_B {Q : Bool → DEnv → Prop} (h : XE K te env fun d e => ∃ b, d = .bl b ∧ Q b e) : XT K (tB te) env Q := xt_test h
theorem xt_not {Q : Bool → DEnv → Prop} (h : XT K tt env fun b e => Q (!b) e) : XT K (tNot tt) env Q := fun B H σ L I Q' k =>
  h B H σ L I _ fun b env' B' H' q sb m s => k (!b) env' B' H' q sb m s
theorem xt_and {Q : Bool → DEnv → Prop} (h : XT K tt env fun b e => (b = true → XT K tu e Q) ∧ (b = false → Q false e)) : XT K (tAnd tt tu) env Q := fun B H σ L I Q' k =>
  h B H σ L I _ fun b env' B' H' q sb m s => by
    cases b with
    | true => exact iteT (q.1 rfl B' H' σ L ⟨m, s⟩ Q' fun c e2 B2 H2 q2 sb2 => k c e2 B2 H2 q2 (sb.trans sb2))
    | false => exact iteF (k false env' B' H' (q.2 rfl) sb m s)
theorem xt_or {Q : Bool → DEnv → Prop} (h : XT K tt env fun b e => (b = true → Q true e) ∧ (b = false → XT K tu e Q)) : XT K (tOr tt tu) env Q := fun B H σ L I Q' k =>
  h B H σ L I _ fun b env' B' H' q sb m s => by
    cases b with
    | true => exact iteT (k true env' B' H' (q.1 rfl) sb m s)
    | false => exact iteF (q.2 rfl B' H' σ L ⟨m, s⟩ Q' fun c e2 B2 H2 q2 sb2 => k c e2 B2 H2 q2 (sb.trans sb2))
/-- a value's and, or, not -/
theorem pk_andV {ta tb : TE} (h : Pk K ta env (.bl b)) (h' : b = true → Pk K tb env (.bl c)) : Pk K (tAndV ta tb) env (.bl (b && c)) := fun B H σ L I => by
  obtain ⟨v, f, o, r⟩ := h B H σ L I
  cases o.bl_inv
  refine ⟨_, _, .bl (b && c), fun Q q => r _ ⟨b, rfl, ?_⟩⟩
  cases b with
  | true =>
    obtain ⟨u, g, o', r'⟩ := h' rfl B H σ L I
    cases o'.bl_inv
    exact iteT (r' Q q)
  | false => exact iteF q
theorem pk_orV {ta tb : TE} (h : Pk K ta env (.bl b)) (h' : b = false → Pk K tb env (.bl c)) : Pk K (tOrV ta tb) env (.bl (b || c)) := fun B H σ L I => by
  obtain ⟨v, f, o, r⟩ := h B H σ L I
  cases o.bl_inv
  refine ⟨_, _, .bl (b || c), fun Q q => r _ ⟨b, rfl, ?_⟩⟩
  cases b with
  | true => exact iteT q
  | false =>
    obtain ⟨u, g, o', r'⟩ := h' rfl B H σ L I
    cases o'.bl_inv
    exact iteF (r' Q q)
theorem pk_notV {ta : TE} (h : Pk K ta env (.bl b)) : Pk K (tNotV ta) env (.bl (!b)) := fun B H σ L I => by
  obtain ⟨v, f, o, r⟩ := h B H σ L I
  cases o.bl_inv
  exact ⟨_, _, .bl (!b), fun Q q => r _ ⟨b, rfl, q⟩⟩
end

/-! ### operators that change the slots on the way -/
section
variable {ta tb : TE} {env : DEnv} {Q : D → DEnv → Prop}
theorem xe_I0 {g : Int → Int → V} (h : XE K ta env fun x e1 => ∃ i, x = .int i ∧ XE K tb e1 fun y e2 => ∃ j, y = .int j ∧ isSc (g i j) = true ∧ Q (toD (g i j)) e2) : XE K (tOp (rI0 g) ta tb) env Q := fun B H σ L I Q' k =>
  h B H σ L I _ fun x e1 v B1 H1 ⟨i, ex, h2⟩ sb1 m1 s1 => by
    subst ex
    obtain ⟨f, o⟩ := s1.here
    cases o.int_inv
    refine h2 B1 H1 σ L ⟨m1, s1.drop⟩ _ fun y e2 u B2 H2 ⟨j, ey, hs, q⟩ sb2 m2 s2 => ?_
    subst ey
    obtain ⟨f', o'⟩ := s2.here
    cases o'.int_inv
    exact ⟨i, j, rfl, rfl, k _ e2 _ B2 H2 q (sb1.trans sb2) m2 (s2.drop.add (own_toD hs))⟩
theorem xe_I {C : Int → Int → Prop} {g : Int → Int → V} (h : XE K ta env fun x e1 => ∃ i, x = .int i ∧ XE K tb e1 fun y e2 => ∃ j, y = .int j ∧ C i j ∧ isSc (g i j) = true ∧ Q (toD (g i j)) e2) : XE K (tOp (rI C g) ta tb) env Q := fun B H σ L I Q' k =>
  h B H σ L I _ fun x e1 v B1 H1 ⟨i, ex, h2⟩ sb1 m1 s1 => by
    subst ex
    obtain ⟨f, o⟩ := s1.here
    cases o.int_inv
    refine h2 B1 H1 σ L ⟨m1, s1.drop⟩ _ fun y e2 u B2 H2 ⟨j, ey, hc, hs, q⟩ sb2 m2 s2 => ?_
    subst ey
    obtain ⟨f', o'⟩ := s2.here
    cases o'.int_inv
    exact ⟨i, j, rfl, rfl, hc, k _ e2 _ B2 H2 q (sb1.trans sb2) m2 (s2.drop.add (own_toD hs))⟩
theorem xe_add (h : XE K ta env fun x e1 => ∃ i, x = .int i ∧ XE K tb e1 fun y e2 => ∃ j, y = .int j ∧ Q (.int (i + j)) e2) : XE K (tOp rAdd2 ta tb) env Q :=
  xe_I0 (h.imp fun _ _ ⟨i, e, h2⟩ => ⟨i, e, h2.imp fun _ _ ⟨j, e2, q⟩ => ⟨j, e2, rfl, q⟩⟩)
theorem xe_sub (h : XE K ta env fun x e1 => ∃ i, x = .int i ∧ XE K tb e1 fun y e2 => ∃ j, y = .int j ∧ Q (.int (i - j)) e2) : XE K (tOp rSub2 ta tb) env Q :=
  xe_I0 (h.imp fun _ _ ⟨i, e, h2⟩ => ⟨i, e, h2.imp fun _ _ ⟨j, e2, q⟩ => ⟨j, e2, rfl, q⟩⟩)
theorem xe_mul (h : XE K ta env fun x e1 => ∃ i, x = .int i ∧ XE K tb e1 fun y e2 => ∃ j, y = .int j ∧ CMul i j ∧ Q (.int (i * j)) e2) : XE K (tOp rMul2 ta tb) env Q :=
  xe_I (h.imp fun _ _ ⟨i, e, h2⟩ => ⟨i, e, h2.imp fun _ _ ⟨j, e2, c, q⟩ => ⟨j, e2, c, rfl, q⟩⟩)
theorem xe_mod (h : XE K ta env fun x e1 => ∃ i, x = .int i ∧ XE K tb e1 fun y e2 => ∃ j, y = .int j ∧ 0 < j ∧ Q (.int (i % j)) e2) : XE K (tOp rMod2 ta tb) env Q :=
  xe_I (h.imp fun _ _ ⟨i, e, h2⟩ => ⟨i, e, h2.imp fun _ _ ⟨j, e2, c, q⟩ => ⟨j, e2, c, rfl, q⟩⟩)
theorem xe_eqI (h : XE K ta env fun x e1 => ∃ i, x = .int i ∧ XE K tb e1 fun y e2 => ∃ j, y = .int j ∧ Q (.bl (decide (i = j))) e2) : XE K (tOp rEq ta tb) env Q := fun B H σ L I Q' k =>
  h B H σ L I _ fun x e1 v B1 H1 ⟨i, ex, h2⟩ sb1 m1 s1 => by
    subst ex
    obtain ⟨f, o⟩ := s1.here
    cases o.int_inv
    refine h2 B1 H1 σ L ⟨m1, s1.drop⟩ _ fun y e2 u B2 H2 ⟨j, ey, q⟩ sb2 m2 s2 => ?_
    subst ey
    obtain ⟨f', o'⟩ := s2.here
    cases o'.int_inv
    refine ⟨rfl, k (.bl (decide (i = j))) e2 _ B2 H2 q (sb1.trans sb2) m2 (s2.drop.add ?_)⟩
    have e : decide (V.int i = V.int j) = decide (i = j) := by simp
    rw [e]
    exact .bl _
theorem xe_neI (h : XE K ta env fun x e1 => ∃ i, x = .int i ∧ XE K tb e1 fun y e2 => ∃ j, y = .int j ∧ Q (.bl (!decide (i = j))) e2) : XE K (tOp rNe ta tb) env Q := fun B H σ L I Q' k =>
  h B H σ L I _ fun x e1 v B1 H1 ⟨i, ex, h2⟩ sb1 m1 s1 => by
    subst ex
    obtain ⟨f, o⟩ := s1.here
    cases o.int_inv
    refine h2 B1 H1 σ L ⟨m1, s1.drop⟩ _ fun y e2 u B2 H2 ⟨j, ey, q⟩ sb2 m2 s2 => ?_
    subst ey
    obtain ⟨f', o'⟩ := s2.here
    cases o'.int_inv
    refine ⟨rfl, k (.bl (!decide (i = j))) e2 _ B2 H2 q (sb1.trans sb2) m2 (s2.drop.add ?_)⟩
    have e : decide (V.int i = V.int j) = decide (i = j) := by simp
    rw [e]
    exact .bl _
theorem xe_lt (h : XE K ta env fun x e1 => ∃ i, x = .int i ∧ XE K tb e1 fun y e2 => ∃ j, y = .int j ∧ Q (.bl (decide (i < j))) e2) : XE K (tOp rLt2 ta tb) env Q :=
  xe_I0 (h.imp fun _ _ ⟨i, e, h2⟩ => ⟨i, e, h2.imp fun _ _ ⟨j, e2, q⟩ => ⟨j, e2, rfl, q⟩⟩)
theorem xe_neg (h : XE K ta env fun x e1 => ∃ i, x = .int i ∧ Q (.int (-i)) e1) : XE K (tUn rNeg ta) env Q := fun B H σ L I Q' k =>
  h B H σ L I _ fun x e1 v B1 H1 ⟨i, ex, q⟩ sb1 m1 s1 => by
    subst ex
    obtain ⟨f, o⟩ := s1.here
    cases o.int_inv
    exact ⟨i, rfl, k _ e1 _ B1 H1 q sb1 m1 (s1.drop.add (.int _))⟩
/-- the index reckoned on the way: the list is a thing at rest, or a slot that is not changed -/
theorem xe_ixL (h : XE K ta env fun t e1 => ∃ ds, t.isL = some ds ∧ XE K tb e1 fun y e2 => ∃ j d, y = .int j ∧ atI ds j = some d ∧ d.pure = true ∧ Q d e2) : XE K (tOp (rIxL K) ta tb) env Q := fun B H σ L I Q' k =>
  h B H σ L I _ fun x e1 v B1 H1 ⟨ds, ex, h2⟩ sb1 m1 s1 => by
    have s1' : Sta K B1 H1 (slots e1 σ ++ ((x, v) :: L)) := s1.perm List.perm_middle.symm
    refine h2 B1 H1 σ ((x, v) :: L) ⟨m1, s1'⟩ _ fun y e2 u B2 H2 ⟨j, d, ey, hi, hp, q⟩ sb2 m2 s2 => ?_
    subst ey
    obtain ⟨f', o'⟩ := s2.here
    cases o'.int_inv
    have s3 : Sta K B2 H2 ((x, v) :: (slots e2 σ ++ L)) := s2.drop.perm List.perm_middle
    obtain ⟨f, o⟩ := s3.here
    obtain ⟨a, vs, g, rfl, hq, l⟩ := own_L o s3.sub ex
    obtain ⟨w, g', e, ow⟩ := l.at hi
    exact ⟨a, vs, j, w, rfl, rfl, hq, e, k d e2 w B2 H2 q (sb1.trans sb2) m2 (s3.drop.addP ow hp)⟩
theorem xe_ixLv {i : Nat} (h : XE K tb env fun y e2 => ∃ j t ds d, y = .int j ∧ e2[i]? = some (some t) ∧ t.isL = some ds ∧ atI ds j = some d ∧ d.pure = true ∧ Q d e2) (hi : ∃ d, env[i]? = some (some d)) : XE K (tOp (rIxL K) (tVar i) tb) env Q := fun B H σ L I Q' k => by
  obtain ⟨d0, e0⟩ := hi
  obtain ⟨v, e, _, _⟩ := mat_get I.mat e0
  refine ⟨v, e, ?_⟩
  refine h B H σ L I _ fun y e2 u B2 H2 ⟨j, t, ds, d, ey, et, ht, hi, hp, q⟩ sb2 m2 s2 => ?_
  subst ey
  obtain ⟨f', o'⟩ := s2.here
  cases o'.int_inv
  obtain ⟨v', e', p, _⟩ := mat_get m2 et
  rw [e] at e'
  cases e'
  have s3 := s2.drop
  obtain ⟨f, o⟩ := (s3.front p).here
  obtain ⟨a, vs, g, rfl, hq, l⟩ := own_L o s3.sub ht
  obtain ⟨w, g', e, ow⟩ := l.at hi
  exact ⟨a, vs, j, w, rfl, rfl, hq, e, k d e2 w B2 H2 q sb2 m2 (s3.addP ow hp)⟩
end

/-! ### arguments, displays -/
section
variable {te : TE} {ta : TA} {env : DEnv}
theorem xa_nil {Q : List Arg → DEnv → Prop} (q : Q [] env) : XA K tNil env Q := fun B H σ L I Q' k => k [] env [] [] B H q (.refl _) I.mat .nil I.sta
theorem xa_val {Q : List Arg → DEnv → Prop} (h : XE K te env fun d e1 => XA K ta e1 fun as e2 => Q (.val d :: as) e2) : XA K (tCons te ta) env Q := fun B H σ L I Q' k =>
  h B H σ L I _ fun d e1 v B1 H1 h2 sb1 m1 s1 => by
    have s1' : Sta K B1 H1 (slots e1 σ ++ ((d, v) :: L)) := s1.perm List.perm_middle.symm
    refine h2 B1 H1 σ ((d, v) :: L) ⟨m1, s1'⟩ _ fun as e2 vs l B2 H2 q sb2 m2 av s2 => ?_
    refine k _ e2 (v :: vs) ((d, v) :: l) B2 H2 q (sb1.trans sb2) m2 (.val av) ?_
    refine s2.perm ?_
    rw [← List.append_assoc, ← List.append_assoc]
    exact List.perm_middle
theorem xa_bor {Q : List Arg → DEnv → Prop} {i : Nat} {d : D} (hi : env[i]? = some (some d)) (h : XA K ta env fun as e2 => Q (.bor i :: as) e2) : XA K (tCons (tVar i) ta) env Q := fun B H σ L I Q' k => by
  obtain ⟨v, e, _, _⟩ := mat_get I.mat hi
  refine ⟨v, e, ?_⟩
  exact h B H σ L I _ fun as e2 vs l B2 H2 q sb2 m2 av s2 => k _ e2 (v :: vs) l B2 H2 q sb2 m2 (.bor e av) s2
/-- all of them values -/
def vals? : List Arg → Option (List D)
  | [] => some []
  | .val d :: as => (vals? as).map (d :: ·)
  | .bor _ :: _ => none
theorem ArgV.all {σ : L2.St} : ∀ {as : List Arg} {vs : List V} {l : List (D × V)} {ds : List D}, ArgV σ as vs l → vals? as = some ds → l = ds.zip vs ∧ ds.length = vs.length
  | [], _, _, _, .nil, e => by cases e; exact ⟨rfl, rfl⟩
  | .val d :: as, v :: vs, _, _, .val h, e => by
    rw [vals?] at e
    cases q : vals? as with
    | none => rw [q] at e; cases e
    | some es =>
      rw [q] at e
      cases e
      obtain ⟨h1, h2⟩ := h.all q
      subst h1
      exact ⟨rfl, by rw [List.length_cons, List.length_cons, h2]⟩
  | .bor _ :: _, _, _, _, .bor _ _, e => by cases e
theorem xe_tup {Q : D → DEnv → Prop} (h : XA K ta env fun as e => ∃ ds, vals? as = some ds ∧ ds.length ≤ sizeLine ∧ Q (.tup ds) e) : XE K (tTup ta) env Q := fun B H σ L I Q' k =>
  h B H σ L I _ fun as e1 vs l B1 H1 ⟨ds, hv, hz, q⟩ sb m av s => by
    obtain ⟨rfl, hl⟩ := av.all hv
    refine ⟨by rw [← hl]; exact hz, fun p hp => ?_⟩
    obtain ⟨sb2, s2⟩ := s.newT hl hp
    exact k _ e1 _ _ _ q (sb.trans sb2) m s2
theorem xe_lst {Q : D → DEnv → Prop} (h : XA K ta env fun as e => ∃ ds, vals? as = some ds ∧ ds.length ≤ sizeLine ∧ Q (.mls ds) e) : XE K (tLst ta) env Q := fun B H σ L I Q' k =>
  h B H σ L I _ fun as e1 vs l B1 H1 ⟨ds, hv, hz, q⟩ sb m av s => by
    obtain ⟨rfl, hl⟩ := av.all hv
    exact ⟨by rw [← hl]; exact hz, fun p hp => k _ e1 _ B1 _ q sb m (s.newL hl hp)⟩
end
/-- a value laid to rest as it comes -/
theorem xe_frz {te : TE} {env : DEnv} {Q : D → DEnv → Prop} (h : XE K te env fun d e => d.noraw = true ∧ Q d.frz e) : XE K te env Q := fun B H σ L I Q' k =>
  h B H σ L I _ fun d e v B1 H1 ⟨hn, q⟩ sb m s => by
    obtain ⟨B2, sb2, s2⟩ := s.freeze hn
    exact k _ e v B2 H1 q (sb.trans sb2) m s2
end
end DL

set_option Elab.async false
set_option linter.all false
set_option maxRecDepth 100000
namespace DL
open PySem L2
/-! ### statements -/
structure EndD where
  nx : DEnv → Prop
  rt : D → DEnv → Prop
  bk : DEnv → Prop := fun _ => False
  ct : DEnv → Prop := fun _ => False
/-- these slots are stored nowhere -/
def Kp (fx : List Nat) (σ σ' : L2.St) : Prop := ∀ i ∈ fx, σ'[i]? = σ[i]?
theorem Kp.refl {fx : List Nat} (σ : L2.St) : Kp fx σ σ := fun _ _ => rfl
theorem Kp.trans {fx : List Nat} {a b c : L2.St} (h : Kp fx a b) (k : Kp fx b c) : Kp fx a c := fun i m => (k i m).trans (h i m)
theorem Kp.set {fx : List Nat} {σ : L2.St} {i : Nat} {u : Option V} (h : i ∉ fx) : Kp fx σ (σ.set i u) := fun j m => List.getElem?_set_ne fun e => h (by rw [e]; exact m)
structure Leads (K : PySem.W.Frag) (fx : List Nat) (E : EndD) (B : Hp) (σ : L2.St) (L : List (D × V)) (Dh : Ends) : Prop where
  nx : ∀ env' σ' B' H', E.nx env' → Same B B' → Kp fx σ σ' → In K B' H' env' σ' L → Dh.nx σ' H'
  rt : ∀ d env' v σ' B' H', E.rt d env' → Same B B' → Kp fx σ σ' → Mat env' σ' → Sta K B' H' ((d, v) :: (slots env' σ' ++ L)) → Dh.rt v H'
  bk : ∀ env' σ' B' H', E.bk env' → Same B B' → Kp fx σ σ' → In K B' H' env' σ' L → Dh.bk σ' H'
  ct : ∀ env' σ' B' H', E.ct env' → Same B B' → Kp fx σ σ' → In K B' H' env' σ' L → Dh.ct σ' H'
theorem Leads.later {K : PySem.W.Frag} {fx : List Nat} {E : EndD} {B B' : Hp} {σ σ' : L2.St} {L : List (D × V)} {Dh : Ends} (h : Leads K fx E B σ L Dh) (sb : Same B B') (k : Kp fx σ σ') : Leads K fx E B' σ' L Dh :=
  ⟨fun e s b H' q sb2 k2 => h.nx e s b H' q (sb.trans sb2) (k.trans k2), fun d e v s b H' q sb2 k2 => h.rt d e v s b H' q (sb.trans sb2) (k.trans k2),
   fun e s b H' q sb2 k2 => h.bk e s b H' q (sb.trans sb2) (k.trans k2), fun e s b H' q sb2 k2 => h.ct e s b H' q (sb.trans sb2) (k.trans k2)⟩
def XS (K : PySem.W.Frag) (fx : List Nat) (ts : TS) (env : DEnv) (E : EndD) : Prop :=
  ∀ (B H : Hp) (σ : L2.St) (L : List (D × V)), In K B H env σ L → ∀ Dh : Ends, Leads K fx E B σ L Dh → ts Dh σ H
/-- a target of an assignment; R: how the slots may change -/
structure Rl (R : L2.St → L2.St → Prop) : Prop where
  refl : ∀ σ, R σ σ
  trans : ∀ {a b c}, R a b → R b c → R a c
theorem Kp.rl {fx : List Nat} : Rl (Kp fx) := ⟨Kp.refl, Kp.trans⟩
def GXr (K : PySem.W.Frag) (R : L2.St → L2.St → Prop) (g : TG) (x : D) (env : DEnv) (N : DEnv → Prop) : Prop :=
  ∀ (B H : Hp) (σ : L2.St) (L : List (D × V)) (v : V), Mat env σ → Sta K B H ((x, v) :: (slots env σ ++ L)) → ∀ Q : L2.St → Hp → Prop,
    (∀ env' σ' B' H', N env' → Same B B' → R σ σ' → In K B' H' env' σ' L → Q σ' H') → g v σ H Q
def GXsr (K : PySem.W.Frag) (R : L2.St → L2.St → Prop) (g : TGs) (xs : List D) (env : DEnv) (N : DEnv → Prop) : Prop :=
  ∀ (B H : Hp) (σ : L2.St) (L : List (D × V)) (vs : List V), xs.length = vs.length → Mat env σ → Sta K B H (xs.zip vs ++ (slots env σ ++ L)) → ∀ Q : L2.St → Hp → Prop,
    (∀ env' σ' B' H', N env' → Same B B' → R σ σ' → In K B' H' env' σ' L → Q σ' H') → g vs σ H Q
abbrev GX (K : PySem.W.Frag) (fx : List Nat) : TG → D → DEnv → (DEnv → Prop) → Prop := GXr K (Kp fx)
abbrev GXs (K : PySem.W.Frag) (fx : List Nat) : TGs → List D → DEnv → (DEnv → Prop) → Prop := GXsr K (Kp fx)
section
variable {K : PySem.W.Frag} {fx : List Nat} {env : DEnv} {E : EndD} {te tl ti : TE} {tc : TT} {t u tb : TS} {g : TG}
theorem XS.imp {E' : EndD} (h : XS K fx t env E) (n : ∀ e, E.nx e → E'.nx e) (r : ∀ d e, E.rt d e → E'.rt d e) (b : ∀ e, E.bk e → E'.bk e) (c : ∀ e, E.ct e → E'.ct e) : XS K fx t env E' :=
  fun B H σ L I Dh k => h B H σ L I Dh ⟨fun e s b' H' q => k.nx e s b' H' (n _ q), fun d e v s b' H' q => k.rt d e v s b' H' (r _ _ q), fun e s b' H' q => k.bk e s b' H' (b _ q), fun e s b' H' q => k.ct e s b' H' (c _ q)⟩
theorem xs_seq (h : XS K fx t env { E with nx := fun e => XS K fx u e E }) : XS K fx (tSeq t u) env E := fun B H σ L I Dh k =>
  h B H σ L I _ ⟨fun e s B' H' q sb kp I' => q B' H' s L I' Dh (k.later sb kp), k.rt, k.bk, k.ct⟩
/-- what holds between two parts -/
theorem xs_cut (M : DEnv → Prop) (h : XS K fx t env { E with nx := M }) (k : ∀ e, M e → XS K fx u e E) : XS K fx (tSeq t u) env E := xs_seq (h.imp k (fun _ _ q => q) (fun _ q => q) fun _ q => q)
theorem xs_next (q : E.nx env) : XS K fx tNext env E := fun B H σ L I Dh k => k.nx env σ B H q (.refl _) (.refl _) I
theorem xs_brk (q : E.bk env) : XS K fx tBreak env E := fun B H σ L I Dh k => k.bk env σ B H q (.refl _) (.refl _) I
theorem xs_cont (q : E.ct env) : XS K fx tCont env E := fun B H σ L I Dh k => k.ct env σ B H q (.refl _) (.refl _) I
theorem gxr_name {R : L2.St → L2.St → Prop} {x : D} {N : DEnv → Prop} {i : Nat} (hi : ∀ σ u, R σ (σ.set i u)) (hl : i < env.length) (q : N (env.set i (some x))) : GXr K R (gName i) x env N := fun B H σ L v m s Q k => by
  obtain ⟨p, m'⟩ := mat_asg (d := x) (v := v) m hl
  refine k _ _ B H q (.refl _) (hi _ _) ⟨m', ?_⟩
  refine Sta.front ?_ p.symm
  obtain ⟨m2, ⟨r, h2⟩, h3⟩ := mat_forget i m
  refine Sta.dropL (L' := r) (s.perm ?_)
  have h4 : ((x, v) :: (slots env σ ++ L)).Perm ((x, v) :: (r ++ (slots (env.set i none) σ ++ L))) := List.Perm.cons _ (by rw [← List.append_assoc]; exact h2.append_right L)
  exact h4.trans List.perm_middle.symm
theorem gx_name {x : D} {N : DEnv → Prop} {i : Nat} (hi : i ∉ fx) (hl : i < env.length) (q : N (env.set i (some x))) : GX K fx (gName i) x env N := gxr_name (fun _ _ => .set hi) hl q
theorem gxs_nil {R : L2.St → L2.St → Prop} (hR : Rl R) {N : DEnv → Prop} (q : N env) : GXsr K R gNil [] env N := fun B H σ L vs hl m s Q k => by
  cases vs with
  | nil => exact ⟨rfl, k env σ B H q (.refl _) (hR.refl _) ⟨m, s⟩⟩
  | cons _ _ => cases hl
theorem gxs_cons {R : L2.St → L2.St → Prop} (hR : Rl R) {gs : TGs} {x : D} {xs : List D} {N : DEnv → Prop} (h : GXr K R g x env fun e => GXsr K R gs xs e N) : GXsr K R (gCons g gs) (x :: xs) env N := fun B H σ L vs hl m s Q k => by
  cases vs with
  | nil => cases hl
  | cons v vs =>
    refine ⟨v, vs, rfl, h B H σ (xs.zip vs ++ L) v m ?_ _ fun e s' B' H' q sb kp I => ?_⟩
    · refine s.perm ?_
      rw [List.zip_cons_cons, List.cons_append]
      refine List.Perm.cons _ ?_
      rw [← List.append_assoc, ← List.append_assoc]
      exact List.perm_append_comm.append_right L
    · refine q B' H' s' L vs (Nat.succ.inj hl) I.mat ?_ Q fun e2 s2 B2 H2 q2 sb2 kp2 => k e2 s2 B2 H2 q2 (sb.trans sb2) (hR.trans kp kp2)
      refine I.sta.perm ?_
      rw [← List.append_assoc, ← List.append_assoc]
      exact List.perm_append_comm.append_right L
theorem Sta.openT {B H : Hp} {ds : List D} {v : V} {L : List (D × V)} (h : Sta K B H ((.tup ds, v) :: L)) : ∃ a vs, v = .ref a ∧ ds.length = vs.length ∧ SqT K B a vs ∧ Sta K B H (ds.zip vs ++ L) := by
  obtain ⟨s, fp, l, n, b⟩ := h
  rw [List.map_cons, List.map_cons] at l
  cases l with
  | cons o l =>
    cases o with
    | tup q li => exact ⟨_, _, rfl, li.len, .inl (.inl q), .ofParts s li.len li l n b⟩
theorem gx_tup {R : L2.St → L2.St → Prop} {gs : TGs} {n : Nat} {xs : List D} {N : DEnv → Prop} (hl : xs.length = n) (h : GXsr K R gs xs env N) : GXr K R (gTup K n gs) (.tup xs) env N := fun B H σ L v m s Q k => by
  obtain ⟨a, vs, rfl, hv, hq, s'⟩ := s.openT
  exact ⟨a, vs, rfl, sqt_mono s.sub hq, hv ▸ hl, h B H σ L vs hv m s' Q k⟩
theorem xs_asg (h : XE K te env fun d e => GX K fx g d e E.nx) : XS K fx (tAsg te g) env E := fun B H σ L I Dh k =>
  h B H σ L I _ fun d e v B1 H1 q sb m s => q B1 H1 σ L v m s _ fun e2 s2 B2 H2 q2 sb2 kp2 I2 => k.nx e2 s2 B2 H2 q2 (sb.trans sb2) kp2 I2
theorem xs_set {i : Nat} (h : XE K te env fun d e => E.nx (e.set i (some d))) (hi : i ∉ fx := by decide) (hl : i < env.length := by exact Nat.le_of_ble_eq_true rfl) : XS K fx (tAsg te (gName i)) env E := fun B H σ L I Dh k =>
  h B H σ L I _ fun d e v B1 H1 q sb m s => gx_name (N := E.nx) hi (by rw [m.len, ← I.mat.len]; exact hl) q B1 H1 σ L v m s _ fun e2 s2 B2 H2 q2 sb2 kp2 I2 => k.nx e2 s2 B2 H2 q2 (sb.trans sb2) kp2 I2
theorem xs_drop (h : XE K te env fun _ e => E.nx e) : XS K fx (tDrop te) env E := fun B H σ L I Dh k =>
  h B H σ L I _ fun d e v B1 H1 q sb m s => k.nx e σ B1 H1 q sb (.refl _) ⟨m, s.drop⟩
theorem xs_ret (h : XE K te env fun d e => E.rt d e) : XS K fx (tRet te) env E := fun B H σ L I Dh k =>
  h B H σ L I _ fun d e v B1 H1 q sb m s => k.rt d e v σ B1 H1 q sb (.refl _) m s
theorem xs_retN (h : E.rt .non env) : XS K fx tRetN env E := fun B H σ L I Dh k =>
  k.rt .non env .non σ B H h (.refl _) (.refl _) I.mat (I.sta.add .non)
theorem xs_if (h : XT K tc env fun b e => (b = true → XS K fx t e E) ∧ (b = false → XS K fx u e E)) : XS K fx (tIfS tc t u) env E := fun B H σ L I Dh k =>
  h B H σ L I _ fun b e B1 H1 q sb m s => by
    cases b with
    | true => exact iteT (q.1 rfl B1 H1 σ L ⟨m, s⟩ Dh (k.later sb (.refl _)))
    | false => exact iteF (q.2 rfl B1 H1 σ L ⟨m, s⟩ Dh (k.later sb (.refl _)))
theorem xs_ifp {b : Bool} (h : PkT K tc env b) (h1 : b = true → XS K fx t env E) (h2 : b = false → XS K fx u env E) : XS K fx (tIfS tc t u) env E := xs_if (xt_pk h ⟨h1, h2⟩)
/-- what a slot holds is laid to rest -/
theorem In.freeze {B H : Hp} {σ : L2.St} {L : List (D × V)} (I : In K B H env σ L) {i : Nat} {d : D} (h : env[i]? = some (some d)) (hn : d.noraw = true) : ∃ B', Same B B' ∧ In K B' H (env.set i (some d.frz)) σ L := by
  obtain ⟨v, e, p, m⟩ := mat_get I.mat h
  obtain ⟨B', sb, s⟩ := (I.sta.front p).freeze hn
  obtain ⟨p2, m2⟩ := mat_put (d := d.frz) I.mat e
  exact ⟨B', sb, m2, Sta.front (L := (d.frz, v) :: slots (env.set i none) σ) s p2.symm⟩
theorem xs_frzv (i : Nat) {d : D} (h : env[i]? = some (some d)) (hn : d.noraw = true) (k : XS K fx t (env.set i (some d.frz)) E) : XS K fx t env E := fun B H σ L I Dh l => by
  obtain ⟨B', sb, I'⟩ := I.freeze h hn
  exact k B' H σ L I' Dh (l.later sb (.refl _))
theorem xe_frzv {Q : D → DEnv → Prop} (i : Nat) {d : D} (h : env[i]? = some (some d)) (hn : d.noraw = true) (k : XE K te (env.set i (some d.frz)) Q) : XE K te env Q := fun B H σ L I Q' l => by
  obtain ⟨B', sb, I'⟩ := I.freeze h hn
  exact k B' H σ L I' Q' fun d e v B2 H2 q sb2 => l d e v B2 H2 q (sb.trans sb2)
/-- a slot is forgotten -/
theorem In.forget {B H : Hp} {σ : L2.St} {L : List (D × V)} (I : In K B H env σ L) (i : Nat) : In K B H (env.set i none) σ L := by
  obtain ⟨m2, ⟨r, h2⟩, h3⟩ := mat_forget i I.mat
  refine ⟨m2, Sta.dropL (L' := r) ?_⟩
  rw [← List.append_assoc]
  exact I.sta.front h2
theorem xs_forget (i : Nat) (k : XS K fx t (env.set i none) E) : XS K fx t env E := fun B H σ L I Dh l => k B H σ L (I.forget i) Dh l

/-- a list of any kind, at rest from here on -/
theorem Sta.rest {B H : Hp} {d : D} {v : V} {L : List (D × V)} {ds : List D} (s0 : Sta K B H ((d, v) :: L)) (hd : d.isL = some ds) (hp : pureL ds = true) : ∃ B1, Same B B1 ∧ Sta K B1 H ((.cst ds, v) :: L) := by
  have go : ∀ {B1 : Hp}, Sta K B1 H ((.lst ds, v) :: L) → Sta K B1 H ((.cst ds, v) :: L) := fun {B1} s1 => by
    obtain ⟨f, o⟩ := s1.here
    cases o with
    | lst q li => exact s1.drop.addP (.cst (.inl (.inl q)) li) (by rw [D.pure]; exact hp)
  cases d with
  | lst es => cases hd; exact ⟨B, .refl _, go s0⟩
  | cst es => cases hd; exact ⟨B, .refl _, s0⟩
  | mls es =>
    cases hd
    obtain ⟨B1, sb, s1⟩ := s0.freeze (d := .mls ds) (by rw [D.noraw]; exact pureL_noraw hp)
    rw [D.frz, frzL_id hp] at s1
    exact ⟨B1, sb, go s1⟩
  | _ => cases hd

/-! ### loops -/
/-- over a list (its items at rest) -/
theorem xs_forL (h : XE K tl env fun d e => ∃ (ds : List D) (J : Nat → DEnv → Prop), d.isL = some ds ∧ pureL ds = true ∧ J 0 e ∧
      (∀ i x e1, ds[i]? = some x → J i e1 → GX K fx g x e1 fun e2 => XS K fx tb e2 ⟨J (i + 1), E.rt, E.nx, J (i + 1)⟩) ∧ ∀ e1, J ds.length e1 → E.nx e1) : XS K fx (tFor (iList K tl) g tb) env E := fun B H σ L I Dh k =>
  h B H σ L I _ fun d e v B0 H0 ⟨ds, J, hd, hp, h0, hs, hn⟩ sb0 m0 s0 => by
    obtain ⟨B1, sb1, s1⟩ := s0.rest hd hp
    obtain ⟨f, o⟩ := s1.here
    cases o with
    | cst hq li =>
      rename_i a vs
      have hlen := li.len
      have hf := li.nofp hp
      subst hf
      refine ⟨a, rfl, ⟨vs, sql_mono s1.sub hq⟩, for_list (xs := vs) (fun i σ' H' => ∃ e1 B', J i e1 ∧ Same B1 B' ∧ Kp fx σ σ' ∧ In K B' H' e1 σ' L) ⟨e, B1, h0, .refl _, .refl _, m0, s1.drop⟩ ?_ ?_ ?_⟩
      · rintro i σ' H' _ ⟨e1, B', _, sb, _, I'⟩
        exact sql_mono (sb.trans I'.sta.sub) hq
      · rintro i x σ' H' hx ⟨e1, B', hi, sb, kp, I'⟩
        obtain ⟨y, g', hy, oy, _⟩ := li.getV hx
        have py := pureL_get hp hy
        have oy' : Own K B' H' y x [] := by
          have z := oy.nofp py
          subst z
          exact oy.mono sb fun _ m => nomatch m
        refine hs i y e1 hy hi B' H' σ' L x I'.mat (I'.sta.add oy') _ fun e2 σ2 B2 H2 q2 sb2 kp2 I2 => ?_
        refine q2 B2 H2 σ2 L I2 _ ⟨fun e3 σ3 B3 H3 q3 sb3 kp3 I3 => ⟨e3, B3, q3, (sb.trans sb2).trans sb3, (kp.trans kp2).trans kp3, I3⟩, fun d3 e3 v3 σ3 B3 H3 q3 sb3 kp3 => k.rt d3 e3 v3 σ3 B3 H3 q3 (((sb0.trans sb1).trans (sb.trans sb2)).trans sb3) ((kp.trans kp2).trans kp3),
          fun e3 σ3 B3 H3 q3 sb3 kp3 I3 => k.nx e3 σ3 B3 H3 q3 (((sb0.trans sb1).trans (sb.trans sb2)).trans sb3) ((kp.trans kp2).trans kp3) I3, fun e3 σ3 B3 H3 q3 sb3 kp3 I3 => ⟨e3, B3, q3, (sb.trans sb2).trans sb3, (kp.trans kp2).trans kp3, I3⟩⟩
      · rintro σ' H' ⟨e1, B', hi, sb, kp, I'⟩
        rw [← hlen] at hi
        exact k.nx e1 σ' B' H' (hn e1 hi) ((sb0.trans sb1).trans sb) kp I'
/-- over a tuple -/
theorem xs_forT (h : XE K tl env fun d e => ∃ (ds : List D) (J : Nat → DEnv → Prop), d = .tup ds ∧ pureL ds = true ∧ J 0 e ∧
      (∀ i x e1, ds[i]? = some x → J i e1 → GX K fx g x e1 fun e2 => XS K fx tb e2 ⟨J (i + 1), E.rt, E.nx, J (i + 1)⟩) ∧ ∀ e1, J ds.length e1 → E.nx e1) : XS K fx (tFor (iTup K tl) g tb) env E := fun B H σ L I Dh k =>
  h B H σ L I _ fun d e v B1 H0 ⟨ds, J, hd, hp, h0, hs, hn⟩ sb1 m0 s1 => by
    subst hd
    obtain ⟨f, o⟩ := s1.here
    cases o with
    | tup hq li =>
      rename_i a vs
      have hlen := li.len
      have hf := li.nofp hp
      subst hf
      have hq : SqT K B1 a vs := .inl (.inl hq)
      refine ⟨a, rfl, ⟨vs, sqt_mono s1.sub hq⟩, for_tup (xs := vs) (fun i σ' H' => ∃ e1 B', J i e1 ∧ Same B1 B' ∧ Kp fx σ σ' ∧ In K B' H' e1 σ' L) ⟨e, B1, h0, .refl _, .refl _, m0, s1.drop⟩ ?_ ?_ ?_⟩
      · rintro i σ' H' _ ⟨e1, B', _, sb, _, I'⟩
        exact sqt_mono (sb.trans I'.sta.sub) hq
      · rintro i x σ' H' hx ⟨e1, B', hi, sb, kp, I'⟩
        obtain ⟨y, g', hy, oy, _⟩ := li.getV hx
        have py := pureL_get hp hy
        have oy' : Own K B' H' y x [] := by
          have z := oy.nofp py
          subst z
          exact oy.mono sb fun _ m => nomatch m
        refine hs i y e1 hy hi B' H' σ' L x I'.mat (I'.sta.add oy') _ fun e2 σ2 B2 H2 q2 sb2 kp2 I2 => ?_
        refine q2 B2 H2 σ2 L I2 _ ⟨fun e3 σ3 B3 H3 q3 sb3 kp3 I3 => ⟨e3, B3, q3, (sb.trans sb2).trans sb3, (kp.trans kp2).trans kp3, I3⟩, fun d3 e3 v3 σ3 B3 H3 q3 sb3 kp3 => k.rt d3 e3 v3 σ3 B3 H3 q3 ((sb1.trans (sb.trans sb2)).trans sb3) ((kp.trans kp2).trans kp3),
          fun e3 σ3 B3 H3 q3 sb3 kp3 I3 => k.nx e3 σ3 B3 H3 q3 ((sb1.trans (sb.trans sb2)).trans sb3) ((kp.trans kp2).trans kp3) I3, fun e3 σ3 B3 H3 q3 sb3 kp3 I3 => ⟨e3, B3, q3, (sb.trans sb2).trans sb3, (kp.trans kp2).trans kp3, I3⟩⟩
      · rintro σ' H' ⟨e1, B', hi, sb, kp, I'⟩
        rw [← hlen] at hi
        exact k.nx e1 σ' B' H' (hn e1 hi) (sb1.trans sb) kp I'
theorem loop_range {lo : Int} {n : Nat} {B : Hp} {H : Hp} {σ : L2.St} {L : List (D × V)} {Dh : Ends} (k : Leads K fx E B σ L Dh) (I : In K B H env σ L) (J : Nat → DEnv → Prop) (h0 : J 0 env)
    (hs : ∀ i e1, i < n → J i e1 → GX K fx g (.int (lo + i)) e1 fun e2 => XS K fx tb e2 ⟨J (i + 1), E.rt, E.nx, J (i + 1)⟩) (hn : ∀ e1, J n e1 → E.nx e1) :
    ∃ W : Nat → Nat → L2.St → Hp → Prop, (∃ m, W 0 m σ H) ∧ ∀ i m σ H, W i m σ H →
      ((Itr lo n).stop i H ∧ Dh.nx σ H) ∨ ((Itr lo n).go i H ∧ ∃ N : L2.St → Hp → Prop, (∀ σ' H', N σ' H' → ∃ m', m' < m ∧ W (i + 1) m' σ' H') ∧ ∀ x H', (Itr lo n).yld i H x H' → g x σ H' fun σ2 H2 => tb { Dh with nx := N, ct := N, bk := Dh.nx } σ2 H2) := by
  refine for_range (fun i σ' H' => ∃ e1 B', J i e1 ∧ Same B B' ∧ Kp fx σ σ' ∧ In K B' H' e1 σ' L) ⟨env, B, h0, .refl _, .refl _, I⟩ ?_ ?_
  · rintro i σ' H' hx ⟨e1, B', hi, sb, kp, I'⟩
    refine hs i e1 hx hi B' H' σ' L _ I'.mat (I'.sta.add (.int _)) _ fun e2 σ2 B2 H2 q2 sb2 kp2 I2 => ?_
    exact q2 B2 H2 σ2 L I2 _ ⟨fun e3 σ3 B3 H3 q3 sb3 kp3 I3 => ⟨e3, B3, q3, (sb.trans sb2).trans sb3, (kp.trans kp2).trans kp3, I3⟩, fun d3 e3 v3 σ3 B3 H3 q3 sb3 kp3 => k.rt d3 e3 v3 σ3 B3 H3 q3 ((sb.trans sb2).trans sb3) ((kp.trans kp2).trans kp3),
      fun e3 σ3 B3 H3 q3 sb3 kp3 I3 => k.nx e3 σ3 B3 H3 q3 ((sb.trans sb2).trans sb3) ((kp.trans kp2).trans kp3) I3, fun e3 σ3 B3 H3 q3 sb3 kp3 I3 => ⟨e3, B3, q3, (sb.trans sb2).trans sb3, (kp.trans kp2).trans kp3, I3⟩⟩
  · rintro σ' H' ⟨e1, B', hi, sb, kp, I'⟩
    exact k.nx e1 σ' B' H' (hn e1 hi) sb kp I'
/-- for .. in range(n) -/
theorem xs_for1 (h : XE K te env fun d e => ∃ (j : Int) (J : Nat → DEnv → Prop), d = .int j ∧ -(2 ^ 62) ≤ j ∧ j < 2 ^ 62 ∧ J 0 e ∧
      (∀ i e1, i < j.toNat → J i e1 → GX K fx g (.int i) e1 fun e2 => XS K fx tb e2 ⟨J (i + 1), E.rt, E.nx, J (i + 1)⟩) ∧ ∀ e1, J j.toNat e1 → E.nx e1) : XS K fx (tFor (iRng1 (tCons te tNil)) g tb) env E := fun B H σ L I Dh k =>
  h B H σ L I _ fun d e v B1 H1 ⟨j, J, hd, hj1, hj2, h0, hs, hn⟩ sb m s => by
    subst hd
    obtain ⟨f, o⟩ := s.here
    cases o.int_inv
    refine ⟨j, rfl, hj1, hj2, ?_⟩
    exact loop_range (k.later sb (.refl _)) ⟨m, s.drop⟩ J h0 (fun i e1 hi q => by
      rw [Int.zero_add]
      exact hs i e1 hi q) hn
/-- for .. in range(a, b) -/
theorem xs_for2 {tf : TE} (h : XE K te env fun d e => ∃ i : Int, d = .int i ∧ XE K tf e fun d2 e2 => ∃ (j : Int) (J : Nat → DEnv → Prop), d2 = .int j ∧ (-(2 ^ 62) ≤ i ∧ i < 2 ^ 62 ∧ -(2 ^ 62) ≤ j ∧ j < 2 ^ 62) ∧ J 0 e2 ∧
      (∀ n e1, n < (j - i).toNat → J n e1 → GX K fx g (.int (i + n)) e1 fun e3 => XS K fx tb e3 ⟨J (n + 1), E.rt, E.nx, J (n + 1)⟩) ∧ ∀ e1, J (j - i).toNat e1 → E.nx e1) : XS K fx (tFor (iRng2 (tCons te (tCons tf tNil))) g tb) env E := fun B H σ L I Dh k =>
  h B H σ L I _ fun d e v B1 H1 ⟨i, hd, h2⟩ sb m s => by
    subst hd
    obtain ⟨f, o⟩ := s.here
    cases o.int_inv
    refine h2 B1 H1 σ L ⟨m, s.drop⟩ _ fun d2 e2 v2 B2 H2 ⟨j, J, hd2, hb, h0, hs, hn⟩ sb2 m2 s2 => ?_
    subst hd2
    obtain ⟨f2, o2⟩ := s2.here
    cases o2.int_inv
    refine ⟨i, j, rfl, hb, ?_⟩
    exact loop_range (k.later (sb.trans sb2) (.refl _)) ⟨m2, s2.drop⟩ J h0 hs hn
theorem xs_while (J : Nat → DEnv → Prop) (m0 : Nat) (h0 : J m0 env)
    (hs : ∀ m e, J m e → XT K tc e fun b e1 => (b = true → XS K fx tb e1 ⟨fun e2 => ∃ m', m' < m ∧ J m' e2, E.rt, E.nx, fun e2 => ∃ m', m' < m ∧ J m' e2⟩) ∧ (b = false → E.nx e1)) : XS K fx (tWhile tc tb) env E := fun B H σ L I Dh k => by
  refine ⟨fun m σ' H' => ∃ e B', J m e ∧ Same B B' ∧ Kp fx σ σ' ∧ In K B' H' e σ' L, ⟨m0, env, B, h0, .refl _, .refl _, I⟩, ?_⟩
  rintro m σ' H' ⟨e, B', hi, sb, kp, I'⟩
  refine hs m e hi B' H' σ' L I' _ fun b e1 B1 H1 q sb1 m1 s1 => ?_
  cases b with
  | false => exact iteF (k.nx e1 σ' B1 H1 (q.2 rfl) (sb.trans sb1) kp ⟨m1, s1⟩)
  | true =>
    refine iteT ⟨fun σ2 H2 => ∃ m', m' < m ∧ ∃ e B', J m' e ∧ Same B B' ∧ Kp fx σ σ2 ∧ In K B' H2 e σ2 L, fun σ2 H2 z => z, ?_⟩
    exact q.1 rfl B1 H1 σ' L ⟨m1, s1⟩ _ ⟨fun e3 σ3 B3 H3 ⟨m', hm, q3⟩ sb3 kp3 I3 => ⟨m', hm, e3, B3, q3, (sb.trans sb1).trans sb3, kp.trans kp3, I3⟩, fun d3 e3 v3 σ3 B3 H3 q3 sb3 kp3 => k.rt d3 e3 v3 σ3 B3 H3 q3 ((sb.trans sb1).trans sb3) (kp.trans kp3),
      fun e3 σ3 B3 H3 q3 sb3 kp3 I3 => k.nx e3 σ3 B3 H3 q3 ((sb.trans sb1).trans sb3) (kp.trans kp3) I3, fun e3 σ3 B3 H3 ⟨m', hm, q3⟩ sb3 kp3 I3 => ⟨m', hm, e3, B3, q3, (sb.trans sb1).trans sb3, kp.trans kp3, I3⟩⟩
end

/-! ### methods of a list that a slot holds -/
section
variable {K : PySem.W.Frag} {env : DEnv} {te : TE} {Q : D → DEnv → Prop} {i : Nat}
theorem ty_list {B H : Hp} {σ : L2.St} {L : List (D × V)} (I : In K B H env σ L) {t : D} {ds : List D} (h : env[i]? = some (some t)) (ht : t.isL = some ds) : ∃ v, σ[i]? = some (some v) ∧ tyV K "list" v H := by
  obtain ⟨v, e, p, m⟩ := mat_get I.mat h
  obtain ⟨f, o⟩ := (I.sta.front p).here
  obtain ⟨a, vs, g, rfl, hq, l⟩ := own_L o I.sta.sub ht
  exact ⟨_, e, .inl ⟨rfl, vs, hq⟩⟩
/-- the list in a slot opened -/
theorem In.openL {B H : Hp} {σ : L2.St} {L : List (D × V)} {ds : List D} (m : Mat env σ) (s : Sta K B H (slots env σ ++ L)) (h : env[i]? = some (some (.mls ds))) :
    ∃ a vs, σ[i]? = some (some (.ref a)) ∧ ds.length = vs.length ∧ H a = some (.lst vs) ∧ Sta K B H ((.raw (.lst vs), .ref a) :: (ds.zip vs ++ (slots (env.set i none) σ ++ L))) := by
  obtain ⟨v, e, p, m'⟩ := mat_get m h
  obtain ⟨a, vs, rfl, hl, ha, s'⟩ := (show Sta K B H ((.mls ds, v) :: (slots (env.set i none) σ ++ L)) from s.front p).openL
  exact ⟨a, vs, e, hl, ha, s'⟩
/-- .. and closed with other items -/
theorem In.closeL {B H : Hp} {σ : L2.St} {L : List (D × V)} {ds : List D} {vs ws : List V} {a : Addr} (m : Mat env σ) (e : σ[i]? = some (some (.ref a))) (hl : ds.length = ws.length)
    (s : Sta K B H ((.raw (.lst vs), .ref a) :: (ds.zip ws ++ (slots (env.set i none) σ ++ L)))) : Mat (env.set i (some (.mls ds))) σ ∧ Sta K B (upd H a (.lst ws)) (slots (env.set i (some (.mls ds))) σ ++ L) := by
  obtain ⟨p, m2⟩ := mat_put (d := .mls ds) m e
  exact ⟨m2, Sta.front (L := (.mls ds, .ref a) :: slots (env.set i none) σ) ((s.put (.lst ws)).closeL hl) p.symm⟩
theorem zip_app {ds es : List D} {vs ws : List V} (h : ds.length = vs.length) : (ds ++ es).zip (vs ++ ws) = ds.zip vs ++ es.zip ws := List.zip_append h
theorem xe_append {t : D} {ds0 : List D} (hi : env[i]? = some (some t)) (ht : t.isL = some ds0) (h : XE K te env fun d e => ∃ ds, e[i]? = some (some (.mls ds)) ∧ ds.length < sizeLine ∧ Q .non (e.set i (some (.mls (ds ++ [d]))))) :
    XE K (tBM K "list" rAppend (tVar i) (tCons te tNil)) env Q := fun B H σ L I Q' k => by
  obtain ⟨v, e, ty⟩ := ty_list I hi ht
  refine ⟨v, e, ty, ?_⟩
  refine h B H σ L I _ fun d e1 u B1 H1 ⟨ds, he, hz, q⟩ sb m s => ?_
  have s' : Sta K B1 H1 (slots e1 σ ++ ((d, u) :: L)) := s.perm List.perm_middle.symm
  obtain ⟨a, vs, e2, hl, ha, s2⟩ := In.openL m s' he
  rw [e] at e2
  cases e2
  refine ⟨a, vs, u, rfl, rfl, ha, by rw [← hl]; exact hz, ?_⟩
  have hl2 : (ds ++ [d]).length = (vs ++ [u]).length := by rw [List.length_append, List.length_append, hl]; rfl
  obtain ⟨m3, s3⟩ := In.closeL (L := L) (ds := ds ++ [d]) (vs := vs) (ws := vs ++ [u]) m e hl2 (s2.perm (by
    rw [zip_app hl]
    refine List.Perm.cons _ ?_
    rw [List.append_assoc]
    refine List.Perm.append_left _ ?_
    exact List.perm_middle))
  exact k _ _ _ B1 _ q sb m3 (s3.add .non)
theorem xe_pop {ds : List D} {d : D} (hi : env[i]? = some (some (.mls (ds ++ [d])))) (q : Q d (env.set i (some (.mls ds)))) : XE K (tBM0 K "list" rPop (tVar i)) env Q := fun B H σ L I Q' k => by
  obtain ⟨v, e, ty⟩ := ty_list I hi rfl
  refine ⟨v, e, ty, ?_⟩
  obtain ⟨a, vs, e2, hl, ha, s2⟩ := In.openL I.mat I.sta hi
  rw [e] at e2
  cases e2
  have hv : vs ≠ [] := fun z => by
    subst z
    rw [List.length_append] at hl
    exact absurd hl (by simp)
  have hvs := List.dropLast_concat_getLast hv
  have hl1 : ds.length = vs.dropLast.length := by
    rw [List.length_dropLast, ← hl, List.length_append]
    rfl
  refine ⟨a, vs, vs.getLast hv, rfl, rfl, ha, ?_, ?_⟩
  · rw [← List.getLast?_eq_getElem?]
    exact List.getLast?_eq_getLast hv
  · rw [← hvs, zip_app hl1] at s2
    obtain ⟨m3, s3⟩ := In.closeL (L := (d, vs.getLast hv) :: L) (ds := ds) (ws := vs.dropLast) I.mat e hl1 (s2.perm (by
      refine List.Perm.cons _ ?_
      rw [List.append_assoc]
      refine List.Perm.append_left _ ?_
      show ((d, vs.getLast hv) :: (slots (env.set i none) σ ++ L)).Perm _
      exact List.perm_middle.symm))
    exact k d _ _ B _ q (.refl _) m3 (s3.perm List.perm_middle)
theorem perm_erase {α : Type} : ∀ (xs : List α) (k : Nat) (x : α), xs[k]? = some x → xs.Perm (x :: xs.eraseIdx k)
  | [], _, _, h => by simp at h
  | y :: ys, 0, x, h => by
    simp at h
    subst h
    exact .refl _
  | y :: ys, k + 1, x, h => by
    have ih := perm_erase ys k x (by simpa using h)
    exact (List.Perm.cons y ih).trans (.swap _ _ _)
theorem zip_erase : ∀ {ds : List D} {vs : List V} (k : Nat), ds.length = vs.length → (ds.eraseIdx k).zip (vs.eraseIdx k) = (ds.zip vs).eraseIdx k
  | [], [], _, _ => rfl
  | d :: ds, v :: vs, 0, _ => rfl
  | d :: ds, v :: vs, k + 1, h => by
    show (d, v) :: (ds.eraseIdx k).zip (vs.eraseIdx k) = (d, v) :: (ds.zip vs).eraseIdx k
    rw [zip_erase k (Nat.succ.inj h)]
  | [], _ :: _, _, h => nomatch h
  | _ :: _, [], _, h => nomatch h
theorem zip_get : ∀ {ds : List D} {vs : List V} {k : Nat} {d : D} {v : V}, ds[k]? = some d → vs[k]? = some v → (ds.zip vs)[k]? = some (d, v)
  | [], _, _, _, _, h, _ => by simp at h
  | _ :: _, [], _, _, _, _, h => by simp at h
  | x :: ds, y :: vs, 0, d, v, h, h' => by
    simp at h h'
    rw [h, h']
    rfl
  | x :: ds, y :: vs, k + 1, d, v, h, h' => by
    show (ds.zip vs)[k]? = some (d, v)
    exact zip_get (by simpa using h) (by simpa using h')
theorem xe_popAt {t : D} {ds0 : List D} (hi : env[i]? = some (some t)) (ht : t.isL = some ds0) (h : XE K te env fun y e => ∃ j ds k d, y = .int j ∧ e[i]? = some (some (.mls ds)) ∧ -(2 ^ 63) ≤ j ∧ j < 2 ^ 63 ∧ seqIndex? j ds.length = some k ∧ ds[k]? = some d ∧
      Q d (e.set i (some (.mls (ds.eraseIdx k))))) : XE K (tBM K "list" rPopAt (tVar i) (tCons te tNil)) env Q := fun B H σ L I Q' kk => by
  obtain ⟨v, e, ty⟩ := ty_list I hi ht
  refine ⟨v, e, ty, ?_⟩
  refine h B H σ L I _ fun y e1 u B1 H1 ⟨j, ds, k, d, hy, he, j1, j2, hk, hd, q⟩ sb m s => ?_
  subst hy
  obtain ⟨f, o⟩ := s.here
  cases o.int_inv
  obtain ⟨a, vs, e2, hl, ha, s2⟩ := In.openL m s.drop he
  rw [e] at e2
  cases e2
  have hkl : k < vs.length := by
    rw [← hl]
    exact (List.getElem?_eq_some_iff.mp hd).1
  have hv := List.getElem?_eq_getElem hkl
  refine ⟨a, vs, j, k, vs[k], rfl, rfl, ha, j1, j2, by rw [← hl]; exact hk, hv, ?_⟩
  have hl1 : (ds.eraseIdx k).length = (vs.eraseIdx k).length := by
    rw [List.length_eraseIdx, List.length_eraseIdx, hl]
  obtain ⟨m3, s3⟩ := In.closeL (L := (d, vs[k]) :: L) (ds := ds.eraseIdx k) (ws := vs.eraseIdx k) m e hl1 (s2.perm (by
    refine List.Perm.cons _ ?_
    refine ((perm_erase _ k _ (zip_get hd hv)).append_right _).trans ?_
    rw [zip_erase k hl]
    show ((d, vs[k]) :: ((ds.zip vs).eraseIdx k ++ (slots (e1.set i none) σ ++ L))).Perm _
    refine List.perm_middle.symm.trans (List.Perm.append_left _ ?_)
    exact List.perm_middle.symm))
  exact kk d _ _ B1 _ q sb m3 (s3.perm List.perm_middle)
/-- xs[j] = e, xs in a slot -/
theorem set_zip : ∀ {ds : List D} {vs : List V} (k : Nat) (d : D) (v : V), ds.length = vs.length → k < ds.length → ((d, v) :: ds.zip vs).Perm ((ds.getD k .non, vs.getD k .non) :: (ds.set k d).zip (vs.set k v))
  | [], _, _, _, _, _, h => nomatch h
  | _ :: _, [], _, _, _, h, _ => nomatch h
  | x :: ds, y :: vs, 0, d, v, _, _ => .swap _ _ _
  | x :: ds, y :: vs, k + 1, d, v, h, hk => by
    have ih := set_zip k d v (Nat.succ.inj h) (Nat.lt_of_succ_lt_succ hk)
    show ((d, v) :: (x, y) :: ds.zip vs).Perm ((ds.getD k .non, vs.getD k .non) :: (x, y) :: (ds.set k d).zip (vs.set k v))
    exact (List.Perm.swap _ _ _).trans ((List.Perm.cons _ ih).trans (.swap _ _ _))
theorem xs_setL {fx : List Nat} {E : EndD} {tv ti : TE} (h : XE K tv env fun d e1 => (∃ t, e1[i]? = some (some t)) ∧ XE K ti e1 fun y e2 => ∃ j ds k, y = .int j ∧ e2[i]? = some (some (.mls ds)) ∧ ixN ds.length j = some k ∧ E.nx (e2.set i (some (.mls (ds.set k d))))) :
    XS K fx (tAsg tv (gSub (tVar i) ti rSetL)) env E := fun B H σ L I Dh kk =>
  h B H σ L I _ fun d e1 u B1 H1 ⟨⟨t, he1⟩, h2⟩ sb m s => by
    obtain ⟨v, e, _, _⟩ := mat_get m he1
    refine ⟨v, e, ?_⟩
    have s' : Sta K B1 H1 (slots e1 σ ++ ((d, u) :: L)) := s.perm List.perm_middle.symm
    refine h2 B1 H1 σ _ ⟨m, s'⟩ _ fun y e2 w B2 H2 ⟨j, ds, k, hy, he, hk, q⟩ sb2 m2 s2 => ?_
    subst hy
    obtain ⟨f, o⟩ := s2.here
    cases o.int_inv
    obtain ⟨a, vs, e3, hl, ha, s3⟩ := In.openL m2 s2.drop he
    rw [e] at e3
    cases e3
    have hkl := (ixN_seq hk).2.1
    refine ⟨a, vs, j, k, rfl, rfl, ha, by rw [← hl]; exact hk, ?_⟩
    have hl1 : (ds.set k d).length = (vs.set k u).length := by rw [List.length_set, List.length_set, hl]
    have pz := set_zip (ds := ds) (vs := vs) k d u hl hkl
    obtain ⟨m3, s4⟩ := In.closeL (L := (ds.getD k .non, vs.getD k .non) :: L) (ds := ds.set k d) (ws := vs.set k u) m2 e hl1 (s3.perm (by
      refine List.Perm.cons _ ?_
      refine ((List.Perm.append_left _ List.perm_middle).trans List.perm_middle).trans ?_
      refine ((pz.append_right (slots (e2.set i none) σ ++ L))).trans ?_
      refine List.perm_middle.symm.trans (List.Perm.append_left _ ?_)
      exact List.perm_middle.symm))
    exact kk.nx _ σ B2 _ q (sb.trans sb2) (.refl _) ⟨m3, (s4.perm List.perm_middle).drop⟩
end
end DL

set_option Elab.async false
set_option linter.all false
set_option maxRecDepth 100000
namespace DL
open PySem PySem.Spec PyProof.Rows L2
/-! ### a def's word over data -/
abbrev Spec := List D → (D → List (Option D) → Prop) → Prop
def spOf (K : PySem.W.Frag) (S : Spec) : Sp := fun vs H Q _ => ∃ ads B M Q0, ads.length = vs.length ∧ Sta K B H (ads.zip vs ++ M) ∧
  S ads Q0 ∧ ∀ r ads' v B' H', Q0 r ads' → Same B B' → Sta K B' H' ((r, v) :: (slots ads' (vs.map some) ++ M)) → Q v H'
/-- the lent slots taken out -/
def take : List Arg → DEnv → Option (List D × DEnv)
  | [], e => some ([], e)
  | .val d :: as, e => match take as e with
    | some (ds, e') => some (d :: ds, e')
    | none => none
  | .bor i :: as, e => match e[i]? with
    | some (some d) => match take as (e.set i none) with
      | some (ds, e') => some (d :: ds, e')
      | none => none
    | _ => none
/-- .. and given back -/
def put : List Arg → List (Option D) → DEnv → DEnv
  | .val _ :: as, _ :: ds, e => put as ds e
  | .bor i :: as, some d :: ds, e => put as ds (e.set i (some d))
  | .bor _ :: as, none :: ds, e => put as ds e
  | _, _, e => e
section
variable {K : PySem.W.Frag}
theorem take_ok {σ : L2.St} : ∀ {as : List Arg} {e : DEnv} {vs : List V} {l L : List (D × V)} {ads : List D} {er : DEnv}, ArgV σ as vs l → Mat e σ → take as e = some (ads, er) →
    (l ++ (slots e σ ++ L)).Perm (ads.zip vs ++ (slots er σ ++ L)) ∧ ads.length = vs.length ∧ Mat er σ
  | [], e, _, _, L, _, _, .nil, m, h => by
    cases h
    exact ⟨.refl _, rfl, m⟩
  | .val d :: as, e, v :: vs, _, L, _, _, .val (l := l) a, m, h => by
    rw [take] at h
    cases q : take as e with
    | none => rw [q] at h; cases h
    | some p =>
      obtain ⟨ds, e'⟩ := p
      rw [q] at h
      cases h
      obtain ⟨h1, h2, h3⟩ := take_ok (L := L) a m q
      exact ⟨List.Perm.cons _ h1, by rw [List.length_cons, List.length_cons, h2], h3⟩
  | .bor i :: as, e, v :: vs, _, L, _, _, .bor (l := l) hv a, m, h => by
    rw [take] at h
    cases q0 : e[i]? with
    | none => rw [q0] at h; cases h
    | some od =>
      cases od with
      | none => rw [q0] at h; cases h
      | some d =>
        rw [q0] at h
        obtain ⟨w, e2, p, m2⟩ := mat_get m q0
        rw [hv] at e2
        cases e2
        cases q : take as (e.set i none) with
        | none => simp only [q] at h; cases h
        | some pr =>
          obtain ⟨ds, e'⟩ := pr
          simp only [q] at h
          cases h
          obtain ⟨h1, h2, h3⟩ := take_ok (L := L) a m2 q
          refine ⟨?_, by rw [List.length_cons, List.length_cons, h2], h3⟩
          refine (List.Perm.append_left l (p.append_right L)).trans ?_
          exact (List.perm_middle (a := (d, v)) (l₁ := l) (l₂ := slots (e.set i none) σ ++ L)).trans (List.Perm.cons _ h1)
theorem put_ok {σ : L2.St} {B H : Hp} : ∀ {as : List Arg} {er : DEnv} {vs : List V} {l L : List (D × V)} {ads' : List (Option D)}, ArgV σ as vs l → Mat er σ → Sta K B H (slots ads' (vs.map some) ++ (slots er σ ++ L)) →
    Mat (put as ads' er) σ ∧ Sta K B H (slots (put as ads' er) σ ++ L)
  | [], er, _, _, L, ads', .nil, m, s => by
    have e : put [] ads' er = er := by cases ads' <;> rfl
    rw [e]
    exact ⟨m, s.dropL⟩
  | .val d :: as, er, v :: vs, _, L, [], .val a, m, s => ⟨m, s⟩
  | .val d :: as, er, v :: vs, _, L, none :: ads', .val a, m, s => put_ok (as := as) (er := er) (vs := vs) (ads' := ads') (L := L) a m s
  | .val d :: as, er, v :: vs, _, L, some x :: ads', .val a, m, s => put_ok (as := as) (er := er) (vs := vs) (ads' := ads') (L := L) a m (Sta.drop (d := x) (v := v) s)
  | .bor i :: as, er, v :: vs, _, L, [], .bor hv a, m, s => ⟨m, s⟩
  | .bor i :: as, er, v :: vs, _, L, none :: ads', .bor hv a, m, s => put_ok (as := as) (er := er) (vs := vs) (ads' := ads') (L := L) a m s
  | .bor i :: as, er, v :: vs, _, L, some x :: ads', .bor hv a, m, s => by
    obtain ⟨p, m2⟩ := mat_put (d := x) m hv
    refine put_ok (as := as) (er := er.set i (some x)) (vs := vs) (ads' := ads') (L := L) a m2 ?_
    obtain ⟨m3, ⟨r, h2⟩, _⟩ := mat_forget i m
    have s1 : Sta K B H ((x, v) :: (slots ads' (vs.map some) ++ (slots er σ ++ L))) := s
    have s2 : Sta K B H (r ++ ((x, v) :: (slots ads' (vs.map some) ++ (slots (er.set i none) σ ++ L)))) := by
      refine s1.perm ?_
      refine List.Perm.trans ?_ (List.perm_middle (a := (x, v)) (l₁ := r)).symm
      refine List.Perm.cons _ ?_
      refine (List.Perm.append_left _ (h2.append_right L)).trans ?_
      rw [List.append_assoc]
      exact List.perm_append_comm_assoc _ _ _
    refine s2.dropL.perm ?_
    refine (List.perm_middle (a := (x, v)) (l₁ := slots ads' (vs.map some)) (l₂ := slots (er.set i none) σ ++ L)).symm.trans ?_
    refine List.Perm.append_left _ ?_
    exact p.symm.append_right L
/-- f(..) -/
theorem xe_call {S : Spec} {ta : TA} {env : DEnv} {Q : D → DEnv → Prop} (h : XA K ta env fun as e => ∃ ads er, take as e = some (ads, er) ∧ S ads fun r ads' => Q r (put as ads' er)) : XE K (tCall (spOf K S) [] E0 ta) env Q := fun B H σ L I Q' k =>
  h B H σ L I _ fun as e vs l B1 H1 ⟨ads, er, ht, hS⟩ sb m av s => by
    obtain ⟨p, hl, m2⟩ := take_ok (L := L) av m ht
    show spOf K S (vs ++ []) H1 Q' E0
    rw [List.append_nil]
    refine ⟨ads, B1, slots er σ ++ L, _, hl, s.perm p, hS, fun r ads' v B' H' q sb2 s2 => ?_⟩
    have s3 : Sta K B' H' (slots ads' (vs.map some) ++ (slots er σ ++ ((r, v) :: L))) := s2.perm (by
      rw [← List.append_assoc, ← List.append_assoc]
      exact List.perm_middle.symm)
    obtain ⟨m4, s4⟩ := put_ok (L := (r, v) :: L) av m2 s3
    exact k r _ v B' H' q (sb.trans sb2) m4 (s4.perm List.perm_middle)

/-! ### a def keeps its word -/
/-- what stands in the parameters that are stored nowhere -/
def back (fx : List Nat) (n : Nat) (e : DEnv) : List (Option D) := (List.range n).map fun i => if fx.contains i then (e[i]?).join else none
theorem mat_start : ∀ (ads : List D) (vs : List V) (n : Nat), ads.length = vs.length → Mat (ads.map some ++ List.replicate n none) (vs.map some ++ List.replicate n none) ∧ slots (ads.map some ++ List.replicate n none) (vs.map some ++ List.replicate n none) = ads.zip vs
  | [], [], 0, _ => ⟨trivial, rfl⟩
  | [], [], n + 1, _ => mat_start [] [] n rfl
  | d :: ads, v :: vs, n, h => by
    obtain ⟨h1, h2⟩ := mat_start ads vs n (Nat.succ.inj h)
    exact ⟨h1, by
      show (d, v) :: slots (ads.map some ++ List.replicate n none) (vs.map some ++ List.replicate n none) = (d, v) :: ads.zip vs
      rw [h2]⟩
  | [], _ :: _, _, h => nomatch h
  | _ :: _, [], _, h => nomatch h
/-- bk tells of the first slots at most what is so -/
def Covers : DEnv → L2.St → List (Option D) → List V → Prop
  | _, _, [], _ => True
  | _, _, _, [] => True
  | e, σ, none :: bk, _ :: vs => Covers e.tail σ.tail bk vs
  | e, σ, some d :: bk, v :: vs => e.head? = some (some d) ∧ σ.head? = some (some v) ∧ Covers e.tail σ.tail bk vs
theorem slots_nil : ∀ (e : DEnv), slots e [] = []
  | [] => rfl
  | some _ :: _ => rfl
  | none :: _ => rfl
theorem slots_tail : ∀ (e : DEnv) (σ : L2.St), ∃ r, slots e σ = r ++ slots e.tail σ.tail
  | [], _ => ⟨[], by simp [slots]⟩
  | some d :: e, some v :: s => ⟨[(d, v)], rfl⟩
  | some d :: e, none :: s => ⟨[], rfl⟩
  | none :: e, v :: s => ⟨[], by cases v <;> rfl⟩
  | some d :: e, [] => ⟨[], by
    show slots (some d :: e) [] = [] ++ slots e []
    rw [slots_nil, slots_nil]
    rfl⟩
  | none :: e, [] => ⟨[], by
    show slots (none :: e) [] = [] ++ slots e []
    rw [slots_nil, slots_nil]
    rfl⟩
theorem covers_ok : ∀ (bk : List (Option D)) (vs : List V) (e : DEnv) (σ : L2.St), Covers e σ bk vs → ∃ r, (slots e σ).Perm (r ++ slots bk (vs.map some))
  | [], vs, e, σ, _ => ⟨slots e σ, by rw [show slots [] (vs.map some) = [] from by cases vs <;> rfl, List.append_nil]⟩
  | x :: bk, [], e, σ, _ => ⟨slots e σ, by rw [show slots (x :: bk) (List.map some []) = [] from by cases x <;> rfl, List.append_nil]⟩
  | none :: bk, v :: vs, e, σ, h => by
    obtain ⟨r, p⟩ := covers_ok bk vs e.tail σ.tail h
    obtain ⟨r2, q⟩ := slots_tail e σ
    refine ⟨r2 ++ r, ?_⟩
    rw [q, List.append_assoc]
    exact List.Perm.append_left _ p
  | some d :: bk, v :: vs, e, σ, h => by
    obtain ⟨h1, h2, h3⟩ := h
    obtain ⟨r, p⟩ := covers_ok bk vs e.tail σ.tail h3
    cases e with
    | nil => cases h1
    | cons x e =>
      cases σ with
      | nil => cases h2
      | cons y σ =>
        cases h1
        cases h2
        refine ⟨r, ?_⟩
        show ((d, v) :: slots e σ).Perm (r ++ (d, v) :: slots bk (vs.map some))
        exact (List.Perm.cons _ p).trans List.perm_middle.symm
theorem covers_of : ∀ (bk : List (Option D)) (vs : List V) (e : DEnv) (σ : L2.St), (∀ (i : Nat) (d : D) (v : V), bk[i]? = some (some d) → vs[i]? = some v → e[i]? = some (some d) ∧ σ[i]? = some (some v)) → Covers e σ bk vs
  | [], _, _, _, _ => trivial
  | _ :: _, [], _, _, _ => by simp [Covers]
  | none :: bk, v :: vs, e, σ, h => by
    show Covers e.tail σ.tail bk vs
    refine covers_of bk vs _ _ fun i d v h1 h2 => ?_
    have := h (i + 1) d v (by simpa using h1) (by simpa using h2)
    simpa using this
  | some d :: bk, v :: vs, e, σ, h => by
    obtain ⟨h1, h2⟩ := h 0 d v rfl rfl
    refine ⟨by rw [List.head?_eq_getElem?]; exact h1, by rw [List.head?_eq_getElem?]; exact h2, covers_of bk vs _ _ fun i d v h1 h2 => ?_⟩
    have := h (i + 1) d v (by simpa using h1) (by simpa using h2)
    simpa using this
theorem back_ok {fx : List Nat} {N ps : List Str} {B H : Hp} {e : DEnv} {σ : L2.St} {vs : List V} {M : List (D × V)} {r : D} {v : V} (hl : vs.length = ps.length) (kp : Kp fx (L2.start N vs) σ) (s : Sta K B H ((r, v) :: (slots e σ ++ M))) :
    Sta K B H ((r, v) :: (slots (back fx ps.length e) (vs.map some) ++ M)) := by
  obtain ⟨l, p⟩ := covers_ok (back fx ps.length e) vs e σ (covers_of _ _ _ _ fun i d w h1 h2 => by
    unfold back at h1
    rw [List.getElem?_map] at h1
    cases q : (List.range ps.length)[i]? with
    | none => rw [q] at h1; cases h1
    | some j =>
      rw [q] at h1
      obtain ⟨hj, e1⟩ := List.getElem?_eq_some_iff.mp q
      rw [List.getElem_range] at e1
      subst e1
      simp only [Option.map_some, Option.some.injEq] at h1
      by_cases hc : fx.contains i = true
      · rw [if_pos hc] at h1
        have hm : i ∈ fx := by simpa using hc
        refine ⟨?_, ?_⟩
        · cases z : e[i]? with
          | none => rw [z] at h1; cases h1
          | some y =>
            rw [z] at h1
            have : y = some d := h1
            rw [this]
        · rw [kp i hm]
          unfold L2.start
          rw [List.getElem?_append_left (by rw [List.length_map]; exact (List.getElem?_eq_some_iff.mp h2).1), List.getElem?_map, h2]
          rfl
      · rw [if_neg hc] at h1
        cases h1)
  have s2 : Sta K B H (l ++ ((r, v) :: (slots (back fx ps.length e) (vs.map some) ++ M))) := s.perm (by
    refine (List.Perm.cons _ (p.append_right M)).trans ?_
    rw [List.append_assoc]
    exact List.perm_middle.symm)
  exact s2.dropL
/-- THE RULE for a def -/
theorem fn_data {P : Program} {w : World} {mg : Str → Option Value} {base : Heap} {x qual : Str} {st : Stmt} {f : Addr} {fd : FuncData} {N ps : List Str} {k : Nat} {S : Spec} (fx : List Nat) (t : TS) (F : Fun K x qual st f fd) (Sc : FnScope N ps (defScope st))
    (hlen : ∀ ads Q, S ads Q → ads.length = ps.length)
    (hpss : ∀ (cdv : Value) (A : Around) (outer : List PySem.Env) (s : Shared) (H : Hp) (E : XK), Room k (A.deeper (envOfC qual (defScope st) s.heap.objs.size f cdv)) → PSs (cxOf CX0 P w K mg base N qual (defScope st) f cdv A outer s H E).nox (defBody st) t)
    (hx : ∀ ads Q, S ads Q → XS K fx t (ads.map some ++ List.replicate (N.length - ps.length) none) { nx := fun e => Q .non (back fx ps.length e), rt := fun d e => Q d (back fx ps.length e) }) :
    FnOk P w K mg base CX0 (k + 1) f fd ps (spOf K S) := by
  refine F.ok Sc (fun vs H Q E h => ?_) (fun cdv A outer s H vs Q E hr h => ?_)
  · obtain ⟨ads, B, M, Q0, hl, _, hS, _⟩ := h
    exact hl.symm.trans (hlen _ _ hS)
  · obtain ⟨ads, B, M, Q0, hl, sta, hS, hQ⟩ := h
    have hn := hlen _ _ hS
    refine ⟨t, hpss cdv A outer s H E hr, ?_⟩
    obtain ⟨m0, e0⟩ := mat_start ads vs (N.length - vs.length) hl
    have hv : vs.length = ps.length := hl.symm.trans hn
    have hx' := hx ads Q0 hS
    rw [← hv] at hx'
    refine hx' B H (L2.start N vs) M ⟨m0, ?_⟩ _ ⟨fun e σ' B' H' q sb kp I => ?_, fun d e v σ' B' H' q sb kp m' s' => ?_, fun _ _ _ _ q => q.elim, fun _ _ _ _ q => q.elim⟩
    · unfold L2.start
      rw [e0]
      exact sta
    · rw [hv] at q
      exact hQ _ _ .non B' H' q sb (back_ok hv kp (I.sta.add .non))
    · rw [hv] at q
      exact hQ _ _ v B' H' q sb (back_ok hv kp s')
end
end DL

set_option Elab.async false
set_option linter.all false
set_option maxRecDepth 100000
namespace DL
open PySem PySem.Spec PyProof.Rows L2
/-! ### comprehensions -/
def wipeE : DEnv → List Nat → DEnv
  | e, [] => e
  | e, v :: vs => (wipeE e vs).set v none
theorem unset : ∀ {e : DEnv} {s : L2.St} (i : Nat), Mat e (s.set i none) → Mat e s ∧ slots e s = slots e (s.set i none)
  | [], [], _, _ => ⟨trivial, rfl⟩
  | none :: e, v :: s, 0, m => ⟨m, rfl⟩
  | some x :: e, v :: s, 0, m => m.elim
  | some x :: e, some v :: s, i + 1, m => by
    obtain ⟨h1, h2⟩ := unset (e := e) (s := s) i m
    exact ⟨h1, by
      show (x, v) :: slots e s = (x, v) :: slots e (s.set i none)
      rw [h2]⟩
  | none :: e, v :: s, i + 1, m => by
    obtain ⟨h1, h2⟩ := unset (e := e) (s := s) i m
    exact ⟨h1, by
      show slots e s = slots e (s.set i none)
      exact h2⟩
  | some _ :: _, none :: _, _ + 1, m => m.elim
  | [], _ :: _, 0, m => m.elim
  | [], _ :: _, _ + 1, m => m.elim
  | some _ :: _, [], _, m => m.elim
  | none :: _, [], _, m => m.elim
theorem unwipe : ∀ {vs : List Nat} {e : DEnv} {s : L2.St}, Mat e (wipe s vs) → Mat e s ∧ slots e s = slots e (wipe s vs)
  | [], _, _, m => ⟨m, rfl⟩
  | v :: vs, e, s, m => by
    obtain ⟨h1, h2⟩ := unset (s := wipe s vs) v m
    obtain ⟨h3, h4⟩ := unwipe (vs := vs) h1
    exact ⟨h3, h4.trans h2⟩
theorem mat_wipe : ∀ {vs : List Nat} {e : DEnv} {s : L2.St}, Mat e s → Mat (wipeE e vs) (wipe s vs) ∧ ∃ r, (slots e s).Perm (r ++ slots (wipeE e vs) (wipe s vs))
  | [], _, _, m => ⟨m, [], .refl _⟩
  | v :: vs, e, s, m => by
    obtain ⟨h1, r, h2⟩ := mat_wipe (vs := vs) m
    obtain ⟨_, ⟨r2, h3⟩, h4⟩ := mat_forget v h1
    refine ⟨(h4 none).1, r ++ r2, ?_⟩
    show (slots e s).Perm (r ++ r2 ++ slots ((wipeE e vs).set v none) ((wipe s vs).set v none))
    rw [(h4 none).2, List.append_assoc]
    exact h2.trans (List.Perm.append_left _ h3)
theorem wipe_in : ∀ {vs : List Nat} {s : L2.St} {i : Nat}, i ∈ vs → (wipe s vs)[i]? = if i < s.length then some none else none
  | v :: vs, s, i, m => by
    show ((wipe s vs).set v none)[i]? = _
    by_cases hv : v = i
    · subst hv
      by_cases hl : v < s.length
      · rw [List.getElem?_set_self (by rw [wipe_length]; exact hl), if_pos hl]
      · rw [if_neg hl]
        exact List.getElem?_eq_none_iff.mpr (by rw [List.length_set, wipe_length]; omega)
    · rw [List.getElem?_set_ne hv]
      rcases List.mem_cons.mp m with e | m
      · exact absurd e.symm hv
      · exact wipe_in m
theorem wipe_ext {vs : List Nat} {s t : L2.St} (hl : s.length = t.length) (h : ∀ i, i ∉ vs → s[i]? = t[i]?) : wipe s vs = wipe t vs := by
  apply List.ext_getElem?
  intro i
  by_cases m : i ∈ vs
  · rw [wipe_in m, wipe_in m, hl]
  · rw [wipe_out m, wipe_out m, h i m]
theorem wipe_wipe (s : L2.St) (vs : List Nat) : wipe (wipe s vs) vs = wipe s vs := wipe_ext (wipe_length _ _) fun i m => wipe_out m
/-- the slots of the block alone are stored -/
def Wp (vs : List Nat) (σ σ' : L2.St) : Prop := wipe σ' vs = wipe σ vs
theorem Wp.rl {vs : List Nat} : Rl (Wp vs) := ⟨fun _ => rfl, fun h k => Eq.trans (show wipe _ vs = wipe _ vs from k) h⟩
theorem Wp.set {vs : List Nat} {i : Nat} (h : i ∈ vs) (σ : L2.St) (u : Option V) : Wp vs σ (σ.set i u) := wipe_ext (List.length_set) fun j m => List.getElem?_set_ne fun e => m (by rw [← e]; exact h)
abbrev GC (K : PySem.W.Frag) (vs : List Nat) : TG → D → DEnv → (DEnv → Prop) → Prop := GXr K (Wp vs)
theorem gc_name {K : PySem.W.Frag} {vs : List Nat} {env : DEnv} {x : D} {N : DEnv → Prop} {i : Nat} (hi : i ∈ vs) (hl : i < env.length) (q : N (env.set i (some x))) : GC K vs (gName i) x env N := gxr_name (Wp.set hi) hl q
section
variable {K : PySem.W.Frag} {env : DEnv} {te tl : TE} {tt : TT} {g : TG} {vs : List Nat} {Q : D → DEnv → Prop}
/-- one turn -/
def LcTurn (K : PySem.W.Frag) (vs : List Nat) (g : TG) (tt : TT) (te : TE) (x : D) (e1 : DEnv) (acc : List D) (N : List D → DEnv → Prop) : Prop :=
  GC K vs g x e1 fun e2 => XT K tt e2 fun b e3 => (b = true → XE K te e3 fun y e4 => acc.length < sizeLine ∧ N (acc ++ [y]) (wipeE e4 vs)) ∧ (b = false → N acc (wipeE e3 vs))
theorem lc_turn {B H : Hp} {σ : L2.St} {L : List (D × V)} {Dn : Addr} {acc : List D} {x : D} {v : V} {e1 : DEnv} {N : List D → DEnv → Prop} {Nx : Hp → Prop}
    (h : LcTurn K vs g tt te x e1 acc N) (m : Mat e1 (wipe σ vs)) (s : Sta K B H ((.mls acc, .ref Dn) :: (slots e1 (wipe σ vs) ++ L))) (ho : Own K B H x v []) (hp : x.pure = true)
    (hN : ∀ acc' e' B' H', N acc' e' → Same B B' → Mat e' (wipe σ vs) → Sta K B' H' ((.mls acc', .ref Dn) :: (slots e' (wipe σ vs) ++ L)) → Nx H') :
    g v (wipe σ vs) H fun σ2 H2 => wipe σ2 vs = wipe σ vs ∧ tt σ2 H2 fun b H3 => if b = true then te σ2 H3 fun y H4 => ∃ a, H4 Dn = some (.lst a) ∧ a.length < sizeLine ∧ Nx (upd H4 Dn (.lst (a ++ [y]))) else Nx H3 := by
  have s' : Sta K B H (slots e1 (wipe σ vs) ++ ((.mls acc, .ref Dn) :: L)) := s.perm List.perm_middle.symm
  refine h B H (wipe σ vs) ((.mls acc, .ref Dn) :: L) v m (s'.add ho) _ fun e2 σ2 B2 H2 q2 sb2 w2 I2 => ?_
  have w2' : wipe σ2 vs = wipe σ vs := (show wipe σ2 vs = wipe (wipe σ vs) vs from w2).trans (wipe_wipe σ vs)
  refine ⟨w2', ?_⟩
  refine q2 B2 H2 σ2 _ I2 _ fun b e3 B3 H3 q3 sb3 m3 s3 => ?_
  have fin : ∀ {acc' : List D} {e' : DEnv} {B' H' : Hp}, N acc' (wipeE e' vs) → Same B B' → Mat e' σ2 → Sta K B' H' ((.mls acc', .ref Dn) :: (slots e' σ2 ++ L)) → Nx H' := fun {acc' e' B' H'} q sb m4 s4 => by
    obtain ⟨m5, r, p⟩ := mat_wipe (vs := vs) m4
    rw [w2'] at m5 p
    refine hN acc' _ B' H' q sb m5 ?_
    have s5 : Sta K B' H' (r ++ ((.mls acc', .ref Dn) :: (slots (wipeE e' vs) (wipe σ vs) ++ L))) := s4.perm (by
      refine (List.Perm.cons _ (p.append_right L)).trans ?_
      rw [List.append_assoc]
      exact List.perm_middle.symm)
    exact s5.dropL
  cases b with
  | false => exact iteF (fin (q3.2 rfl) (sb2.trans sb3) m3 (s3.perm List.perm_middle))
  | true =>
    refine iteT ?_
    refine q3.1 rfl B3 H3 σ2 _ ⟨m3, s3⟩ _ fun y e4 u B4 H4 ⟨hz, q4⟩ sb4 m4 s4 => ?_
    have s5 : Sta K B4 H4 ((.mls acc, .ref Dn) :: ((y, u) :: (slots e4 σ2 ++ L))) := s4.perm (by
      refine (List.Perm.cons _ List.perm_middle).trans ?_
      exact .swap _ _ _)
    obtain ⟨a, ws, ea, hl, ha, s6⟩ := s5.openL
    cases ea
    refine ⟨ws, ha, by rw [← hl]; exact hz, ?_⟩
    have hl2 : (acc ++ [y]).length = (ws ++ [u]).length := by rw [List.length_append, List.length_append, hl]; rfl
    have s7 : Sta K B4 H4 ((.raw (.lst ws), .ref Dn) :: ((acc ++ [y]).zip (ws ++ [u]) ++ (slots e4 σ2 ++ L))) := s6.perm (by
      rw [zip_app hl]
      refine List.Perm.cons _ ?_
      rw [List.append_assoc]
      exact .refl _)
    exact fin (e' := e4) q4 ((sb2.trans sb3).trans sb4) m4 ((s7.put (.lst (ws ++ [u]))).closeL hl2)
/-- [te for g in a list if tt] -/
theorem xe_lcL (h : XE K tl env fun d e => ∃ (ds : List D) (J : Nat → List D → DEnv → Prop), d.isL = some ds ∧ pureL ds = true ∧ J 0 [] (wipeE e vs) ∧
      (∀ i x acc e1, ds[i]? = some x → J i acc e1 → LcTurn K vs g tt te x e1 acc (J (i + 1))) ∧ ∀ acc e1, J ds.length acc e1 → Q (.mls acc) e1) : XE K (tLc (iList K tl) g tt te vs) env Q := fun B H σ L I Q' k =>
  h B H σ L I _ fun d e v B0 H0 ⟨ds, J, hd, hp, h0, hs, hn⟩ sb0 m0 s0 => by
    obtain ⟨B1, sb1, s1⟩ := s0.rest hd hp
    obtain ⟨f, o⟩ := s1.here
    cases o with
    | cst hq li =>
      rename_i a ws
      have hlen := li.len
      have hf := li.nofp hp
      subst hf
      refine ⟨a, rfl, ⟨ws, sql_mono s1.sub hq⟩, fun Dn hDn => ?_⟩
      obtain ⟨m1, r, p⟩ := mat_wipe (vs := vs) m0
      have s2 : Sta K B1 H0 (slots (wipeE e vs) (wipe σ vs) ++ L) := by
        have s3 : Sta K B1 H0 (r ++ (slots (wipeE e vs) (wipe σ vs) ++ L)) := s1.drop.perm (by rw [← List.append_assoc]; exact p.append_right L)
        exact s3.dropL
      have s4 := Sta.newL (ds := []) (vs := []) (L := slots (wipeE e vs) (wipe σ vs) ++ L) s2 rfl hDn
      refine lc_list (xs := ws) (fun i H' => ∃ acc e1 B', J i acc e1 ∧ Same B1 B' ∧ Mat e1 (wipe σ vs) ∧ Sta K B' H' ((.mls acc, .ref Dn) :: (slots e1 (wipe σ vs) ++ L))) ⟨[], _, B1, h0, .refl _, m1, s4⟩ ?_ ?_ ?_
      · rintro i H' _ ⟨acc, e1, B', _, sb, _, s'⟩
        exact sql_mono (sb.trans s'.sub) hq
      · rintro i x H' hx ⟨acc, e1, B', hi, sb, m', s'⟩
        obtain ⟨y, g', hy, oy, _⟩ := li.getV hx
        have py := pureL_get hp hy
        have z := oy.nofp py
        subst z
        exact lc_turn (hs i y acc e1 hy hi) m' s' (oy.mono sb fun _ m => nomatch m) py fun acc' e' B'' H'' q sb2 m'' s'' => ⟨acc', e', B'', q, sb.trans sb2, m'', s''⟩
      · rintro H' ⟨acc, e1, B', hi, sb, m', s'⟩
        rw [← hlen] at hi
        obtain ⟨m2, e2⟩ := unwipe m'
        exact k (.mls acc) e1 _ B' H' (hn acc e1 hi) ((sb0.trans sb1).trans sb) m2 (by rw [e2]; exact s')
theorem xe_lcT (h : XE K tl env fun d e => ∃ (ds : List D) (J : Nat → List D → DEnv → Prop), d = .tup ds ∧ pureL ds = true ∧ J 0 [] (wipeE e vs) ∧
      (∀ i x acc e1, ds[i]? = some x → J i acc e1 → LcTurn K vs g tt te x e1 acc (J (i + 1))) ∧ ∀ acc e1, J ds.length acc e1 → Q (.mls acc) e1) : XE K (tLc (iTup K tl) g tt te vs) env Q := fun B H σ L I Q' k =>
  h B H σ L I _ fun d e v B1 H0 ⟨ds, J, hd, hp, h0, hs, hn⟩ sb0 m0 s1 => by
    subst hd
    obtain ⟨f, o⟩ := s1.here
    cases o with
    | tup hq li =>
      rename_i a ws
      have hlen := li.len
      have hf := li.nofp hp
      subst hf
      have hq : SqT K B1 a ws := .inl (.inl hq)
      refine ⟨a, rfl, ⟨ws, sqt_mono s1.sub hq⟩, fun Dn hDn => ?_⟩
      obtain ⟨m1, r, p⟩ := mat_wipe (vs := vs) m0
      have s2 : Sta K B1 H0 (slots (wipeE e vs) (wipe σ vs) ++ L) := by
        have s3 : Sta K B1 H0 (r ++ (slots (wipeE e vs) (wipe σ vs) ++ L)) := s1.drop.perm (by rw [← List.append_assoc]; exact p.append_right L)
        exact s3.dropL
      have s4 := Sta.newL (ds := []) (vs := []) (L := slots (wipeE e vs) (wipe σ vs) ++ L) s2 rfl hDn
      refine lc_tup (xs := ws) (fun i H' => ∃ acc e1 B', J i acc e1 ∧ Same B1 B' ∧ Mat e1 (wipe σ vs) ∧ Sta K B' H' ((.mls acc, .ref Dn) :: (slots e1 (wipe σ vs) ++ L))) ⟨[], _, B1, h0, .refl _, m1, s4⟩ ?_ ?_ ?_
      · rintro i H' _ ⟨acc, e1, B', _, sb, _, s'⟩
        exact sqt_mono (sb.trans s'.sub) hq
      · rintro i x H' hx ⟨acc, e1, B', hi, sb, m', s'⟩
        obtain ⟨y, g', hy, oy, _⟩ := li.getV hx
        have py := pureL_get hp hy
        have z := oy.nofp py
        subst z
        exact lc_turn (hs i y acc e1 hy hi) m' s' (oy.mono sb fun _ m => nomatch m) py fun acc' e' B'' H'' q sb2 m'' s'' => ⟨acc', e', B'', q, sb.trans sb2, m'', s''⟩
      · rintro H' ⟨acc, e1, B', hi, sb, m', s'⟩
        rw [← hlen] at hi
        obtain ⟨m2, e2⟩ := unwipe m'
        exact k (.mls acc) e1 _ B' H' (hn acc e1 hi) (sb0.trans sb) m2 (by rw [e2]; exact s')
theorem lc_rangeD {lo : Int} {n : Nat} {B H0 : Hp} {σ : L2.St} {L : List (D × V)} {e : DEnv} {Q' : VK} (m0 : Mat e σ) (s1 : Sta K B H0 (slots e σ ++ L)) (J : Nat → List D → DEnv → Prop) (h0 : J 0 [] (wipeE e vs))
    (hs : ∀ i acc e1, i < n → J i acc e1 → LcTurn K vs g tt te (.int (lo + i)) e1 acc (J (i + 1)))
    (hn : ∀ acc e1 v B' H', J n acc e1 → Same B B' → Mat e1 σ → Sta K B' H' ((.mls acc, v) :: (slots e1 σ ++ L)) → Q' v H') (Dn : Addr) (hDn : H0 Dn = none) :
    ∃ W : Nat → Nat → Hp → Prop, (∃ m, W 0 m (upd H0 Dn (.lst []))) ∧ ∀ i m H, W i m H →
      ((Itr lo n).stop i H ∧ Q' (.ref Dn) H) ∨ ((Itr lo n).go i H ∧ ∃ Nx : Hp → Prop, (∀ H', Nx H' → ∃ m', m' < m ∧ W (i + 1) m' H') ∧ ∀ x H', (Itr lo n).yld i H x H' → g x (wipe σ vs) H' fun σ2 H2 => wipe σ2 vs = wipe σ vs ∧ tt σ2 H2 fun b H3 =>
        if b = true then te σ2 H3 fun y H4 => ∃ acc, H4 Dn = some (.lst acc) ∧ acc.length < sizeLine ∧ Nx (upd H4 Dn (.lst (acc ++ [y]))) else Nx H3) := by
  obtain ⟨m1, r, p⟩ := mat_wipe (vs := vs) m0
  have s2 : Sta K B H0 (slots (wipeE e vs) (wipe σ vs) ++ L) := by
    have s3 : Sta K B H0 (r ++ (slots (wipeE e vs) (wipe σ vs) ++ L)) := s1.perm (by rw [← List.append_assoc]; exact p.append_right L)
    exact s3.dropL
  have s4 := Sta.newL (ds := []) (vs := []) (L := slots (wipeE e vs) (wipe σ vs) ++ L) s2 rfl hDn
  refine lc_range (fun i H' => ∃ acc e1 B', J i acc e1 ∧ Same B B' ∧ Mat e1 (wipe σ vs) ∧ Sta K B' H' ((.mls acc, .ref Dn) :: (slots e1 (wipe σ vs) ++ L))) ⟨[], _, B, h0, .refl _, m1, s4⟩ ?_ ?_
  · rintro i H' hx ⟨acc, e1, B', hi, sb, m', s'⟩
    exact lc_turn (hs i acc e1 hx hi) m' s' (.int _) rfl fun acc' e' B'' H'' q sb2 m'' s'' => ⟨acc', e', B'', q, sb.trans sb2, m'', s''⟩
  · rintro H' ⟨acc, e1, B', hi, sb, m', s'⟩
    obtain ⟨m2, e2⟩ := unwipe m'
    exact hn acc e1 _ B' H' hi sb m2 (by rw [e2]; exact s')
theorem xe_lc1 {tn : TE} (h : XE K tn env fun d e => ∃ (j : Int) (J : Nat → List D → DEnv → Prop), d = .int j ∧ -(2 ^ 62) ≤ j ∧ j < 2 ^ 62 ∧ J 0 [] (wipeE e vs) ∧
      (∀ i acc e1, i < j.toNat → J i acc e1 → LcTurn K vs g tt te (.int i) e1 acc (J (i + 1))) ∧ ∀ acc e1, J j.toNat acc e1 → Q (.mls acc) e1) : XE K (tLc (iRng1 (tCons tn tNil)) g tt te vs) env Q := fun B H σ L I Q' k =>
  h B H σ L I _ fun d e v B1 H1 ⟨j, J, hd, hj1, hj2, h0, hs, hn⟩ sb m s => by
    subst hd
    obtain ⟨f, o⟩ := s.here
    cases o.int_inv
    refine ⟨j, rfl, hj1, hj2, fun Dn hDn => ?_⟩
    exact lc_rangeD m s.drop J h0 (fun i acc e1 hi q => by
      rw [Int.zero_add]
      exact hs i acc e1 hi q) (fun acc e1 v B' H' q sb2 m2 s2 => k _ e1 v B' H' (hn acc e1 q) (sb.trans sb2) m2 s2) Dn hDn
theorem xe_lc2 {tn tf : TE} (h : XE K tn env fun d e => ∃ i : Int, d = .int i ∧ XE K tf e fun d2 e2 => ∃ (j : Int) (J : Nat → List D → DEnv → Prop), d2 = .int j ∧ (-(2 ^ 62) ≤ i ∧ i < 2 ^ 62 ∧ -(2 ^ 62) ≤ j ∧ j < 2 ^ 62) ∧ J 0 [] (wipeE e2 vs) ∧
      (∀ n acc e1, n < (j - i).toNat → J n acc e1 → LcTurn K vs g tt te (.int (i + n)) e1 acc (J (n + 1))) ∧ ∀ acc e1, J (j - i).toNat acc e1 → Q (.mls acc) e1) : XE K (tLc (iRng2 (tCons tn (tCons tf tNil))) g tt te vs) env Q := fun B H σ L I Q' k =>
  h B H σ L I _ fun d e v B1 H1 ⟨i, hd, h2⟩ sb m s => by
    subst hd
    obtain ⟨f, o⟩ := s.here
    cases o.int_inv
    refine h2 B1 H1 σ L ⟨m, s.drop⟩ _ fun d2 e2 v2 B2 H2 ⟨j, J, hd2, hb, h0, hs, hn⟩ sb2 m2 s2 => ?_
    subst hd2
    obtain ⟨f2, o2⟩ := s2.here
    cases o2.int_inv
    refine ⟨i, j, rfl, hb, fun Dn hDn => ?_⟩
    exact lc_rangeD m2 s2.drop J h0 hs (fun acc e1 v B' H' q sb3 m3 s3 => k _ e1 v B' H' (hn acc e1 q) ((sb.trans sb2).trans sb3) m3 s3) Dn hDn
/-- blocks that change nothing: what comes of them by map and filter -/
theorem xt_yes {Q : Bool → DEnv → Prop} (q : Q true env) : XT K tYes env Q := fun B H σ L I Q' k => k true env B H q (.refl _) I.mat I.sta
theorem pkt_yes : PkT K tYes env true := fun B H σ L I Q q => q
/-- the items' own slot: i; p, f: what is asked and made of an item -/
theorem turn_pk {x : D} {e : DEnv} {acc : List D} {N : List D → DEnv → Prop} {i : Nat} {b : Bool} {y : D} (hi : i ∈ vs) (hl : i < e.length) (ht : PkT K tt (e.set i (some x)) b) (hy : b = true → Pk K te (e.set i (some x)) y ∧ y.pure = true ∧ acc.length < sizeLine)
    (hN : N (if b then acc ++ [y] else acc) (wipeE (e.set i (some x)) vs)) : LcTurn K vs (gName i) tt te x e acc N := by
  refine gc_name hi hl (xt_pk ht ⟨fun hb => ?_, fun hb => ?_⟩)
  · subst hb
    obtain ⟨h1, h2, h3⟩ := hy rfl
    exact xe_pk h1 h2 ⟨h3, hN⟩
  · subst hb
    exact hN
theorem wipeE_length (e : DEnv) : ∀ vs : List Nat, (wipeE e vs).length = e.length
  | [] => rfl
  | v :: vs => by
    show ((wipeE e vs).set v none).length = _
    rw [List.length_set, wipeE_length e vs]
theorem wipeE_set {e : DEnv} {i : Nat} {u : Option D} : ∀ {vs : List Nat}, i ∈ vs → wipeE ((wipeE e vs).set i u) vs = wipeE e vs := fun {vs} m => by
  have hin : ∀ (vs : List Nat) (e : DEnv) (j : Nat), j ∈ vs → (wipeE e vs)[j]? = if j < e.length then some none else none := by
    intro vs
    induction vs with
    | nil => intro e j m; nomatch m
    | cons v vs ih =>
      intro e j m
      show ((wipeE e vs).set v none)[j]? = _
      by_cases hv : v = j
      · subst hv
        by_cases hl : v < e.length
        · rw [List.getElem?_set_self (by rw [wipeE_length]; exact hl), if_pos hl]
        · rw [if_neg hl]
          exact List.getElem?_eq_none_iff.mpr (by rw [List.length_set, wipeE_length]; omega)
      · rw [List.getElem?_set_ne hv]
        rcases List.mem_cons.mp m with e | m
        · exact absurd e.symm hv
        · exact ih e j m
  have hout : ∀ (vs : List Nat) (e : DEnv) (j : Nat), j ∉ vs → (wipeE e vs)[j]? = e[j]? := by
    intro vs
    induction vs with
    | nil => intro e j m; rfl
    | cons v vs ih =>
      intro e j m
      show ((wipeE e vs).set v none)[j]? = _
      rw [List.getElem?_set_ne (fun e => m (by rw [e]; exact List.mem_cons_self)), ih e j fun z => m (List.mem_cons_of_mem _ z)]
  apply List.ext_getElem?
  intro j
  by_cases hj : j ∈ vs
  · rw [hin _ _ _ hj, hin _ _ _ hj, List.length_set, wipeE_length]
  · rw [hout _ _ _ hj, hout _ _ _ hj, List.getElem?_set_ne (fun e => hj (by rw [← e]; exact m)), hout _ _ _ hj]
/-- the items of a list as they come, by p and f -/
theorem lc_pick {ds : List D} {e0 : DEnv} {i : Nat} (hi : i ∈ vs) (hl : i < e0.length) (hz : ds.length ≤ sizeLine) (p : D → Bool) (f : D → D)
    (ht : ∀ x ∈ ds, PkT K tt ((wipeE e0 vs).set i (some x)) (p x)) (hf : ∀ x ∈ ds, p x = true → Pk K te ((wipeE e0 vs).set i (some x)) (f x) ∧ (f x).pure = true) :
    ∀ n x acc e1, ds[n]? = some x → (acc = ((ds.take n).filter p).map f ∧ e1 = wipeE e0 vs) → LcTurn K vs (gName i) tt te x e1 acc (fun acc e1 => acc = ((ds.take (n + 1)).filter p).map f ∧ e1 = wipeE e0 vs) := by
  rintro n x acc e1 hx ⟨rfl, rfl⟩
  have hm := List.mem_of_getElem? hx
  have hn : n < ds.length := (List.getElem?_eq_some_iff.mp hx).1
  refine turn_pk hi (by rw [wipeE_length]; exact hl) (ht x hm) (fun hb => ⟨(hf x hm hb).1, (hf x hm hb).2, ?_⟩) ⟨?_, wipeE_set hi⟩
  · rw [List.length_map]
    have h1 := List.length_filter_le p (ds.take n)
    rw [List.length_take] at h1
    omega
  · rw [List.take_add_one, hx, List.filter_append, List.map_append]
    cases hb : p x with
    | true => simp [hb]
    | false => simp [hb]
theorem xe_lcL_pk {i : Nat} (h : XE K tl env fun d e => ∃ (ds : List D) (p : D → Bool) (f : D → D), d.isL = some ds ∧ pureL ds = true ∧ ds.length ≤ sizeLine ∧ i ∈ vs ∧ i < e.length ∧
      (∀ x ∈ ds, PkT K tt ((wipeE e vs).set i (some x)) (p x)) ∧ (∀ x ∈ ds, p x = true → Pk K te ((wipeE e vs).set i (some x)) (f x) ∧ (f x).pure = true) ∧ Q (.mls ((ds.filter p).map f)) (wipeE e vs)) : XE K (tLc (iList K tl) (gName i) tt te vs) env Q :=
  xe_lcL (h.imp fun d e ⟨ds, p, f, h1, h2, h3, h4, h5, h6, h7, h8⟩ => ⟨ds, fun n acc e1 => acc = ((ds.take n).filter p).map f ∧ e1 = wipeE e vs, h1, h2, ⟨rfl, rfl⟩, lc_pick h4 h5 h3 p f h6 h7, fun acc e1 ⟨ha, he⟩ => by
    subst ha; subst he
    rw [List.take_length]
    exact h8⟩)
theorem xe_lcT_pk {i : Nat} (h : XE K tl env fun d e => ∃ (ds : List D) (p : D → Bool) (f : D → D), d = .tup ds ∧ pureL ds = true ∧ ds.length ≤ sizeLine ∧ i ∈ vs ∧ i < e.length ∧
      (∀ x ∈ ds, PkT K tt ((wipeE e vs).set i (some x)) (p x)) ∧ (∀ x ∈ ds, p x = true → Pk K te ((wipeE e vs).set i (some x)) (f x) ∧ (f x).pure = true) ∧ Q (.mls ((ds.filter p).map f)) (wipeE e vs)) : XE K (tLc (iTup K tl) (gName i) tt te vs) env Q :=
  xe_lcT (h.imp fun d e ⟨ds, p, f, h1, h2, h3, h4, h5, h6, h7, h8⟩ => ⟨ds, fun n acc e1 => acc = ((ds.take n).filter p).map f ∧ e1 = wipeE e vs, h1, h2, ⟨rfl, rfl⟩, lc_pick h4 h5 h3 p f h6 h7, fun acc e1 ⟨ha, he⟩ => by
    subst ha; subst he
    rw [List.take_length]
    exact h8⟩)
/-- the numbers below n -/
theorem lc_pickN {m : Nat} {e0 : DEnv} {i : Nat} (hi : i ∈ vs) (hl : i < e0.length) (hz : m ≤ sizeLine) (p : Nat → Bool) (f : Nat → D)
    (ht : ∀ n, n < m → PkT K tt ((wipeE e0 vs).set i (some (.int n))) (p n)) (hf : ∀ n, n < m → p n = true → Pk K te ((wipeE e0 vs).set i (some (.int n))) (f n) ∧ (f n).pure = true) :
    ∀ n acc e1, n < m → (acc = ((List.range n).filter p).map f ∧ e1 = wipeE e0 vs) → LcTurn K vs (gName i) tt te (.int n) e1 acc (fun acc e1 => acc = ((List.range (n + 1)).filter p).map f ∧ e1 = wipeE e0 vs) := by
  rintro n acc e1 hn ⟨rfl, rfl⟩
  refine turn_pk hi (by rw [wipeE_length]; exact hl) (ht n hn) (fun hb => ⟨(hf n hn hb).1, (hf n hn hb).2, ?_⟩) ⟨?_, wipeE_set hi⟩
  · rw [List.length_map]
    have h1 := List.length_filter_le p (List.range n)
    rw [List.length_range] at h1
    omega
  · rw [List.range_succ, List.filter_append, List.map_append]
    cases hb : p n with
    | true => simp [hb]
    | false => simp [hb]
theorem xe_lc1_pk {tn : TE} {i : Nat} (h : XE K tn env fun d e => ∃ (j : Int) (p : Nat → Bool) (f : Nat → D), d = .int j ∧ -(2 ^ 62) ≤ j ∧ j ≤ sizeLine ∧ i ∈ vs ∧ i < e.length ∧
      (∀ n, n < j.toNat → PkT K tt ((wipeE e vs).set i (some (.int n))) (p n)) ∧ (∀ n, n < j.toNat → p n = true → Pk K te ((wipeE e vs).set i (some (.int n))) (f n) ∧ (f n).pure = true) ∧ Q (.mls (((List.range j.toNat).filter p).map f)) (wipeE e vs)) :
    XE K (tLc (iRng1 (tCons tn tNil)) (gName i) tt te vs) env Q :=
  xe_lc1 (h.imp fun d e ⟨j, p, f, h1, h2, h3, h4, h5, h6, h7, h8⟩ => ⟨j, fun n acc e1 => acc = ((List.range n).filter p).map f ∧ e1 = wipeE e vs, h1, h2, by
    have hs : sizeLine = 16777216 := sizeLine_eq
    omega, ⟨rfl, rfl⟩, lc_pickN h4 h5 (by omega) p f h6 h7, fun acc e1 ⟨ha, he⟩ => by
    subst ha; subst he
    exact h8⟩)
end

/-! ### built-in calls -/
section
variable {K : PySem.W.Frag} {env : DEnv} {te ta tb : TE} {Q : D → DEnv → Prop} {ds : List D} {t : D}
/-- a list or tuple read, its items at rest -/
theorem Pk.seq {B H : Hp} {σ : L2.St} {L : List (D × V)} (h : Pk K te env t) (I : In K B H env σ L) (ht : t.isS = some ds) (hp : pureL ds = true) :
    ∃ a vs, (SqL K H a vs ∨ SqT K H a vs) ∧ OwnL K B H ds vs [] ∧ ∀ Q : VK, Q (.ref a) H → te σ H Q := by
  obtain ⟨v, f, o, r⟩ := h B H σ L I
  obtain ⟨a, vs, g, rfl, hq, l⟩ := own_S o I.sta.sub ht
  obtain rfl := l.nofp hp
  exact ⟨a, vs, hq, l, r⟩
theorem Pk.list {B H : Hp} {σ : L2.St} {L : List (D × V)} (h : Pk K te env t) (I : In K B H env σ L) (ht : t.isL = some ds) (hp : pureL ds = true) :
    ∃ a vs, SqL K H a vs ∧ OwnL K B H ds vs [] ∧ ∀ Q : VK, Q (.ref a) H → te σ H Q := by
  obtain ⟨v, f, o, r⟩ := h B H σ L I
  obtain ⟨a, vs, g, rfl, hq, l⟩ := own_L o I.sta.sub ht
  obtain rfl := l.nofp hp
  exact ⟨a, vs, hq, l, r⟩
theorem Pk.tupl {B H : Hp} {σ : L2.St} {L : List (D × V)} (h : Pk K te env t) (I : In K B H env σ L) (ht : t.isT = some ds) (hp : pureL ds = true) :
    ∃ a vs, SqT K H a vs ∧ OwnL K B H ds vs [] ∧ ∀ Q : VK, Q (.ref a) H → te σ H Q := by
  obtain ⟨v, f, o, r⟩ := h B H σ L I
  obtain ⟨a, vs, g, rfl, hq, l⟩ := own_T o I.sta.sub ht
  obtain rfl := l.nofp hp
  exact ⟨a, vs, hq, l, r⟩
theorem Sta.addL {B H : Hp} {L : List (D × V)} {vs : List V} (s : Sta K B H L) (l : OwnL K B H ds vs []) : Sta K B H (ds.zip vs ++ L) := by
  obtain ⟨sb, fp, l2, n, b⟩ := s
  exact .ofParts (f := []) (g := fp) sb l.len l l2 n b
/-- what is made of a list's items: a new list, a new tuple -/
theorem In.newL {B H : Hp} {σ : L2.St} {L : List (D × V)} {vs : List V} {p : Addr} {Q' : VK} (I : In K B H env σ L) (l : OwnL K B H ds vs []) (hp : H p = none) (q : Q (.mls ds) env)
    (k : ∀ d env' v B' H', Q d env' → Same B B' → Mat env' σ → Sta K B' H' ((d, v) :: (slots env' σ ++ L)) → Q' v H') : Q' (.ref p) (upd H p (.lst vs)) :=
  k (.mls ds) env _ B _ q (.refl _) I.mat ((I.sta.addL l).newL l.len hp)
theorem In.newT {B H : Hp} {σ : L2.St} {L : List (D × V)} {vs : List V} {p : Addr} {Q' : VK} (I : In K B H env σ L) (l : OwnL K B H ds vs []) (hp : H p = none) (q : Q (.tup ds) env)
    (k : ∀ d env' v B' H', Q d env' → Same B B' → Mat env' σ → Sta K B' H' ((d, v) :: (slots env' σ ++ L)) → Q' v H') : Q' (.ref p) (upd H p (.tup vs)) := by
  obtain ⟨sb, s⟩ := (I.sta.addL l).newT l.len hp
  exact k (.tup ds) env _ _ _ q sb I.mat s
abbrev rListOf (K : PySem.W.Frag) : List V → Hp → VK → Prop := fun xs H Q => ∃ p ys, xs = [.ref p] ∧ (SqL K H p ys ∨ SqT K H p ys) ∧ ∀ l, H l = none → Q (.ref l) (upd H l (.lst ys))
abbrev rTupOf (K : PySem.W.Frag) : List V → Hp → VK → Prop := fun xs H Q => ∃ p ys, xs = [.ref p] ∧ ((SqL K H p ys ∧ ∀ l, H l = none → Q (.ref l) (upd H l (.tup ys))) ∨ (SqT K H p ys ∧ Q (.ref p) H))
/-- list(xs) -/
theorem xe_list (h : Pk K te env t) (ht : t.isS = some ds) (hp : pureL ds = true) (q : Q (.mls ds) env) : XE K (tCB (rListOf K) (tCons te tNil)) env Q := fun B H σ L I Q' k => by
  obtain ⟨a, vs, hq, l, r⟩ := h.seq I ht hp
  exact r _ ⟨a, vs, rfl, hq, fun p hp => I.newL l hp q k⟩
/-- tuple(xs), xs a list -/
theorem xe_tuple (h : Pk K te env t) (ht : t.isL = some ds) (hp : pureL ds = true) (q : Q (.tup ds) env) : XE K (tCB (rTupOf K) (tCons te tNil)) env Q := fun B H σ L I Q' k => by
  obtain ⟨a, vs, hq, l, r⟩ := h.list I ht hp
  exact r _ ⟨a, vs, rfl, .inl ⟨hq, fun p hp => I.newT l hp q k⟩⟩
/-- .. of a list just made -/
theorem xe_tupleX (h : XE K te env fun t e => ∃ ds, t.isL = some ds ∧ pureL ds = true ∧ Q (.tup ds) e) : XE K (tCB (rTupOf K) (tCons te tNil)) env Q := fun B H σ L I Q' k =>
  h B H σ L I _ fun t e v B1 H1 ⟨ds, ht, hp, q⟩ sb m s => by
    obtain ⟨f, o⟩ := s.here
    obtain ⟨a, vs, g, rfl, hq, l⟩ := own_L o s.sub ht
    obtain rfl := l.nofp hp
    exact ⟨a, vs, rfl, .inl ⟨hq, fun p hp => In.newT (L := L) ⟨m, s.drop⟩ l hp q fun d e2 v B' H' q2 sb2 => k d e2 v B' H' q2 (sb.trans sb2)⟩⟩
theorem xe_listX (h : XE K te env fun t e => ∃ ds, t.isS = some ds ∧ pureL ds = true ∧ Q (.mls ds) e) : XE K (tCB (rListOf K) (tCons te tNil)) env Q := fun B H σ L I Q' k =>
  h B H σ L I _ fun t e v B1 H1 ⟨ds, ht, hp, q⟩ sb m s => by
    obtain ⟨f, o⟩ := s.here
    obtain ⟨a, vs, g, rfl, hq, l⟩ := own_S o s.sub ht
    obtain rfl := l.nofp hp
    exact ⟨a, vs, rfl, hq, fun p hp => In.newL (L := L) ⟨m, s.drop⟩ l hp q fun d e2 v B' H' q2 sb2 => k d e2 v B' H' q2 (sb.trans sb2)⟩
theorem xe_lenX (h : XE K te env fun t e => ∃ ds, t.isS = some ds ∧ Q (.int ds.length) e) : XE K (tCB (rLen2 K) (tCons te tNil)) env Q := fun B H σ L I Q' k =>
  h B H σ L I _ fun t e v B1 H1 ⟨ds, ht, q⟩ sb m s => by
    obtain ⟨f, o⟩ := s.here
    obtain ⟨a, vs, g, rfl, hq, l⟩ := own_S o s.sub ht
    refine ⟨a, vs, rfl, hq, k (.int ds.length) e _ B1 H1 q sb m (s.drop.add ?_)⟩
    rw [← l.len]
    exact .int _
/-- list(range(n)) -/
theorem xe_listRg (h : XE K te env fun d e => ∃ j : Int, d = .int j ∧ -(2 ^ 62) ≤ j ∧ j ≤ sizeLine ∧ Q (.mls ((List.range j.toNat).map fun (i : Nat) => D.int (i : Int))) e) : XE K (tLstRg (tRg1 te)) env Q := fun B H σ L I Q' k =>
  h B H σ L I _ fun d e v B1 H1 ⟨j, hd, h1, h2, q⟩ sb m s => by
    subst hd
    obtain ⟨f, o⟩ := s.here
    cases o.int_inv
    have hs : sizeLine = 16777216 := sizeLine_eq
    refine ⟨j, rfl, ⟨by decide, by decide, h1, by omega, by omega⟩, fun p hp => ?_⟩
    have l : ∀ n : Nat, OwnL K B1 H1 ((List.range n).map fun (i : Nat) => D.int (i : Int)) ((List.range n).map fun (i : Nat) => V.int (0 + (i : Nat))) [] := by
      intro n
      have go : ∀ xs : List Nat, OwnL K B1 H1 (xs.map fun (i : Nat) => D.int (i : Int)) (xs.map fun (i : Nat) => V.int (0 + (i : Nat))) [] := by
        intro xs
        induction xs with
        | nil => exact .nil
        | cons x xs ih =>
          rw [List.map_cons, List.map_cons, Int.zero_add]
          exact .cons (f := []) (g := []) (.int _) ih
      exact go _
    have e0 : (j - 0).toNat = j.toNat := by rw [Int.sub_zero]
    show Q' (.ref p) (upd H1 p (.lst ((List.range (j - 0).toNat).map fun i => V.int (0 + (i : Nat)))))
    rw [e0]
    exact In.newL (L := L) ⟨m, s.drop⟩ (l j.toNat) hp q fun d e2 v B' H' q2 sb2 => k d e2 v B' H' q2 (sb.trans sb2)
/-- xs[::-1] -/
theorem OwnL.reverse {B H : Hp} : ∀ {ds : List D} {vs : List V}, OwnL K B H ds vs [] → OwnL K B H ds.reverse vs.reverse [] := fun {ds vs} h => by
  have go : ∀ {ds : List D} {vs : List V} {f : List Addr}, OwnL K B H ds vs f → f = [] → OwnL K B H ds.reverse vs.reverse [] := by
    intro ds vs f h
    induction ds generalizing vs f with
    | nil =>
      intro _
      cases h
      exact .nil
    | cons d ds ih =>
      intro e
      cases h with
      | cons o l =>
        rename_i v f g vs
        obtain ⟨rfl, rfl⟩ := List.append_eq_nil_iff.mp e
        rw [List.reverse_cons, List.reverse_cons]
        exact (ih l rfl).app (.cons (f := []) (g := []) o .nil)
  exact go h rfl
theorem xe_rev (h : Pk K te env t) (ht : t.isL = some ds) (hp : pureL ds = true) (q : Q (.mls ds.reverse) env) : XE K (tRevL K te) env Q := fun B H σ L I Q' k => by
  obtain ⟨a, vs, hq, l, r⟩ := h.list I ht hp
  exact r _ ⟨a, vs, rfl, hq, fun p hp => I.newL l.reverse hp q k⟩
end
end DL

set_option Elab.async false
set_option linter.all false
set_option maxRecDepth 100000
namespace DL
open PySem PySem.Spec PyProof.Rows L2
section
variable {K : PySem.W.Frag} {env : DEnv} {te ta tb : TE} {Q : D → DEnv → Prop} {ds : List D} {t : D} {i j : Int}
abbrev rAbs : List V → Hp → VK → Prop := fun xs H Q => ∃ i, xs = [.int i] ∧ Q (.int (if i < 0 then -i else i)) H
abbrev rInt1 : List V → Hp → VK → Prop := fun xs H Q => (∃ i, xs = [.int i] ∧ Q (.int i) H) ∨ ∃ k, xs = [.bl k] ∧ Q (.int (if k then 1 else 0)) H
abbrev rMax2 : List V → Hp → VK → Prop := fun xs H Q => ∃ i j, xs = [.int i, .int j] ∧ Q (.int (if j > i then j else i)) H
abbrev rMin2 : List V → Hp → VK → Prop := fun xs H Q => ∃ i j, xs = [.int i, .int j] ∧ Q (.int (if j < i then j else i)) H
theorem pk_call1 {r : List V → Hp → VK → Prop} {v : V} (ha : Pk K te env (.int i)) (hs : isSc v = true) (hr : ∀ (H : Hp) (Q : VK), Q v H → r [.int i] H Q) : Pk K (tCB r (tCons te tNil)) env (toD v) := fun B H σ L I => by
  obtain ⟨u, f, o, rd⟩ := ha B H σ L I
  cases o.int_inv
  exact ⟨_, _, own_toD hs, fun Q q => rd _ (hr H Q q)⟩
theorem pk_abs (ha : Pk K te env (.int i)) : Pk K (tCB rAbs (tCons te tNil)) env (.int (if i < 0 then -i else i)) := pk_call1 (v := .int _) ha rfl fun _ _ q => ⟨i, rfl, q⟩
theorem pk_int1 (ha : Pk K te env (.int i)) : Pk K (tCB rInt1 (tCons te tNil)) env (.int i) := pk_call1 (v := .int _) ha rfl fun _ _ q => .inl ⟨i, rfl, q⟩
theorem pk_int1b {b : Bool} (ha : Pk K te env (.bl b)) : Pk K (tCB rInt1 (tCons te tNil)) env (.int (if b then 1 else 0)) := fun B H σ L I => by
  obtain ⟨u, f, o, rd⟩ := ha B H σ L I
  cases o.bl_inv
  exact ⟨_, _, .int _, fun Q q => rd _ (.inr ⟨b, rfl, q⟩)⟩
theorem pk_call2 {r : List V → Hp → VK → Prop} {v : V} (ha : Pk K ta env (.int i)) (hb : Pk K tb env (.int j)) (hs : isSc v = true) (hr : ∀ (H : Hp) (Q : VK), Q v H → r [.int i, .int j] H Q) : Pk K (tCB r (tCons ta (tCons tb tNil))) env (toD v) := fun B H σ L I => by
  obtain ⟨u, f, o, rd⟩ := ha B H σ L I
  obtain ⟨u2, f2, o2, rd2⟩ := hb B H σ L I
  cases o.int_inv
  cases o2.int_inv
  exact ⟨_, _, own_toD hs, fun Q q => rd _ (rd2 _ (hr H Q q))⟩
theorem pk_max2 (ha : Pk K ta env (.int i)) (hb : Pk K tb env (.int j)) : Pk K (tCB rMax2 (tCons ta (tCons tb tNil))) env (.int (if j > i then j else i)) := pk_call2 (v := .int _) ha hb rfl fun _ _ q => ⟨i, j, rfl, q⟩
theorem pk_min2 (ha : Pk K ta env (.int i)) (hb : Pk K tb env (.int j)) : Pk K (tCB rMin2 (tCons ta (tCons tb tNil))) env (.int (if j < i then j else i)) := pk_call2 (v := .int _) ha hb rfl fun _ _ q => ⟨i, j, rfl, q⟩
theorem xe_int1 (h : XE K te env fun d e => ∃ i, d = .int i ∧ Q (.int i) e) : XE K (tCB rInt1 (tCons te tNil)) env Q := fun B H σ L I Q' k =>
  h B H σ L I _ fun d e v B1 H1 ⟨i, hd, q⟩ sb m s => by
    subst hd
    obtain ⟨f, o⟩ := s.here
    cases o.int_inv
    exact .inl ⟨i, rfl, k _ e _ B1 H1 q sb m s⟩
/-- if .. then .. else, where nothing changes -/
theorem pk_if {tc : TT} {b : Bool} {d : D} (h : PkT K tc env b) (h1 : b = true → Pk K ta env d) (h2 : b = false → Pk K tb env d) : Pk K (tIf tc ta tb) env d := fun B H σ L I => by
  cases b with
  | true =>
    obtain ⟨v, f, o, r⟩ := h1 rfl B H σ L I
    exact ⟨v, f, o, fun Q q => h B H σ L I _ (iteT (r Q q))⟩
  | false =>
    obtain ⟨v, f, o, r⟩ := h2 rfl B H σ L I
    exact ⟨v, f, o, fun Q q => h B H σ L I _ (iteF (r Q q))⟩
end
/-- several numbers written -/
theorem xa_pk {K : PySem.W.Frag} {te : TE} {ta : TA} {env : DEnv} {d : D} {Q : List Arg → DEnv → Prop} (h : Pk K te env d) (hp : d.pure = true) (k : XA K ta env fun as e => Q (.val d :: as) e) : XA K (tCons te ta) env Q := xa_val (xe_pk h hp k)
end DL

/-! ### words for the tactics: k_intsEnd: Pk and PkT; got_up: side goals -/
namespace DL
theorem cmul_l {i j : Int} (h1 : -18446744073709551616 < i) (h2 : i < 18446744073709551616) : L2.CMul i j := .inl ⟨h1, h2⟩
theorem cmul_r {i j : Int} (h1 : -18446744073709551616 < j) (h2 : j < 18446744073709551616) : L2.CMul i j := .inr ⟨h1, h2⟩
theorem cdiv_i {i j : Int} (h1 : 0 < j) (h2 : j < 1073741824) : L2.CDiv i j := ⟨h1, h2⟩
theorem cpow_i {i j : Int} (h1 : 0 ≤ j) (h2 : j ≤ 1000000) (h3 : i.natAbs < 2 ^ 64) : L2.CPow i j := ⟨h1, h2, h3⟩
end DL

set_option Elab.async false
set_option linter.all false
set_option maxRecDepth 100000
set_option maxHeartbeats 2000000
/-! list(zip(xs, ys)), by the library's own machine -/
namespace Lzp
open PySem PySem.Spec PyProof.Rows L2
theorem zip_no_len : typeLookup (.type "zip") "__len__" = pure none := am_miss_of_fast (by decide +kernel)
theorem zip_no_hint : typeLookup (.type "zip") "__length_hint__" = pure none := am_miss_of_fast (by decide +kernel)
section
variable {prog : Program} {w : World} {A : Around} {E : Value → Shared → Prop} {s : Shared} {R : Result → Shared → Prop}
structure ZlG (ps : List (Value × Value)) (lo : Addr) (h : Heap) (as : List Addr) : Prop where
  rise : as.Pairwise (· < ·)
  above : ∀ a ∈ as, lo < a
  pairs : ∀ (j : Nat) (a : Addr), as[j]? = some a → ∃ x y, ps[j]? = some (x, y) ∧ IsPair h a x y
theorem ZlG.there {ps : List (Value × Value)} {lo : Addr} {h : Heap} {as : List Addr} (g : ZlG ps lo h as) {a : Addr} (ha : a ∈ as) : a < h.objs.size := by
  obtain ⟨j, hj⟩ := List.mem_iff_getElem?.mp ha
  obtain ⟨_, _, _, e⟩ := g.pairs j a hj
  exact Heap.lt_size e
structure ZlSt (xs ys : Array Value) (z TI TO i1 i2 l1 l2 S : Addr) (i : Nat) (h : Heap) : Prop where
  ti : IsPair h TI (.ref i1) (.ref i2)
  h1 : h.IsListIter i1 l1 i
  h2 : h.IsListIter i2 l2 i
  hl1 : h.IsList l1 xs
  hl2 : h.IsList l2 ys
  hz : (IsZip h z TI TO .none ∧ ∃ a b, IsPair h TO a b) ∨ ∃ T f oT, PySem.IsZipHeld h z TI TO T f ∧ h.get? T = some oT ∧ T ≠ z ∧ T ≠ i1 ∧ T ≠ i2 ∧ T ≠ S
structure Off (S z TI TO i1 i2 l1 l2 : Addr) : Prop where
  z : z ≠ S
  TI : TI ≠ S
  TO : TO ≠ S
  i1 : i1 ≠ S
  i2 : i2 ≠ S
  l1 : l1 ≠ S
  l2 : l2 ≠ S
variable {xs ys : Array Value} {z TI TO i1 i2 l1 l2 S : Addr} {i : Nat} {h h' : Heap}
theorem ZlSt.keep (x : ZlSt xs ys z TI TO i1 i2 l1 l2 S i h) (F : Off S z TI TO i1 i2 l1 l2) (hk : ∀ b o, b ≠ S → h.get? b = some o → h'.get? b = some o) : ZlSt xs ys z TI TO i1 i2 l1 l2 S i h' := by
  refine ⟨hk _ _ F.TI x.ti, x.h1.at fun o e => hk _ o F.i1 e, x.h2.at fun o e => hk _ o F.i2 e, x.hl1.at fun o e => hk _ o F.l1 e, x.hl2.at fun o e => hk _ o F.l2 e, ?_⟩
  rcases x.hz with ⟨hz, a, b, hTO⟩ | ⟨T, f, oT, hz, hT, r1, r2, r3, r4⟩
  · exact .inl ⟨hk _ _ F.z hz, a, b, hk _ _ F.TO hTO⟩
  · exact .inr ⟨T, f, oT, hk _ _ F.z hz, hk _ _ r4 hT, r1, r2, r3, r4⟩
theorem zl_item (D : ZipApart z TI TO i1 i2 l1 l2) (st : ZlSt xs ys z TI TO i1 i2 l1 l2 S i s.heap) (hS : S < s.heap.objs.size) {x y : Value} (ex : xs[i]? = some x) (ey : ys[i]? = some y) {Q : Option Value → Shared → Prop}
    (hQ : ∀ h', ZlSt xs ys z TI TO i1 i2 l1 l2 S (i + 1) h' → IsPair h' s.heap.objs.size x y → h'.objs.size = s.heap.objs.size + 1 → (∀ c o, c ≠ z → c ≠ TO → c ≠ i1 → c ≠ i2 → s.heap.get? c = some o → h'.get? c = some o) → Q (some (.ref s.heap.objs.size)) { s with heap := h' }) :
    wpAny (model prog w) A (pyNext (.ref z)) Q E s := by
  obtain ⟨hTI, h1, h2, hl1, hl2, hz⟩ := st
  have lt : ∀ {c o}, s.heap.get? c = some o → s.heap.objs.size ≠ c := fun e => Nat.ne_of_gt (Heap.lt_size e)
  have n1 : s.heap.objs.size ≠ i1 := let ⟨_, e, _⟩ := h1; lt e
  have n2 : s.heap.objs.size ≠ i2 := let ⟨_, e, _⟩ := h2; lt e
  rcases hz with ⟨hz, a, b, hTO⟩ | ⟨T, f, oT, hz, hT, r1, r2, r3, r4⟩
  · refine wpAny_pyNext_zip_item D hz hTI hTO h1 h2 hl1 hl2 ex ey fun h' a1 a2 a3 a4 a5 a6 hk => ?_
    exact hQ h' ⟨hk _ _ D.TIz D.TITO D.TIi1 D.TIi2 hTI, a3, a4, hl1.at fun o e => hk _ o D.l1z D.l1TO D.l1i1 D.l1i2 e, hl2.at fun o e => hk _ o D.l2z D.l2TO D.l2i1 D.l2i2 e,
      .inr ⟨s.heap.objs.size, false, _, a1, a5, lt hz, n1, n2, Nat.ne_of_gt hS⟩⟩ a5 a6 hk
  · refine PySem.wpAny_pyNext_zip_item_held D hz hT hTI h1 h2 hl1 hl2 ex ey fun h' a1 a3 a4 a5 a6 hk => ?_
    exact hQ h' ⟨hk _ _ D.TIz D.TIi1 D.TIi2 hTI, a3, a4, hl1.at fun o e => hk _ o D.l1z D.l1i1 D.l1i2 e, hl2.at fun o e => hk _ o D.l2z D.l2i1 D.l2i2 e,
      .inr ⟨T, true, oT, a1, hk _ _ r1 r2 r3 hT, r1, r2, r3, r4⟩⟩ a5 a6 fun c o c1 _ c3 c4 e => hk c o c1 c3 c4 e
theorem zl_done (hh : A.handled = none) (D : ZipApart z TI TO i1 i2 l1 l2) (st : ZlSt xs ys z TI TO i1 i2 l1 l2 S i s.heap) (hend : xs[i]? = none ∨ ys[i]? = none) {Q : Option Value → Shared → Prop}
    (hQ : ∀ h', (∀ c o, c ≠ z → c ≠ TO → c ≠ i1 → c ≠ i2 → s.heap.get? c = some o → h'.get? c = some o) → Q none { s with heap := h' }) : wpAny (model prog w) A (pyNext (.ref z)) Q E s := by
  obtain ⟨hTI, h1, h2, hl1, hl2, hz⟩ := st
  rcases hz with ⟨hz, a, b, hTO⟩ | ⟨T, f, oT, hz, hT, r1, r2, r3, r4⟩
  · exact wpAny_pyNext_zip_end hh D hz hTI hTO h1 h2 hl1 hl2 hend fun h' hk => hQ h' fun c o c1 c2 c3 c4 e => hk c o c1 c2 c3 c4 e
  · exact PySem.wpAny_pyNext_zip_end_held hh D hz hT hTI h1 h2 hl1 hl2 hend fun h' hk => hQ h' fun c o c1 _ c3 c4 e => hk c o c1 c3 c4 e

theorem zl_loop {ps : List (Value × Value)} {lo : Addr} {h0 : Heap} (hh : A.handled = none) (D : ZipApart z TI TO i1 i2 l1 l2) (F : Off S z TI TO i1 i2 l1 l2)
    (hz : z < lo) (hTO : TO < lo) (hi1 : i1 < lo) (hi2 : i2 < lo) (hSl : S ≤ lo) (hn : ps.length ≤ sizeLine) (hps : ps = xs.toList.zip ys.toList) (res : Value)
    (hR : ∀ h' tk acc c as, (∀ b o, b ≠ S → b ≠ z → b ≠ TO → b ≠ i1 → b ≠ i2 → h0.get? b = some o → h'.get? b = some o) → h'.get? S = some { cls := .type "list", dict := none, data := .seq acc c, slots := #[] } → as.length = ps.length → ZlG ps lo h' as →
      acc.toList = as.map Value.ref → R (.ok (.ret res)) { s with heap := h', toks := tk }) :
    ∀ (k i : Nat) (h : Heap) (tk c : Nat) (acc : Array Value) (as : List Addr), ps.length - i = k → i ≤ ps.length → ZlSt xs ys z TI TO i1 i2 l1 l2 S i h → (∀ b o, b ≠ S → b ≠ z → b ≠ TO → b ≠ i1 → b ≠ i2 → h0.get? b = some o → h.get? b = some o) →
      h.get? S = some { cls := .type "list", dict := none, data := .seq acc c, slots := #[] } → acc.toList = as.map Value.ref → as.length = i → ZlG ps lo h as → lo < h.objs.size →
      codeAny (model prog w) A (.builtin "list.extend.loop" ⟨[.ref S, .ref z, res], []⟩) R { s with heap := h, toks := tk } := by
  have hlen : ps.length = min xs.size ys.size := by rw [hps, List.length_zip, Array.length_toList, Array.length_toList]
  have low : ∀ {a}, lo < a → a ≠ z ∧ a ≠ TO ∧ a ≠ i1 ∧ a ≠ i2 := fun {a} ha => ⟨fun e => by subst e; exact Nat.lt_asymm hz ha, fun e => by subst e; exact Nat.lt_asymm hTO ha, fun e => by subst e; exact Nat.lt_asymm hi1 ha, fun e => by subst e; exact Nat.lt_asymm hi2 ha⟩
  intro k
  induction k with
  | zero =>
    intro i h tk c acc as hk hi hst hkeep hS hacc hal hG hIs
    have hin : i = ps.length := by omega
    have hend : xs[i]? = none ∨ ys[i]? = none := by
      rcases Nat.le_total xs.size ys.size with q | q
      · exact .inl (Array.getElem?_eq_none (by omega))
      · exact .inr (Array.getElem?_eq_none (by omega))
    refine codeAny_builtin PySem.F.entry_extend_loop ?_
    rw [Around.under_plainId PySem.F.plain_extend_loop _]
    show wpAny _ A.in1 (pyNext (.ref z) >>= _) _ _ _
    refine wpAny_bind (zl_done (s := { s with heap := h, toks := tk }) (A := A.in1) hh D hst hend fun h' he => ?_)
    refine wpAny_pure (hR h' tk acc c as (fun b o b1 b2 b3 b4 b5 e => he b o b2 b3 b4 b5 (hkeep b o b1 b2 b3 b4 b5 e)) (he S _ (Ne.symm F.z) (Ne.symm F.TO) (Ne.symm F.i1) (Ne.symm F.i2) hS) (by omega) ⟨hG.rise, hG.above, fun j a hj => ?_⟩ hacc)
    obtain ⟨x, y, e1, e3⟩ := hG.pairs j a hj
    obtain ⟨q1, q2, q3, q4⟩ := low (hG.above a (List.mem_of_getElem? hj))
    exact ⟨x, y, e1, he a _ q1 q2 q3 q4 e3⟩
  | succ k ih =>
    intro i h tk c acc as hk hi hst hkeep hS hacc hal hG hIs
    have hlt : i < ps.length := by omega
    have hx : i < xs.size := by omega
    have hy : i < ys.size := by omega
    have hpi : ps[i]? = some (xs[i], ys[i]) := by
      rw [hps, List.getElem?_zip_eq_some]
      exact ⟨by rw [Array.getElem?_toList, Array.getElem?_eq_getElem hx], by rw [Array.getElem?_toList, Array.getElem?_eq_getElem hy]⟩
    have hsz : acc.size = i := by rw [← Array.length_toList, hacc, List.length_map, hal]
    refine codeAny_builtin PySem.F.entry_extend_loop ?_
    rw [Around.under_plainId PySem.F.plain_extend_loop _]
    show wpAny _ A.in1 (pyNext (.ref z) >>= _) _ _ _
    refine wpAny_bind (zl_item (s := { s with heap := h, toks := tk }) D hst (Heap.lt_size hS) (Array.getElem?_eq_getElem hx) (Array.getElem?_eq_getElem hy) fun h' hst' ht hzz hkp => ?_)
    dsimp only at ht hzz hkp ⊢
    have hS' := hkp S _ (Ne.symm F.z) (Ne.symm F.TO) (Ne.symm F.i1) (Ne.symm F.i2) hS
    have up : ∀ b o, b ≠ S → h'.get? b = some o → (h'.update S (Obj.mapSeq (·.push (Value.ref h.objs.size)))).get? b = some o := fun b o hb e => (Heap.get?_update_other _ _ (Ne.symm hb)).trans e
    have hSl' : S < h.objs.size := Heap.lt_size hS
    show wpAny _ A.in1 (updateSeq S (·.push (Value.ref h.objs.size)) >>= _) _ _ _
    refine wpAny_bind ?_
    refine wpAny_updateSeq hS' rfl (wpAny_pure ⟨plainId_quiet PySem.F.plain_extend_loop _, ih (i + 1) _ tk _ (acc.push (Value.ref h.objs.size)) (as ++ [h.objs.size]) (by omega) hlt (hst'.keep F up)
      (fun b o b1 b2 b3 b4 b5 e => up b o b1 (hkp b o b2 b3 b4 b5 (hkeep b o b1 b2 b3 b4 b5 e))) (Heap.get?_update_self _ hS' rfl) (by rw [Array.toList_push, hacc, List.map_append]; rfl) (by rw [List.length_append, hal]; rfl) ⟨?_, ?_, ?_⟩ ?_⟩) (by rw [hsz]; omega) (by show (acc.push (Value.ref h.objs.size)).size ≤ sizeLine + 1; rw [Array.size_push, hsz]; omega)
    · refine List.pairwise_append.mpr ⟨hG.rise, List.pairwise_singleton _ _, fun a ha b hb => ?_⟩
      rw [List.mem_singleton.mp hb]
      exact hG.there ha
    · intro a ha
      rcases List.mem_append.mp ha with ha | ha
      · exact hG.above a ha
      · rw [List.mem_singleton.mp ha]; exact hIs
    · intro j b hj
      rcases Nat.lt_trichotomy j as.length with q1 | q1 | q1
      · rw [List.getElem?_append_left q1] at hj
        obtain ⟨x', y', e1, e3⟩ := hG.pairs j b hj
        have hb := hG.above b (List.mem_of_getElem? hj)
        obtain ⟨q1, q2, q3, q4⟩ := low hb
        exact ⟨x', y', e1, up b _ (Nat.ne_of_gt (Nat.lt_of_le_of_lt hSl hb)) (hkp b _ q1 q2 q3 q4 e3)⟩
      · subst q1
        have hb : h.objs.size = b := by simpa using hj
        subst hb
        exact ⟨xs[i], ys[i], by rw [hal]; exact hpi, up _ _ (Nat.ne_of_gt hSl') ht⟩
      · have hnone : (as ++ [h.objs.size])[j]? = none := List.getElem?_eq_none (by rw [List.length_append, List.length_singleton]; omega)
        rw [hnone] at hj; cases hj
    · have e : (h'.update S (Obj.mapSeq (·.push (Value.ref h.objs.size)))).get? h.objs.size = _ := up _ _ (Nat.ne_of_gt hSl') ht
      exact Nat.lt_trans hIs (Heap.lt_size e)
theorem zl_hint {r : Addr} (hT : s.TypeIs (.ref r) "zip") {Q : Bool → Shared → Prop} (h : Q true s) : wpAny (model prog w) A (Builtin.List.listLengthHint (.ref r)) Q E s := by
  unfold Builtin.List.listLengthHint
  refine wpAny_bind (wpAny_specialOf hT zip_no_len ?_)
  refine PySem.W.KFB.if_not rfl ?_
  refine PySem.W.KFB.if_not rfl ?_
  refine wpAny_bind (wpAny_specialOf hT zip_no_hint ?_)
  exact wpAny_pure h
theorem zl_extend {ps : List (Value × Value)} {c₀ : Nat} (hh : A.handled = none) (D : ZipApart z TI TO i1 i2 l1 l2) (F : Off S z TI TO i1 i2 l1 l2) (st : ZlSt xs ys z TI TO i1 i2 l1 l2 S 0 s.heap) (hz0 : IsZip s.heap z TI TO .none)
    (hn : ps.length ≤ sizeLine) (hps : ps = xs.toList.zip ys.toList) (res : Value) (hS : s.heap.get? S = some { cls := .type "list", data := .seq #[] c₀ }) (lo : Addr) (hlo : lo + 1 = s.heap.objs.size) (l0 : z < lo) (l1' : TO < lo) (l2' : i1 < lo) (l3' : i2 < lo) (l4' : S ≤ lo)
    (hR : ∀ h' tk acc c as, (∀ b o, b ≠ S → b ≠ z → b ≠ TO → b ≠ i1 → b ≠ i2 → s.heap.get? b = some o → h'.get? b = some o) → h'.get? S = some { cls := .type "list", dict := none, data := .seq acc c, slots := #[] } → as.length = ps.length → ZlG ps lo h' as →
      acc.toList = as.map Value.ref → R (.ok (.ret res)) { s with heap := h', toks := tk }) :
    wpAny (model prog w) A.in1 (Builtin.List.listExtendWith (.ref S) (.ref z) res)
      (fun fin s' => match fin with | .done f => R (.ok f) s' | .again c' => c'.quiet = true ∧ codeAny (model prog w) A c' R s') (fun e s' => R (.error e) s') s := by
  have hT : s.TypeIs (.ref z) "zip" := ⟨_, hz0, rfl⟩
  unfold Builtin.List.listExtendWith
  refine wpAny_bind (wpAny_typeOf (T := "zip") hT ?_)
  have h1 : Builtin.List.listSameRef (.ref S) (.ref z) = false := by simp [Builtin.List.listSameRef, Ne.symm F.z]
  have h2 : (Value.type "zip" == Value.type "list") = false := by decide
  have h3 : (Value.type "zip" == Value.type "tuple") = false := by decide
  simp only [h1, h2, h3, Bool.or_false, Bool.false_eq_true, if_false]
  refine wpAny_bind (wpAny_pyIter_zip hz0 ?_)
  refine wpAny_bind (wpAny_holding (zl_hint hT ?_))
  have key : ∀ (h : Heap) (c₁ tk : Nat), (∀ b o, b ≠ S → s.heap.get? b = some o → h.get? b = some o) → h.objs.size = s.heap.objs.size →
      h.get? S = some { cls := .type "list", data := .seq #[] c₁ } → codeAny (model prog w) A (.builtin "list.extend.loop" ⟨[.ref S, .ref z, res], []⟩) R { s with heap := h, toks := tk } := by
    intro h c₁ tk hk hsz hS₁
    exact zl_loop (s := s) (h0 := s.heap) hh D F l0 l1' l2' l3' l4' hn hps res hR ps.length 0 h tk c₁ #[] [] (Nat.sub_zero _) (Nat.zero_le _) (st.keep F hk) (fun b o b1 _ _ _ _ e => hk b o b1 e) hS₁ rfl rfl
      ⟨List.Pairwise.nil, (fun _ ha => nomatch ha), (fun j a hj => by simp at hj)⟩ (by rw [hsz, ← hlo]; exact Nat.lt_succ_self _)
  refine wpAny_ite_split (fun _ => ?_) (fun q => absurd (by simp) q)
  refine wpAny_bind (wpAny_rule ?_)
  refine wpAny_bind ?_
  show wpAny _ _ (updateSeq S (·.push .none) >>= fun _ => updateSeq S (·.pop)) _ _ _
  refine wpAny_bind (wpAny_updateSeq hS rfl ?_)
  have hS₂ := Heap.get?_update_self (Obj.mapSeq (·.push Value.none)) hS rfl
  refine wpAny_updateSeq (hz := by seq_fits) hS₂ rfl ?_
  have hS₃ := Heap.get?_update_self (Obj.mapSeq (·.pop)) hS₂ rfl
  refine wpAny_pure ⟨plainId_quiet PySem.F.plain_extend_loop _, key _ _ _ (fun b o hb e => ?_) (by simp) hS₃⟩
  exact (Heap.get?_update_other _ _ (Ne.symm hb)).trans ((Heap.get?_update_other _ _ (Ne.symm hb)).trans e)
theorem zl_init {ps : List (Value × Value)} (hh : A.handled = none) (D : ZipApart z TI TO i1 i2 l1 l2) (F : Off S z TI TO i1 i2 l1 l2) (st : ZlSt xs ys z TI TO i1 i2 l1 l2 S 0 s.heap) (hz0 : IsZip s.heap z TI TO .none)
    (hn : ps.length ≤ sizeLine) (hps : ps = xs.toList.zip ys.toList) (hS : s.heap.get? S = some { cls := .type "list", data := .seq #[] }) (hlo : S + 1 = s.heap.objs.size) (l0 : z < S) (l1' : TO < S) (l2' : i1 < S) (l3' : i2 < S)
    (hR : ∀ h' tk acc c as, (∀ b o, b ≠ S → b ≠ z → b ≠ TO → b ≠ i1 → b ≠ i2 → s.heap.get? b = some o → h'.get? b = some o) → h'.get? S = some { cls := .type "list", dict := none, data := .seq acc c, slots := #[] } → as.length = ps.length → ZlG ps S h' as →
      acc.toList = as.map Value.ref → R (.ok (.ret .none)) { s with heap := h', toks := tk }) :
    wpAny (model prog w) A.in1 (Builtin.«list.__init__» ⟨[.ref S, .ref z], []⟩)
      (fun fin s' => match fin with | .done f => R (.ok f) s' | .again c' => c'.quiet = true ∧ codeAny (model prog w) A c' R s') (fun e s' => R (.error e) s') s := by
  show wpAny _ _ (do let old ← Builtin.List.listItems (.ref S); Builtin.List.listUpdate (.ref S) (fun _ => #[]); letGo old.toList.reverse; Builtin.List.listExtendWith (.ref S) (.ref z) .none) _ _ s
  refine wpAny_bind ?_
  unfold Builtin.List.listItems
  refine wpAny_bind (wpAny_seqItems hS rfl (wpAny_pure ?_))
  show wpAny _ _ (updateSeq S (fun _ => #[]) >>= fun _ => letGo (#[] : Array Value).toList.reverse >>= fun _ => Builtin.List.listExtendWith (.ref S) (.ref z) .none) _ _ s
  refine wpAny_bind (wpAny_updateSeq hS rfl ?_)
  have hS₂ := Heap.get?_update_self (Obj.mapSeq (fun _ => (#[] : Array Value))) hS rfl
  have oth : ∀ b o, b ≠ S → s.heap.get? b = some o → (s.heap.update S (Obj.mapSeq (fun _ => (#[] : Array Value)))).get? b = some o :=
    fun b o hb e => (Heap.get?_update_other _ _ (Ne.symm hb)).trans e
  refine wpAny_bind (wpAny_letGo ?_)
  have zz : (s.heap.update S (Obj.mapSeq (fun _ => (#[] : Array Value)))).objs.size = s.heap.objs.size := by simp
  refine zl_extend (s := { s with heap := s.heap.update S (Obj.mapSeq (fun _ => (#[] : Array Value))) }) hh D F (st.keep F oth) (oth _ _ F.z hz0) hn hps .none hS₂ S (hlo.trans zz.symm) l0 l1' l2' l3' (Nat.le_refl _) fun h' tk acc c as hk hS' hl hG hacc => ?_
  exact hR h' tk acc c as (fun b o b1 b2 b3 b4 b5 e => hk b o b1 b2 b3 b4 b5 (oth b o b1 e)) hS' hl hG hacc
theorem zl_call {ps : List (Value × Value)} {Q : Value → Shared → Prop} (hh : A.handled = none) (D : ZipApart z TI TO i1 i2 l1 l2) (st : ∀ h', (∀ b o, s.heap.get? b = some o → h'.get? b = some o) → ZlSt xs ys z TI TO i1 i2 l1 l2 s.heap.objs.size 0 h') (hz0 : IsZip s.heap z TI TO .none)
    (hn : ps.length ≤ sizeLine) (hps : ps = xs.toList.zip ys.toList) (F : Off s.heap.objs.size z TI TO i1 i2 l1 l2) (l0 : z < s.heap.objs.size) (l1' : TO < s.heap.objs.size) (l2' : i1 < s.heap.objs.size) (l3' : i2 < s.heap.objs.size)
    (hQ : ∀ h' tk acc c as, (∀ b o, b ≠ z → b ≠ TO → b ≠ i1 → b ≠ i2 → s.heap.get? b = some o → h'.get? b = some o) → h'.get? s.heap.objs.size = some { cls := .type "list", dict := none, data := .seq acc c, slots := #[] } → as.length = ps.length → ZlG ps s.heap.objs.size h' as →
      acc.toList = as.map Value.ref → Q (.ref s.heap.objs.size) { s with heap := h', toks := tk }) :
    wpAny (model prog w) A (call (.type "list") [.ref z]) Q E s := by
  refine callType_codes (Q₁ := fun obj s₁ => obj = .ref s.heap.objs.size ∧ s₁ = { s with heap := s.heap.push { cls := .type "list", data := .seq #[] } }) PySem.F.called_list (PySem.F.typeCall_list_1 _) PySem.F.entry_list_init
    (code_list_new _ ⟨rfl, rfl⟩) fun obj s₁ h₁ => ?_
  obtain ⟨rfl, rfl⟩ := h₁
  have hS : (s.heap.push { cls := .type "list", data := .seq #[] }).get? s.heap.objs.size = some { cls := .type "list", data := .seq #[] } := Heap.get?_push_size _ rfl
  refine ⟨⟨_, hS, rfl⟩, PySem.F.args_list_init_2 _ _, zl_init (s := { s with heap := s.heap.push { cls := .type "list", data := .seq #[] } }) (A := A.in1) hh D F (st _ fun b o e => Heap.get?_push_of_some _ e) (Heap.get?_push_of_some _ hz0) hn hps hS (by simp) l0 l1' l2' l3' fun h' tk acc c as hk hS' hl hG hacc => ?_⟩
  exact ⟨rfl, hQ h' tk acc c as (fun b o b2 b3 b4 b5 e => hk b o (Nat.ne_of_lt (Heap.lt_size e)) b2 b3 b4 b5 (Heap.get?_push_of_some _ e)) hS' hl hG hacc⟩
end
/-! ### the rule over the layer -/
def putP : Hp → List Addr → List (V × V) → Hp
  | H, a :: as, p :: ps => putP (upd H a (.tup [p.1, p.2])) as ps
  | H, _, _ => H
theorem putP_off {b : Addr} : ∀ (as : List Addr) (ps : List (V × V)) (H : Hp), b ∉ as → putP H as ps b = H b
  | [], _, _, _ => rfl
  | _ :: _, [], _, _ => rfl
  | a :: as, p :: ps, H, h => by
    show putP (upd H a (.tup [p.1, p.2])) as ps b = H b
    rw [putP_off as ps _ (fun z => h (List.mem_cons_of_mem _ z)), upd_ne (fun z => h (by rw [z]; exact List.mem_cons_self))]
theorem putP_at : ∀ (as : List Addr) (ps : List (V × V)) (H : Hp), as.length = ps.length → as.Nodup → Paired (fun (t : Addr) (p : V × V) => putP H as ps t = some (.tup [p.1, p.2])) as ps
  | [], [], _, _, _ => .nil
  | [], _ :: _, _, h, _ => by cases h
  | _ :: _, [], _, h, _ => by cases h
  | a :: as, p :: ps, H, h, hn => by
    have hn' := List.nodup_cons.mp hn
    have ih := putP_at as ps (upd H a (.tup [p.1, p.2])) (Nat.succ.inj h) hn'.2
    refine .cons ?_ ih
    show putP (upd H a (.tup [p.1, p.2])) as ps a = some (.tup [p.1, p.2])
    rw [putP_off as ps _ hn'.1, upd_same]
/-- list(zip(xs, ys)): a new list of new pairs -/
def tLstZip (K : PySem.W.Frag) (ta : TA) : TE := fun σ H Q => ta σ H fun vs H1 => ∃ a b xs ys, vs = [.ref a, .ref b] ∧ SqL K H1 a xs ∧ SqL K H1 b ys ∧
  ∀ p ts, H1 p = none → (∀ t ∈ ts, H1 t = none) → p ∉ ts → ts.Nodup → ts.length = (xs.zip ys).length → Q (.ref p) (putP (upd H1 p (.lst (ts.map V.ref))) ts (xs.zip ys))
theorem vals_zip : ∀ {xs ys : List V} {us ws : List Value}, Vals xs us → Vals ys ws → Paired (fun (p : V × V) (q : Value × Value) => RelV p.1 q.1 ∧ RelV p.2 q.2) (xs.zip ys) (us.zip ws)
  | _, _, _, _, .nil, _ => .nil
  | _, _, _, _, .cons _ _, .nil => .nil
  | _, _, _, _, .cons r t, .cons r' t' => .cons ⟨r, r'⟩ (vals_zip t t')
section
variable {X : Cx} {p p2 pos zpos : Pos} {e e2 : Expr} {ta : TA}
theorem zip_laid {pins : List (Addr × Obj)} {σ : L2.St} {H : Hp} {s : Shared} {h' : Heap} {tk : Nat} {S : Addr} {ps : List (V × V)} {us : List (Value × Value)} {acc : Array Value} {c : Nat} {as : List Addr} (I : Inv X pins σ H s) (hSz : s.heap.objs.size ≤ S) (hz : ps.length ≤ sizeLine) (kv : Paired (fun (p : V × V) (q : Value × Value) => RelV p.1 q.1 ∧ RelV p.2 q.2) ps us)
    (hk : ∀ b o, s.heap.get? b = some o → h'.get? b = some o) (hS : h'.get? S = some { cls := .type "list", dict := none, data := .seq acc c, slots := #[] }) (hl : as.length = us.length) (hG : ZlG us S h' as) (hacc : acc.toList = as.map Value.ref) :
    H S = none ∧ (∀ t ∈ as, H t = none) ∧ S ∉ as ∧ as.Nodup ∧ as.length = ps.length ∧ Inv X pins σ (putP (upd H S (.lst (as.map V.ref))) as ps) { s with heap := h', toks := tk } := by
  have lk : ps.length = us.length := Paired.length kv
  have hSn : S ∉ as := fun z => Nat.lt_irrefl _ (hG.above _ z)
  have nd : as.Nodup := List.Pairwise.imp (fun {a b} (h : a < b) => Nat.ne_of_lt h) hG.rise
  have new : ∀ t ∈ as, H t = none := fun t ht => I.hok.fresh (Nat.le_trans hSz (Nat.le_of_lt (hG.above t ht)))
  have newS : H S = none := I.hok.fresh hSz
  have atP := putP_at as ps (upd H S (.lst (as.map V.ref))) (by omega) nd
  have off : ∀ b, b ∉ as → b ≠ S → putP (upd H S (.lst (as.map V.ref))) as ps b = H b := fun b h1 h2 => by rw [putP_off as ps _ h1, upd_ne h2]
  have low : ∀ b o, s.heap.get? b = some o → b ∉ as ∧ b ≠ S := fun b o e => ⟨fun z => absurd (Heap.lt_size e) (Nat.not_lt.mpr (Nat.le_trans hSz (Nat.le_of_lt (hG.above b z)))), Nat.ne_of_lt (Nat.lt_of_lt_of_le (Heap.lt_size e) hSz)⟩
  have kp : ∀ b u, H b = some u → (putP (upd H S (.lst (as.map V.ref))) as ps) b = some u := fun b u e => by
    rw [off b (fun z => by rw [new b z] at e; cases e) (fun z => by rw [z, newS] at e; cases e)]
    exact e
  have eS : putP (upd H S (.lst (as.map V.ref))) as ps S = some (.lst (as.map V.ref)) := by rw [putP_off as ps _ hSn, upd_same]
  refine ⟨newS, new, hSn, nd, by omega, ?_⟩
  refine I.call' (ch := []) rfl ⟨fun b o q _ _ _ => hk b o q, fun b o q _ _ _ => ⟨o.slots, hk b o q⟩, fun b o q n _ => ?_, fun b o q _ => ⟨o, hk b o q⟩, fun b xs q => kp b _ q, fun b o u q => kp b _ q, fun b ps q => ⟨#[], by rw [kp b _ q]; simp⟩⟩ (fun b u q => ?_) I.bare fun b z => by simp at z
  · obtain ⟨z1, z2⟩ := low b o q
    rw [off b z1 z2]
    exact n
  · by_cases hb : b ∈ as
    · obtain ⟨j, pk, e1, e2, e3⟩ := LiI.paired_ix atP hb
      rw [e3] at q
      cases q
      obtain ⟨x, y, f1, f3⟩ := hG.pairs j b e1
      obtain ⟨qv, g1, g2, g3⟩ := LiI.paired_get kv e2
      rw [f1] at g1
      cases g1
      exact ⟨by show 2 ≤ sizeLine; decide, [x, y], .cons g2 (.cons g3 .nil), ⟨_, f3, rfl, _, rfl⟩⟩
    · by_cases hb2 : b = S
      · rw [hb2] at q ⊢
        rw [eS] at q
        cases q
        refine ⟨by rw [List.length_map]; omega, acc.toList, c, by rw [hacc]; exact LiI.vals_refs as, ?_⟩
        rw [Array.toArray_toList]
        exact hS
      · rw [off b hb hb2] at q
        exact (I.hok b u q).stay (fun d v _ y => hk d v y) (fun d y => kp d _ y) fun d xs y => kp d _ y
theorem pe_listZip (hg : Gl X "list") (hm : X.mg "list" = none) (hgz : Gl X "zip") (hmz : X.mg "zip" = none) (ha : PA X [e, e2] ta) (hc : X.calm = true := by rfl)
    (hs : starEach [e, e2] X.env = (false, eval e X.env) :: starEach [e2] X.env := by rfl) (hpl : (backTo zpos (starEach [e2] X.env)).any (·.1) = false := by rfl)
    (na : starEach [.Call (.Name "zip" p2) [e, e2] [] zpos] X.env = (false, eval (.Call (.Name "zip" p2) [e, e2] [] zpos) X.env) :: starEach [] X.env := by rfl) :
    PE X (.Call (.Name "list" p) [.Call (.Name "zip" p2) [e, e2] [] zpos] [] pos) (tLstZip X.K ta) := by
  refine ⟨fun pins s σ H Q I h => ?_⟩
  refine Call_ (ld_blt I hg hm boot_list (PyProof.Rows.callWith_type1 (args_cons (Call_ (ld_blt I hgz hmz PyProof.Rows.boot_zip (PyProof.Rows.callWith_type1 (thn (ha.run zpos pins s σ H _ I h) fun us s1 ⟨vs, H1, I1, r1, q1⟩ => ?_) hs hpl))) na) na))
  obtain ⟨a, b, xs, ys, ex, hqx, hqy, q⟩ := q1
  subst ex
  cases r1 with
  | cons r rr =>
    cases rr with
    | cons r' rr =>
      cases rr
      cases r
      cases r'
      obtain ⟨its, rv, p1, zx⟩ := I1.list hqx
      obtain ⟨its2, rv2, p2, zy⟩ := I1.list hqy
      refine call_zip_2 p1.isList p2.isList fun h' hz hTI hTO h1 h2 hsz hk => ?_
      refine args_nil ?_
      have I2 : Inv X pins σ H1 { s1 with heap := h' } := I1.kept (t' := s1.toks) hk
      have D : ZipApart (s1.heap.objs.size + 4) (s1.heap.objs.size + 2) (s1.heap.objs.size + 3) s1.heap.objs.size (s1.heap.objs.size + 1) a b := PySem.W.ktu_apart s1.heap.objs.size a b p1.lt p2.lt
      have lt : ∀ (n k : Nat), k < 5 → n + k < n + 5 := fun n k hk => Nat.add_lt_add_left hk n
      have la : a < s1.heap.objs.size + 5 := Nat.lt_of_lt_of_le p1.lt (Nat.le_add_right _ _)
      have lb : b < s1.heap.objs.size + 5 := Nat.lt_of_lt_of_le p2.lt (Nat.le_add_right _ _)
      have zl : (its.zip its2).length ≤ sizeLine := by
        rw [List.length_zip, ← rv.length, ← rv2.length]
        exact Nat.le_trans (Nat.min_le_left _ _) zx
      refine zl_call (s := { s1 with heap := h' }) (xs := its.toArray) (ys := its2.toArray) (TI := s1.heap.objs.size + 2) (TO := s1.heap.objs.size + 3) (i1 := s1.heap.objs.size) (i2 := s1.heap.objs.size + 1) (l1 := a) (l2 := b) (ps := its.zip its2) (I.ok.hd hc) D
        (fun h'' kk => ⟨kk _ _ hTI, h1.at fun o e => kk _ o e, h2.at fun o e => kk _ o e, (p1.isList.at fun o e => kk _ o (hk _ o e)), (p2.isList.at fun o e => kk _ o (hk _ o e)), .inl ⟨kk _ _ hz, _, _, kk _ _ hTO⟩⟩) hz zl (by simp)
        ?_ ?_ ?_ ?_ ?_ fun h'' tk acc c as hk2 hS hl hG hacc => ?_
      · show Off h'.objs.size _ _ _ _ _ _ _
        rw [hsz]
        exact ⟨Nat.ne_of_lt (lt _ 4 (by decide)), Nat.ne_of_lt (lt _ 2 (by decide)), Nat.ne_of_lt (lt _ 3 (by decide)), Nat.ne_of_lt (lt _ 0 (by decide)), Nat.ne_of_lt (lt _ 1 (by decide)), Nat.ne_of_lt la, Nat.ne_of_lt lb⟩
      · show _ < h'.objs.size
        rw [hsz]
        exact lt _ 4 (by decide)
      · show _ < h'.objs.size
        rw [hsz]
        exact lt _ 3 (by decide)
      · show _ < h'.objs.size
        rw [hsz]
        exact lt _ 0 (by decide)
      · show _ < h'.objs.size
        rw [hsz]
        exact lt _ 1 (by decide)
      · have hk3 : ∀ b o, s1.heap.get? b = some o → h''.get? b = some o := fun c o eo => hk2 c o (fun z => absurd (Heap.lt_size eo) (by rw [z]; exact Nat.not_lt.mpr (Nat.le_add_right _ _))) (fun z => absurd (Heap.lt_size eo) (by rw [z]; exact Nat.not_lt.mpr (Nat.le_add_right _ _)))
          (fun z => absurd (Heap.lt_size eo) (by rw [z]; exact Nat.lt_irrefl _)) (fun z => absurd (Heap.lt_size eo) (by rw [z]; exact Nat.not_lt.mpr (Nat.le_add_right _ _))) (hk c o eo)
        have hS' : h''.get? h'.objs.size = some { cls := .type "list", dict := none, data := .seq acc c, slots := #[] } := hS
        have hG' : ZlG (its.zip its2) h'.objs.size h'' as := hG
        obtain ⟨k1, k2, k3, k4, k5, J⟩ := zip_laid (tk := tk) (S := h'.objs.size) (ps := xs.zip ys) I1 (by rw [hsz]; exact Nat.le_add_right _ _) (by rw [List.length_zip]; exact Nat.le_trans (Nat.min_le_left _ _) zx) (vals_zip rv rv2) hk3 hS' hl hG' hacc
        exact ⟨.ref h'.objs.size, _, J, rfl, q h'.objs.size as k1 k2 k3 k4 k5⟩
end
end Lzp

set_option Elab.async false
set_option linter.all false
set_option maxRecDepth 100000
namespace DL
open PySem PySem.Spec PyProof.Rows L2
/-! ### data as the model's own trees, for == and in -/
mutual
def D.py : D → PyData
  | .non => .none
  | .bl b => .bool b
  | .int i => .int i
  | .str s => .str s
  | .tup ds => .tuple (pyL ds)
  | .lst ds => .list (pyL ds)
  | .mls ds => .list (pyL ds)
  | .cst ds => .list (pyL ds)
  | .dct _ _ => .none
  | .raw _ => .none
def pyL : List D → List PyData
  | [] => []
  | d :: ds => d.py :: pyL ds
end
mutual
def D.plain : D → Bool
  | .tup ds => plainL ds
  | .lst ds => plainL ds
  | .mls ds => plainL ds
  | .cst ds => plainL ds
  | .dct _ _ => false
  | .raw _ => false
  | _ => true
def plainL : List D → Bool
  | [] => true
  | d :: ds => d.plain && plainL ds
end
section
variable {K : PySem.W.Frag} {B H : Hp}
mutual
theorem Own.dp (hs : Same B H) : ∀ {d : D} {v : V} {f : List Addr}, Own K B H d v f → d.plain = true → Dp K H v d.py
  | _, _, _, .non, _ => .non
  | _, _, _, .bl b, _ => .bl b
  | _, _, _, .int i, _ => .int i
  | _, _, _, .str s, _ => .str s
  | .tup ds, _, _, .tup h l, p => by rw [D.py]; exact .tup (.inl (.inl (hs _ _ h))) (l.dp hs (by rw [D.plain] at p; exact p))
  | .lst ds, _, _, .lst h l, p => by rw [D.py]; exact .lst (.inl (.inl (hs _ _ h))) (l.dp hs (by rw [D.plain] at p; exact p))
  | .mls ds, _, _, .mls h l, p => by rw [D.py]; exact .lst (.inl (.inl h)) (l.dp hs (by rw [D.plain] at p; exact p))
  | .cst ds, _, _, .cst h l, p => by rw [D.py]; exact .lst (sql_mono hs h) (l.dp hs (by rw [D.plain] at p; exact p))
  | .dct _ _, _, _, .dct _ _ _, p => by simp [D.plain] at p
  | .raw _, _, _, .raw _, p => by simp [D.plain] at p
theorem OwnL.dp (hs : Same B H) : ∀ {ds : List D} {vs : List V} {f : List Addr}, OwnL K B H ds vs f → plainL ds = true → DpAll K H vs (pyL ds)
  | _, _, _, .nil, _ => .nil
  | d :: ds, _, _, .cons h l, p => by
    rw [plainL, Bool.and_eq_true] at p
    rw [pyL]
    exact .cons (h.dp hs p.1) (l.dp hs p.2)
end
theorem pyL_map {α : Type} (g : α → D) (xs : List α) : pyL (xs.map g) = xs.map fun x => (g x).py := by
  induction xs with
  | nil => rfl
  | cons x xs ih => rw [List.map_cons, pyL, ih, List.map_cons]
theorem plainL_map {α : Type} {g : α → D} (h : ∀ x, (g x).plain = true) (xs : List α) : plainL (xs.map g) = true := by
  induction xs with
  | nil => rfl
  | cons x xs ih => rw [List.map_cons, plainL, h, ih]; rfl
variable {env : DEnv} {te ta tb : TE} {x y : D}
theorem pk_eqD (ha : Pk K ta env x) (hb : Pk K tb env y) (px : x.plain = true) (py : y.plain = true) (sx : SeqAt.shaped x.py = true) (sy : SeqAt.shaped y.py = true) : Pk K (tOp (rEqD K) ta tb) env (.bl (PyData.eqv x.py y.py)) := fun B H σ L I => by
  obtain ⟨v, f, o, r⟩ := ha B H σ L I
  obtain ⟨u, f', o', r'⟩ := hb B H σ L I
  exact ⟨_, _, .bl _, fun Q q => r _ (r' _ ⟨x.py, y.py, o.dp I.sta.sub px, o'.dp I.sta.sub py, sx, sy, q⟩)⟩
theorem pk_neD (ha : Pk K ta env x) (hb : Pk K tb env y) (px : x.plain = true) (py : y.plain = true) (sx : SeqAt.shaped x.py = true) (sy : SeqAt.shaped y.py = true) : Pk K (tOp (rNeD K) ta tb) env (.bl (!PyData.eqv x.py y.py)) := fun B H σ L I => by
  obtain ⟨v, f, o, r⟩ := ha B H σ L I
  obtain ⟨u, f', o', r'⟩ := hb B H σ L I
  exact ⟨_, _, .bl _, fun Q q => r _ (r' _ ⟨x.py, y.py, o.dp I.sta.sub px, o'.dp I.sta.sub py, sx, sy, q⟩)⟩
/-- both sides reckoned with changes: the left one at rest meanwhile -/
theorem xe_eqD {Q : D → DEnv → Prop} (h : XE K ta env fun x e1 => x.plain = true ∧ SeqAt.shaped x.py = true ∧ XE K tb e1 fun y e2 => y.plain = true ∧ SeqAt.shaped y.py = true ∧ Q (.bl (PyData.eqv x.py y.py)) e2) : XE K (tOp (rEqD K) ta tb) env Q := fun B H σ L I Q' k =>
  h B H σ L I _ fun x e1 v B1 H1 ⟨px, sx, h2⟩ sb1 m1 s1 => by
    have s1' : Sta K B1 H1 (slots e1 σ ++ ((x, v) :: L)) := s1.perm List.perm_middle.symm
    refine h2 B1 H1 σ ((x, v) :: L) ⟨m1, s1'⟩ _ fun y e2 u B2 H2 ⟨py, sy, q⟩ sb2 m2 s2 => ?_
    obtain ⟨f', o'⟩ := s2.here
    have s3 : Sta K B2 H2 ((x, v) :: (slots e2 σ ++ L)) := s2.drop.perm List.perm_middle
    obtain ⟨f, o⟩ := s3.here
    exact ⟨x.py, y.py, o.dp s3.sub px, o'.dp s3.sub py, sx, sy, k (.bl _) e2 _ B2 H2 q (sb1.trans sb2) m2 (s3.drop.add (.bl _))⟩
theorem xe_inD {Q : D → DEnv → Prop} {neg : Bool} {r : R2} (hr : r = if neg then rNotInD K else rInD K) (h : XE K ta env fun x e1 => x.plain = true ∧ SeqAt.shaped x.py = true ∧ XE K tb e1 fun y e2 => ∃ ds, y.isL = some ds ∧ plainL ds = true ∧ SeqAt.shaped (.list (pyL ds)) = true ∧
    Q (.bl (if neg then !(pyL ds).any fun z => PyData.eqv z x.py else (pyL ds).any fun z => PyData.eqv z x.py)) e2) : XE K (tOp r ta tb) env Q := fun B H σ L I Q' k =>
  h B H σ L I _ fun x e1 v B1 H1 ⟨px, sx, h2⟩ sb1 m1 s1 => by
    have s1' : Sta K B1 H1 (slots e1 σ ++ ((x, v) :: L)) := s1.perm List.perm_middle.symm
    refine h2 B1 H1 σ ((x, v) :: L) ⟨m1, s1'⟩ _ fun y e2 u B2 H2 ⟨ds, hl, py, sy, q⟩ sb2 m2 s2 => ?_
    obtain ⟨f', o'⟩ := s2.here
    have s3 : Sta K B2 H2 ((x, v) :: (slots e2 σ ++ L)) := s2.drop.perm List.perm_middle
    obtain ⟨f, o⟩ := s3.here
    obtain ⟨a, ws, g, rfl, hq, l⟩ := own_L o' s2.sub hl
    have hd : Dp K H2 (.ref a) (.list (pyL ds)) := .lst hq (l.dp s2.sub py)
    subst hr
    cases neg with
    | true => exact ⟨x.py, pyL ds, o.dp s3.sub px, hd, sx, sy, k (.bl _) e2 _ B2 H2 q (sb1.trans sb2) m2 (s3.drop.add (.bl _))⟩
    | false => exact ⟨x.py, pyL ds, o.dp s3.sub px, hd, sx, sy, k (.bl _) e2 _ B2 H2 q (sb1.trans sb2) m2 (s3.drop.add (.bl _))⟩
end

/-! ### in a list or tuple of flat items -/
def D.flat : D → Bool
  | .non => true
  | .bl _ => true
  | .int _ => true
  | .str _ => true
  | _ => false
def flatL : List D → Bool
  | [] => true
  | d :: ds => d.flat && flatL ds
def eqF : D → D → Bool
  | .non, .non => true
  | .bl a, .bl b => a == b
  | .bl a, .int b => (if a then 1 else 0) == b
  | .int a, .bl b => a == (if b then 1 else 0)
  | .int a, .int b => a == b
  | .str a, .str b => a == b
  | _, _ => false
section
variable {K : PySem.W.Frag} {B H : Hp}
theorem Own.flat {d : D} {v : V} {f : List Addr} (o : Own K B H d v f) (h : d.flat = true) : flatV v = true := by cases o <;> first | rfl | cases h
theorem OwnL.flat : ∀ {ds : List D} {vs : List V} {f : List Addr}, OwnL K B H ds vs f → flatL ds = true → vs.all flatV = true
  | _, _, _, .nil, _ => rfl
  | d :: ds, _, _, .cons o l, p => by
    rw [flatL, Bool.and_eq_true] at p
    rw [List.all_cons, o.flat p.1, l.flat p.2]
    rfl
theorem Own.eqF {d e : D} {v u : V} {f g : List Addr} (o : Own K B H d v f) (o' : Own K B H e u g) (h : d.flat = true) (h' : e.flat = true) : eqV v u = eqF d e := by cases o <;> cases o' <;> first | rfl | (cases h; done) | (cases h'; done)
theorem OwnL.inF {d : D} {v : V} {g : List Addr} (o : Own K B H d v g) (h : d.flat = true) : ∀ {ds : List D} {vs : List V} {f : List Addr}, OwnL K B H ds vs f → flatL ds = true → inV v vs = ds.any fun y => DL.eqF y d
  | _, _, _, .nil, _ => rfl
  | e :: ds, _, _, .cons o' l, p => by
    rw [flatL, Bool.and_eq_true] at p
    have ih := l.inF o h p.2
    unfold inV at ih ⊢
    rw [List.any_cons, List.any_cons, o'.eqF o p.1 h, ih]
theorem flatL_ints (xs : List Int) : flatL (xs.map D.int) = true := by
  induction xs with
  | nil => rfl
  | cons x xs ih => rw [List.map_cons, flatL, ih]; rfl
theorem inF_ints (xs : List Int) (i : Int) : ((xs.map D.int).any fun y => DL.eqF y (.int i)) = decide (i ∈ xs) := by
  induction xs with
  | nil => rfl
  | cons x xs ih =>
    rw [List.map_cons, List.any_cons, ih]
    show ((x == i) || decide (i ∈ xs)) = decide (i ∈ x :: xs)
    by_cases h : x = i
    · subst h; simp
    · have h' : ¬ i = x := fun e => h e.symm
      rw [show (x == i) = false from beq_eq_false_iff_ne.mpr h]
      simp [h']
variable {env : DEnv} {te ta tb : TE} {x t : D} {ds : List D}
theorem pk_in {neg : Bool} (ha : Pk K ta env x) (hb : Pk K tb env t) (ht : t.isS = some ds) (hx : x.flat = true) (hd : flatL ds = true) : Pk K (tOp (rIn K neg) ta tb) env (.bl (if neg then !ds.any fun y => DL.eqF y x else ds.any fun y => DL.eqF y x)) := fun B H σ L I => by
  obtain ⟨v, f, o, r⟩ := ha B H σ L I
  obtain ⟨u, f', o', r'⟩ := hb B H σ L I
  obtain ⟨a, vs, g, rfl, hq, l⟩ := own_S o' I.sta.sub ht
  refine ⟨_, _, .bl _, fun Q q => r _ (r' _ ⟨a, vs, rfl, hq, o.flat hx, l.flat hd, ?_⟩)⟩
  rw [l.inF o hx hd]
  exact q
theorem pk_inI {xs : List Int} {i : Int} (ha : Pk K ta env (.int i)) (hb : Pk K tb env t) (ht : t.isS = some (xs.map D.int)) : Pk K (tOp (rIn K false) ta tb) env (.bl (decide (i ∈ xs))) := by
  have h := pk_in (neg := false) ha hb ht rfl (flatL_ints xs)
  rw [inF_ints] at h
  exact h
theorem pk_notInI {xs : List Int} {i : Int} (ha : Pk K ta env (.int i)) (hb : Pk K tb env t) (ht : t.isS = some (xs.map D.int)) : Pk K (tOp (rIn K true) ta tb) env (.bl (!decide (i ∈ xs))) := by
  have h := pk_in (neg := true) ha hb ht rfl (flatL_ints xs)
  rw [inF_ints] at h
  exact h
end

/-! ### isinstance -/
def tyD : D → Option String
  | .non => some "NoneType"
  | .bl _ => some "bool"
  | .int _ => some "int"
  | .str _ => some "str"
  | .tup _ => some "tuple"
  | .lst _ => some "list"
  | .mls _ => some "list"
  | .dct _ _ => some "dict"
  | _ => none
section
variable {K : PySem.W.Frag} {env : DEnv} {te : TE} {d : D} {b : Bool} {T t : String}
abbrev tIsI (K : PySem.W.Frag) (T : String) (te : TE) : TE := tCB (rIsi K) (tCons te (tCons (tC (.ty T)) tNil))
theorem ty_own {B H : Hp} {v : V} {f : List Addr} (o : Own K B H d v f) (hs : Same B H) (h : tyD d = some t) : TyX K H v (.type t) := by
  cases o with
  | non => cases h; exact .base .non
  | bl b => cases h; exact .base (.bl b)
  | int i => cases h; exact .base (.int i)
  | str s => cases h; exact .base (.str s)
  | tup q l => cases h; exact .base (.tup (hs _ _ q))
  | lst q l => cases h; exact .base (.lst (hs _ _ q))
  | mls q l => cases h; exact .base (.lst q)
  | cst q l => cases h
  | dct q e l => cases h; exact .base (.dT q)
  | raw q => cases h
theorem pk_isi (h : Pk K te env d) (ht : tyD d = some t) (hk : kitB t T = some b) : Pk K (tIsI K T te) env (.bl b) := fun B H σ L I => by
  obtain ⟨v, f, o, r⟩ := h B H σ L I
  exact ⟨_, _, .bl b, fun Q q => r _ ⟨v, .ty T, .type t, .type T, b, rfl, .ty T, ty_own o I.sta.sub ht, kit_ty hk, q⟩⟩
end
theorem kit_ii : kitB "int" "int" = some true := by decide +kernel
theorem kit_ib : kitB "int" "bool" = some false := by decide +kernel
theorem kit_bi : kitB "bool" "int" = some true := by decide +kernel
theorem kit_bb : kitB "bool" "bool" = some true := by decide +kernel
theorem kit_tt : kitB "tuple" "tuple" = some true := by decide +kernel
theorem kit_tl : kitB "tuple" "list" = some false := by decide +kernel
theorem kit_lt : kitB "list" "tuple" = some false := by decide +kernel
theorem kit_ll : kitB "list" "list" = some true := by decide +kernel
theorem kit_lb : kitB "list" "bool" = some false := by decide +kernel
theorem kit_li : kitB "list" "int" = some false := by decide +kernel
theorem kit_ls : kitB "list" "str" = some false := by decide +kernel
theorem kit_tb : kitB "tuple" "bool" = some false := by decide +kernel
theorem kit_ti : kitB "tuple" "int" = some false := by decide +kernel
theorem kit_ts : kitB "tuple" "str" = some false := by decide +kernel
theorem kit_sb : kitB "str" "bool" = some false := by decide +kernel
theorem kit_si : kitB "str" "int" = some false := by decide +kernel
theorem kit_ss : kitB "str" "str" = some true := by decide +kernel
theorem kit_nt : kitB "NoneType" "tuple" = some false := by decide +kernel
theorem kit_ni : kitB "NoneType" "int" = some false := by decide +kernel
end DL

set_option Elab.async false
set_option linter.all false
set_option maxRecDepth 100000
namespace DL
open PySem PySem.Spec PyProof.Rows L2
/-! ### pairs of ints; sorted -/
abbrev pD (p : Int × Int) : D := .tup [.int p.1, .int p.2]
def lexLe (p q : Int × Int) : Prop := p.1 < q.1 ∨ (p.1 = q.1 ∧ p.2 ≤ q.2)
def kOf (H : Hp) : V → Int × Int
  | .ref t => match H t with
    | some (.tup [.int a, .int b]) => (a, b)
    | _ => (0, 0)
  | _ => (0, 0)
theorem kOf_at {H : Hp} {t : Addr} {p : Int × Int} (h : H t = some (.tup [.int p.1, .int p.2])) : kOf H (.ref t) = p := by
  show (match H t with
    | some (.tup [.int a, .int b]) => (a, b)
    | _ => (0, 0)) = p
  rw [h]
section
variable {K : PySem.W.Frag} {B H : Hp}
theorem own_pD {p : Int × Int} {v : V} {f : List Addr} (o : Own K B H (pD p) v f) : ∃ a, v = .ref a ∧ B a = some (.tup [.int p.1, .int p.2]) := by
  cases o with
  | tup h l =>
    cases l with
    | cons o1 l =>
      cases l with
      | cons o2 l =>
        cases l
        cases o1.int_inv
        cases o2.int_inv
        exact ⟨_, rfl, h⟩
theorem OwnL.pD_back (hs : Same B H) : ∀ {ps : List (Int × Int)} {vs : List V} {f : List Addr}, OwnL K B H (ps.map pD) vs f → vs.map (kOf H) = ps ∧ ∀ y ∈ vs, ∃ a, y = .ref a ∧ B a = some (.tup [.int (kOf H y).1, .int (kOf H y).2])
  | [], _, _, .nil => ⟨rfl, fun _ m => nomatch m⟩
  | p :: ps, _, _, .cons o l => by
    obtain ⟨h1, h2⟩ := l.pD_back hs
    obtain ⟨a, rfl, h⟩ := own_pD o
    have e := kOf_at (hs _ _ h)
    refine ⟨by rw [List.map_cons, h1, e], fun y m => ?_⟩
    rcases List.mem_cons.mp m with rfl | m
    · exact ⟨a, rfl, by rw [e]; exact h⟩
    · exact h2 y m
theorem OwnL.pD_of {k : V → Int × Int} : ∀ (ys : List V), (∀ y ∈ ys, ∃ a, y = V.ref a ∧ B a = some (.tup [.int (k y).1, .int (k y).2])) → OwnL K B H ((ys.map k).map pD) ys []
  | [], _ => .nil
  | y :: ys, h => by
    obtain ⟨a, rfl, ha⟩ := h y List.mem_cons_self
    rw [List.map_cons, List.map_cons]
    exact .cons (f := []) (g := []) (.tup ha (.cons (f := []) (g := []) (.int _) (.cons (f := []) (g := []) (.int _) .nil))) (OwnL.pD_of ys fun y m => h y (List.mem_cons_of_mem _ m))
end
section
variable {K : PySem.W.Frag} {env : DEnv} {te ta tb : TE} {Q : D → DEnv → Prop} {ds : List D} {t : D}
theorem xe_sortP (h : XE K te env fun t e => ∃ ps : List (Int × Int), t.isL = some (ps.map pD) ∧ ∀ qs : List (Int × Int), qs.Perm ps → qs.Pairwise lexLe → Q (.mls (qs.map pD)) e) : XE K (tCB (rSortedPO K) (tCons te tNil)) env Q := fun B H σ L I Q' k =>
  h B H σ L I _ fun t e v B1 H1 ⟨ps, ht, q⟩ sb m s => by
    obtain ⟨f, o⟩ := s.here
    obtain ⟨a, vs, g, rfl, hq, l⟩ := own_L o s.sub ht
    obtain ⟨hk, hv⟩ := l.pD_back s.sub
    refine ⟨a, vs, kOf H1, rfl, hq, fun x hx => ?_, fun ys p hs hb hp => ?_⟩
    · obtain ⟨t, e, ht⟩ := hv x hx
      exact ⟨t, e, s.sub _ _ ht⟩
    · have hperm : (ys.map (kOf H1)).Perm ps := hk ▸ hb.perm.map _
      have l2 : OwnL K B1 H1 ((ys.map (kOf H1)).map pD) ys [] := OwnL.pD_of ys fun y hy => hv y (hb.perm.mem_iff.mp hy)
      refine In.newL (L := L) ⟨m, s.drop⟩ l2 hp (q _ hperm ?_) fun d e2 v B' H' q2 sb2 => k d e2 v B' H' q2 (sb.trans sb2)
      refine List.pairwise_map.mpr (List.Pairwise.imp (fun {x y} h => ?_) hs)
      have z := SrtO.lexB_no.mp h
      unfold lexLe
      omega
/-- sorted of ints -/
theorem OwnL.of_ints {B H : Hp} : ∀ ns : List Int, OwnL K B H (ns.map D.int) (ns.map V.int) []
  | [] => .nil
  | n :: ns => .cons (f := []) (g := []) (.int n) (OwnL.of_ints ns)
theorem OwnL.ints_back {B H : Hp} : ∀ {ns : List Int} {vs : List V} {f : List Addr}, OwnL K B H (ns.map D.int) vs f → vs = ns.map V.int
  | [], _, _, .nil => rfl
  | n :: ns, _, _, .cons o l => by
    cases o.int_inv
    rw [l.ints_back]
    rfl
theorem xe_sortI (h : XE K te env fun t e => ∃ ns : List Int, t.isL = some (ns.map D.int) ∧ ∀ ms : List Int, ms.Perm ns → ms.Pairwise (· ≤ ·) → Q (.mls (ms.map D.int)) e) : XE K (tCB (rSortedI K) (tCons te tNil)) env Q := fun B H σ L I Q' k =>
  h B H σ L I _ fun t e v B1 H1 ⟨ns, ht, q⟩ sb m s => by
    obtain ⟨f, o⟩ := s.here
    obtain ⟨a, vs, g, rfl, hq, l⟩ := own_L o s.sub ht
    obtain rfl := l.ints_back
    refine ⟨a, ns, rfl, hq, fun ms p h1 h2 hp => ?_⟩
    exact In.newL (L := L) ⟨m, s.drop⟩ (OwnL.of_ints ms) hp (q _ h1 h2) fun d e2 v B' H' q2 sb2 => k d e2 v B' H' q2 (sb.trans sb2)
/-- min, max of a list of ints -/
theorem xe_minL {ns : List Int} (h : Pk K te env t) (ht : t.isL = some (ns.map D.int)) (h0 : 0 < ns.length) (q : ∀ m, m ∈ ns → (∀ y ∈ ns, m ≤ y) → Q (.int m) env) : XE K (tCB (rMin K) (tCons te tNil)) env Q := fun B H σ L I Q' k => by
  obtain ⟨v, f, o, r⟩ := h B H σ L I
  obtain ⟨a, vs, g, rfl, hq, l⟩ := own_L o I.sta.sub ht
  obtain rfl := l.ints_back
  exact r _ ⟨a, ns, rfl, hq, h0, fun m m1 m2 => k (.int m) env _ B H (q m m1 m2) (.refl _) I.mat (I.sta.add (.int m))⟩
theorem xe_maxL {ns : List Int} (h : Pk K te env t) (ht : t.isL = some (ns.map D.int)) (h0 : 0 < ns.length) (q : ∀ m, m ∈ ns → (∀ y ∈ ns, y ≤ m) → Q (.int m) env) : XE K (tCB (rMax K) (tCons te tNil)) env Q := fun B H σ L I Q' k => by
  obtain ⟨v, f, o, r⟩ := h B H σ L I
  obtain ⟨a, vs, g, rfl, hq, l⟩ := own_L o I.sta.sub ht
  obtain rfl := l.ints_back
  exact r _ ⟨a, ns, rfl, hq, h0, fun m m1 m2 => k (.int m) env _ B H (q m m1 m2) (.refl _) I.mat (I.sta.add (.int m))⟩
/-- all(..) -/
theorem OwnL.bls_back {B H : Hp} : ∀ {ns : List Bool} {vs : List V} {f : List Addr}, OwnL K B H (ns.map D.bl) vs f → vs = ns.map V.bl
  | [], _, _, .nil => rfl
  | n :: ns, _, _, .cons o l => by
    cases o.bl_inv
    rw [l.bls_back]
    rfl
theorem xe_all (h : XE K te env fun t e => ∃ bs : List Bool, t.isL = some (bs.map D.bl) ∧ Q (.bl (bs.all id)) e) : XE K (tCB (rAll K) (tCons te tNil)) env Q := fun B H σ L I Q' k =>
  h B H σ L I _ fun t e v B1 H1 ⟨ns, ht, q⟩ sb m s => by
    obtain ⟨f, o⟩ := s.here
    obtain ⟨a, vs, g, rfl, hq, l⟩ := own_L o s.sub ht
    obtain rfl := l.bls_back
    exact ⟨a, ns, rfl, hq, k _ e _ B1 H1 q sb m (s.drop.add (.bl _))⟩
theorem xe_any (h : XE K te env fun t e => ∃ bs : List Bool, t.isL = some (bs.map D.bl) ∧ Q (.bl (bs.any id)) e) : XE K (tCB (rAny K) (tCons te tNil)) env Q := fun B H σ L I Q' k =>
  h B H σ L I _ fun t e v B1 H1 ⟨ns, ht, q⟩ sb m s => by
    obtain ⟨f, o⟩ := s.here
    obtain ⟨a, vs, g, rfl, hq, l⟩ := own_L o s.sub ht
    obtain rfl := l.bls_back
    exact ⟨a, ns, rfl, hq, k _ e _ B1 H1 q sb m (s.drop.add (.bl _))⟩
/-- xs.count(i) -/
theorem pk_count {ns : List Int} {i : Int} (ha : Pk K ta env t) (ht : t.isL = some (ns.map D.int)) (hb : Pk K tb env (.int i)) : Pk K (tBM K "list" (rCntI K) ta (tCons tb tNil)) env (.int (ns.count i : Nat)) := fun B H σ L I => by
  obtain ⟨v, f, o, r⟩ := ha B H σ L I
  obtain ⟨u, f2, o2, r2⟩ := hb B H σ L I
  obtain ⟨a, vs, g, rfl, hq, l⟩ := own_L o I.sta.sub ht
  obtain rfl := l.ints_back
  cases o2.int_inv
  exact ⟨_, _, .int _, fun Q q => r _ ⟨.inl ⟨rfl, _, hq⟩, r2 _ ⟨a, ns, i, rfl, rfl, hq, q⟩⟩⟩
/-! ### slices -/
def cutD (xs : List D) (lo hi : Option Int) : List D := (xs.drop (HT.sIx xs.length 0 lo)).take (HT.sIx xs.length xs.length hi - HT.sIx xs.length 0 lo)
def PkO (K : PySem.W.Frag) (to : TO) (env : DEnv) (o : Option Int) : Prop := ∀ (B H : Hp) (σ : L2.St) (L : List (D × V)), In K B H env σ L → ∀ Q : Option Int → Hp → Prop, Q o H → to σ H Q
theorem pko_none : PkO K tNoPart env none := fun B H σ L I Q q => q
theorem pko_part {i : Int} (h : Pk K te env (.int i)) : PkO K (tPart te) env (some i) := fun B H σ L I Q q => by
  obtain ⟨v, f, o, r⟩ := h B H σ L I
  cases o.int_inv
  exact r _ ⟨i, rfl, q⟩
theorem own_take {B H : Hp} : ∀ {ds : List D} {vs : List V} (n : Nat), OwnL K B H ds vs [] → OwnL K B H (ds.take n) (vs.take n) [] ∧ OwnL K B H (ds.drop n) (vs.drop n) [] := fun {ds vs} n l => by
  have e1 : (ds.take n).length = (vs.take n).length := by rw [List.length_take, List.length_take, l.len]
  rw [← List.take_append_drop n ds, ← List.take_append_drop n vs] at l
  obtain ⟨g, g', e, l1, l2⟩ := l.split e1
  obtain ⟨rfl, rfl⟩ := List.append_eq_nil_iff.mp e.symm
  exact ⟨l1, l2⟩
theorem own_cut {B H : Hp} {ds : List D} {vs : List V} {lo hi : Option Int} (l : OwnL K B H ds vs []) : OwnL K B H (cutD ds lo hi) (cutV vs lo hi) [] := by
  unfold cutD cutV
  rw [l.len]
  exact (own_take _ (own_take _ l).2).1
theorem cut_whole {ds : List D} {lo hi : Option Int} (h : HT.sIx ds.length 0 lo = 0 ∧ HT.sIx ds.length ds.length hi = ds.length) : cutD ds lo hi = ds := by
  unfold cutD
  rw [h.1, h.2, List.drop_zero, Nat.sub_zero, List.take_length]
variable {tl th : TO} {lo hi : Option Int}
theorem xe_slL (h : Pk K te env t) (ht : t.isL = some ds) (hp : pureL ds = true) (hl : PkO K tl env lo) (hh : PkO K th env hi) (q : Q (.mls (cutD ds lo hi)) env) : XE K (L2.tSl (rSlL K) te tl th) env Q := fun B H σ L I Q' k => by
  obtain ⟨a, vs, hq, l, r⟩ := h.list I ht hp
  exact r _ (hl B H σ L I _ (hh B H σ L I _ ⟨a, vs, rfl, hq, fun p hp => I.newL (own_cut l) hp q k⟩))
theorem xe_slT (h : XE K te env fun t e => ∃ ds lo hi, t = .tup ds ∧ pureL ds = true ∧ PkO K tl e lo ∧ PkO K th e hi ∧ Q (.tup (cutD ds lo hi)) e) : XE K (L2.tSl (rSlA K) te tl th) env Q := fun B H σ L I Q' k =>
  h B H σ L I _ fun t e v B1 H1 ⟨ds, lo, hi, ht, hp, hl, hh, q⟩ sb m s => by
    subst ht
    obtain ⟨f, o⟩ := s.here
    have I2 : In K B1 H1 e σ ((.tup ds, v) :: L) := ⟨m, s.perm List.perm_middle.symm⟩
    obtain ⟨a, vs, g, rfl, hq, l⟩ := own_T o s.sub (ds := ds) rfl
    obtain rfl := l.nofp hp
    refine hl B1 H1 σ _ I2 _ (hh B1 H1 σ _ I2 _ ⟨a, vs, rfl, hq, fun hw => ?_, fun hw p hpn => ?_⟩)
    · rw [← l.len] at hw
      rw [cut_whole hw] at q
      exact k _ e _ B1 H1 q sb m s
    · exact In.newT (L := L) ⟨m, s.drop⟩ (own_cut l) hpn q fun d e2 v B' H' q2 sb2 => k d e2 v B' H' q2 (sb.trans sb2)
/-! ### put together, repeated -/
theorem xe_cat (h : XE K ta env fun x e1 => ∃ ds, x = .mls ds ∧ XE K tb e1 fun y e2 => ∃ es, y = .mls es ∧ ds.length + es.length ≤ sizeLine ∧ Q (.mls (ds ++ es)) e2) : XE K (tOp rCat ta tb) env Q := fun B H σ L I Q' k =>
  h B H σ L I _ fun x e1 v B1 H1 ⟨ds, hx, h2⟩ sb1 m1 s1 => by
    subst hx
    have s1' : Sta K B1 H1 (slots e1 σ ++ ((.mls ds, v) :: L)) := s1.perm List.perm_middle.symm
    refine h2 B1 H1 σ ((.mls ds, v) :: L) ⟨m1, s1'⟩ _ fun y e2 u B2 H2 ⟨es, hy, hz, q⟩ sb2 m2 s2 => ?_
    subst hy
    obtain ⟨b, ws, rfl, lb, hb, s3⟩ := s2.openL
    have s4 : Sta K B2 H2 ((.mls ds, v) :: (es.zip ws ++ (slots e2 σ ++ L))) := s3.drop.perm (by
      refine List.Perm.trans (List.Perm.append_left _ List.perm_middle) List.perm_middle)
    obtain ⟨a, vs, rfl, la, ha, s5⟩ := s4.openL
    refine ⟨a, b, vs, ws, rfl, rfl, ha, hb, by rw [← la, ← lb]; exact hz, fun p hp => ?_⟩
    have s6 : Sta K B2 H2 ((ds ++ es).zip (vs ++ ws) ++ (slots e2 σ ++ L)) := s5.drop.perm (by
      rw [zip_app la, List.append_assoc])
    exact k _ e2 _ B2 _ q (sb1.trans sb2) m2 (s6.newL (by rw [List.length_append, List.length_append, la, lb]) hp)
theorem own_rep {B H : Hp} {ds : List D} {vs : List V} (l : OwnL K B H ds vs []) : ∀ n : Nat, OwnL K B H (List.replicate n ds).flatten (List.replicate n vs).flatten []
  | 0 => .nil
  | n + 1 => by
    rw [List.replicate_succ, List.replicate_succ, List.flatten_cons, List.flatten_cons]
    exact l.app (own_rep l n)
theorem xe_rep (h : XE K ta env fun x e1 => ∃ ds, x = .mls ds ∧ pureL ds = true ∧ XE K tb e1 fun y e2 => ∃ k : Int, y = .int k ∧ -(2 ^ 63) ≤ k ∧ k < 2 ^ 63 ∧ ds.length * k.toNat ≤ sizeLine ∧ Q (.mls (List.replicate k.toNat ds).flatten) e2) : XE K (tOp rRep ta tb) env Q := fun B H σ L I Q' k =>
  h B H σ L I _ fun x e1 v B1 H1 ⟨ds, hx, hp, h2⟩ sb1 m1 s1 => by
    subst hx
    have s1' : Sta K B1 H1 (slots e1 σ ++ ((.mls ds, v) :: L)) := s1.perm List.perm_middle.symm
    refine h2 B1 H1 σ ((.mls ds, v) :: L) ⟨m1, s1'⟩ _ fun y e2 u B2 H2 ⟨j, hy, j1, j2, hz, q⟩ sb2 m2 s2 => ?_
    subst hy
    obtain ⟨f', o'⟩ := s2.here
    cases o'.int_inv
    have s4 : Sta K B2 H2 ((.mls ds, v) :: (slots e2 σ ++ L)) := s2.drop.perm List.perm_middle
    obtain ⟨a, vs, rfl, la, ha, s5⟩ := s4.openL
    obtain ⟨f, g, l1, _⟩ := s5.drop.parts la
    obtain rfl := l1.nofp hp
    refine ⟨a, j, vs, rfl, rfl, ha, j1, j2, by rw [← la]; exact hz, fun p hpn => ?_⟩
    exact In.newL (L := L) ⟨m2, s4.drop⟩ (own_rep l1 j.toNat) hpn q fun d e2 v B' H' q2 sb3 => k d e2 v B' H' q2 ((sb1.trans sb2).trans sb3)
theorem xe_extend {i : Nat} {t : D} {ds0 : List D} (hi : env[i]? = some (some t)) (ht : t.isL = some ds0) (h : XE K te env fun d e => ∃ ds es, d = .mls es ∧ e[i]? = some (some (.mls ds)) ∧ ds.length + es.length ≤ sizeLine ∧ Q .non (e.set i (some (.mls (ds ++ es))))) :
    XE K (tBM K "list" rExtend (tVar i) (tCons te tNil)) env Q := fun B H σ L I Q' k => by
  obtain ⟨v, e, ty⟩ := ty_list I hi ht
  refine ⟨v, e, ty, ?_⟩
  refine h B H σ L I _ fun d e1 u B1 H1 ⟨ds, es, hd, he, hz, q⟩ sb m s => ?_
  subst hd
  obtain ⟨b, ws, rfl, lb, hb, s1⟩ := s.openL
  have s' : Sta K B1 H1 (slots e1 σ ++ (es.zip ws ++ L)) := s1.drop.perm (by
    rw [← List.append_assoc, ← List.append_assoc]
    exact List.perm_append_comm.append_right L)
  obtain ⟨a, vs, e2, hl, ha, s2⟩ := In.openL m s' he
  rw [e] at e2
  cases e2
  refine ⟨a, b, vs, ws, rfl, rfl, ha, hb, by rw [← hl, ← lb]; exact hz, ?_⟩
  have hl2 : (ds ++ es).length = (vs ++ ws).length := by rw [List.length_append, List.length_append, hl, lb]
  obtain ⟨m3, s3⟩ := In.closeL (L := L) (ds := ds ++ es) (vs := vs) (ws := vs ++ ws) m e hl2 (s2.perm (by
    rw [zip_app hl]
    refine List.Perm.cons _ ?_
    rw [List.append_assoc]
    refine List.Perm.append_left _ ?_
    rw [← List.append_assoc, ← List.append_assoc]
    exact List.perm_append_comm.append_right L))
  exact k _ _ _ B1 _ q sb m3 (s3.add .non)
theorem xe_catT (h : XE K ta env fun x e1 => ∃ ds, x = .tup ds ∧ pureL ds = true ∧ XE K tb e1 fun y e2 => ∃ es, y = .tup es ∧ pureL es = true ∧ ds.length + es.length ≤ sizeLine ∧ Q (.tup (ds ++ es)) e2) : XE K (tOp (rCatA K) ta tb) env Q := fun B H σ L I Q' k =>
  h B H σ L I _ fun x e1 v B1 H1 ⟨ds, hx, hp, h2⟩ sb1 m1 s1 => by
    subst hx
    have s1' : Sta K B1 H1 (slots e1 σ ++ ((.tup ds, v) :: L)) := s1.perm List.perm_middle.symm
    refine h2 B1 H1 σ ((.tup ds, v) :: L) ⟨m1, s1'⟩ _ fun y e2 u B2 H2 ⟨es, hy, hpe, hz, q⟩ sb2 m2 s2 => ?_
    subst hy
    obtain ⟨f', o'⟩ := s2.here
    have s4 : Sta K B2 H2 ((.tup ds, v) :: (slots e2 σ ++ L)) := s2.drop.perm List.perm_middle
    obtain ⟨f, o⟩ := s4.here
    obtain ⟨a, vs, g, rfl, hq, l⟩ := own_T o s4.sub (ds := ds) rfl
    obtain ⟨b, ws, g', rfl, hq', l'⟩ := own_T o' s4.sub (ds := es) rfl
    obtain rfl := l.nofp hp
    obtain rfl := l'.nofp hpe
    refine ⟨a, b, vs, ws, rfl, rfl, hq, hq', by rw [← l.len, ← l'.len]; exact hz, fun z => ?_, fun z1 z2 => ?_, fun z1 z2 p hpn => ?_⟩
    · subst z
      have z2 := l.len
      rw [List.length_nil, List.length_eq_zero_iff] at z2
      subst z2
      exact k _ e2 _ B2 H2 q (sb1.trans sb2) m2 (s4.drop.addP o' (by rw [D.pure]; exact hpe))
    · subst z2
      have z3 := l'.len
      rw [List.length_nil, List.length_eq_zero_iff] at z3
      subst z3
      rw [List.append_nil] at q
      exact k _ e2 _ B2 H2 q (sb1.trans sb2) m2 s4
    · exact In.newT (L := L) ⟨m2, s4.drop⟩ (l.app l') hpn q fun d e3 v B' H' q2 sb3 => k d e3 v B' H' q2 ((sb1.trans sb2).trans sb3)
end
end DL

set_option Elab.async false
set_option linter.all false
set_option maxRecDepth 100000
/-! None asked for in a dict whose keys are tuples; a display of one pair with a tuple as its key; t[::-1] -/
namespace DLd
open PySem Sem
section
variable {prog : Program} {w : World} {K : Type} [DecidableEq K] {knd : HeapKind prog w K} {A : Around} {E : Value → Shared → Prop} {s : Shared}
theorem tell_none {stored : List Value} {Q : Bool → Shared → Prop}
    (hst : ∀ v ∈ stored, ∃ k' b, v = .ref b ∧ knd.is s.heap k' b) (h : Q false s) : wpAny (model prog w) A (tableMayTell .none stored) Q E s := by
  unfold tableMayTell
  split
  · exact wpAny_pure h
  · refine wpAny_bind (wpAny_of_eq (show eqIsQuiet 8 .none = pure true from rfl) ?_)
    simp only [Bool.not_true, Bool.false_eq_true, if_false]
    refine wpAny_bind ?_
    refine wpAny_forIn_list _ (fun rest r s' => s' = s ∧ r = (none, ()) ∧ ∀ v ∈ rest, ∃ k' b, v = .ref b ∧ knd.is s.heap k' b) _ ?_ ?_ _ _ ⟨rfl, rfl, hst⟩
    · rintro x rest r s' ⟨rfl, rfl, hr⟩
      obtain ⟨k', b, rfl, hb⟩ := hr x List.mem_cons_self
      refine wpAny_bind (knd.quiet hb ?_)
      simp only [Bool.not_true, Bool.false_eq_true, if_false]
      exact wpAny_pure ⟨rfl, rfl, fun v hv => hr v (List.mem_cons_of_mem _ hv)⟩
    · rintro r s' ⟨rfl, rfl, _⟩
      exact wpAny_pure h
theorem find_none {d : Addr} {o : Obj} {es ep} {xs : List (K × Addr × Value)} {h : Int} {Q : Option Nat → Shared → Prop} (hu : A.units < cLine) (hT : ∀ x ∈ xs, ∃ its, s.heap.IsTuple x.2.1 its)
    (ho : s.heap.get? d = some o) (hd : o.data = .dict es ep) (he : es.toList = xs.map (entryOfKey knd)) (his : ∀ x ∈ xs, knd.is s.heap x.1 x.2.1) (q : Q none s) :
    wpAny (model prog w) A (dictFind d .none h) Q E s := by
  have hsz : es.size = xs.length := size_of_entries he
  have hmem : ∀ e ∈ es, ∃ x ∈ xs, e = entryOfKey knd x := by
    intro e hin
    have : e ∈ xs.map (entryOfKey knd) := he ▸ Array.mem_toList_iff.mpr hin
    obtain ⟨x, hx, rfl⟩ := List.mem_map.mp this
    exact ⟨x, hx, rfl⟩
  have hst : ∀ v ∈ (placesWithHash es.size (fun i => es[i]?.map (·.hash)) h).filterMap (fun i => es[i]?.map (·.key)), ∃ k' b, v = .ref b ∧ knd.is s.heap k' b := by
    intro v hv
    obtain ⟨i, _, hi⟩ := List.mem_filterMap.mp hv
    cases hei : es[i]? with
    | none => rw [hei] at hi; cases hi
    | some e =>
      rw [hei] at hi
      obtain rfl : e.key = v := by simpa using hi
      obtain ⟨x, hx, rfl⟩ := hmem e (Array.mem_of_getElem? hei)
      exact ⟨x.1, x.2.1, rfl, his x hx⟩
  unfold dictFind
  try with_reducible refine wpAny_holding ?_
  refine wpAny_bind (wpAny_dictEntries ho hd ?_)
  dsimp only
  by_cases hall : ((Value.none :: (placesWithHash es.size (fun i => es[i]?.map (·.hash)) h).filterMap (fun i => es[i]?.map (·.key))).all carriedByValue) = true
  · rw [if_pos hall]
    have hnil : (placesWithHash es.size (fun i => es[i]?.map (·.hash)) h).filterMap (fun i => es[i]?.map (·.key)) = [] := by
      cases hl : (placesWithHash es.size (fun i => es[i]?.map (·.hash)) h).filterMap (fun i => es[i]?.map (·.key)) with
      | nil => rfl
      | cons v r =>
        obtain ⟨k', b, rfl, _⟩ := hst v (by rw [hl]; exact List.mem_cons_self)
        rw [hl] at hall
        simp [carriedByValue] at hall
    have hpl : placesWithHash es.size (fun i => es[i]?.map (·.hash)) h = [] := by
      cases hl : placesWithHash es.size (fun i => es[i]?.map (·.hash)) h with
      | nil => rfl
      | cons i r =>
        have hi : i ∈ placesWithHash es.size (fun i => es[i]?.map (·.hash)) h := by rw [hl]; exact List.mem_cons_self
        have hlt : i < es.size := by
          unfold placesWithHash at hi
          exact List.mem_range.mp (List.mem_filter.mp hi).1
        have hm : es[i].key ∈ (placesWithHash es.size (fun i => es[i]?.map (·.hash)) h).filterMap (fun i => es[i]?.map (·.key)) :=
          List.mem_filterMap.mpr ⟨i, hi, by rw [Array.getElem?_eq_getElem hlt]; rfl⟩
        rw [hnil] at hm
        exact nomatch hm
    rw [hpl]
    have old : wpAny (model prog w) A (dictWalkPlain d .none h es []) Q E s := by
      unfold dictWalkPlain
      rw [List.forIn_nil]
      exact wpAny_bind (wpAny_pure (wpAny_pure q))
    first
      | exact old
      | exact wpAny_bind (wpAny_mono old (fun r s1 q1 => wpAny_pure q1) fun _ _ e => e)
      | exact wpAny_bind (wpAny_mono old (fun r s1 q1 => wpAny_pure (wpAny_pure q1)) fun _ _ e => e)
  · rw [if_neg hall]
    by_cases hone : (((placesWithHash es.size (fun i => es[i]?.map (·.hash)) h).filterMap (fun i => es[i]?.map (·.key))) == [Value.none]) = true <;>
    (first | rw [if_pos hone] | rw [if_neg hone]) <;> (first | refine wpAny_bind (wpAny_pure ?_) | refine wpAny_bind (tell_none hst ?_)) <;> (
      rw [if_neg (by simp)]
      refine wpAny_bind ?_
      refine wpAny_forIn_list _ (fun rest b s' => s' = s ∧ b = (none, none) ∧ ∀ i ∈ rest, i < es.size) _ ?_ ?_ _ _ ⟨rfl, rfl, fun i hi => by
        unfold placesWithHash at hi
        exact List.mem_range.mp (List.mem_filter.mp hi).1⟩
      · rintro x rest b s' ⟨rfl, rfl, hi⟩
        have hlt : x < es.size := hi x List.mem_cons_self
        have hi' : ∀ i ∈ rest, i < es.size := fun i m => hi i (List.mem_cons_of_mem _ m)
        obtain ⟨⟨k', b, v'⟩, hkv⟩ : ∃ y, xs[x]? = some y := ⟨xs[x]'(by rw [← hsz]; exact hlt), List.getElem?_eq_getElem _⟩
        obtain ⟨its, hT⟩ := hT _ (List.mem_of_getElem? hkv)
        have hex : es[x]? = some ⟨knd.hash k', .ref b, v'⟩ := by rw [entry_at he x, hkv]; rfl
        rw [hex]
        dsimp only
        by_cases hh : (knd.hash k' == h) = true
        · rw [if_pos hh]
          refine wpAny_bind (wpAny_dictEpoch ho hd (wpAny_bind (SeqAt.EqAt.tuple_none hT hu prog w E _ (wpAny_bind (wpAny_dictEpoch ho hd ?_)))))
          show wpAny _ _ (if (ep != ep) = true then _ else _) _ E _
          rw [if_neg (by simp)]
          simp only [Bool.false_eq_true, if_false]
          refine wpAny_bind (wpAny_rule ?_)
          first | rw [if_neg (by simp)] | skip
          first
            | exact wpAny_pure ⟨rfl, rfl, hi'⟩
            | exact wpAny_bind (wpAny_pure (wpAny_pure ⟨rfl, rfl, hi'⟩))
        · rw [if_neg hh]
          exact wpAny_pure ⟨rfl, rfl, hi'⟩
      · rintro b s' ⟨rfl, rfl, _⟩
        exact wpAny_pure q)
theorem get_none {d : Addr} {xs : List (K × Addr × Value)} {Q : Option Value → Shared → Prop} (hu : A.units < cLine) (hT : ∀ x ∈ xs, ∃ its, s.heap.IsTuple x.2.1 its) (hm : s.heap.DictOfH knd d xs)
    (h : Q none { s with toks := s.toks + 1 }) : wpAny (model prog w) A (dictGet d .none) Q E s := by
  obtain ⟨o, es, ep, ho, _, hd, he, his, hn⟩ := hm
  unfold dictGet
  try with_reducible refine wpAny_holding ?_
  exact wpAny_bind ((L2.noneKind prog w).pyHash (k := none) rfl (wpAny_bind (find_none (s := { s with toks := s.toks + 1 }) (knd := knd) hu hT ho hd he his (wpAny_pure h))))
theorem has_none {d : Addr} {xs : List (K × Addr × Value)} {Q : Bool → Shared → Prop} (hu : A.in1.units < cLine) (hT : ∀ x ∈ xs, ∃ its, s.heap.IsTuple x.2.1 its) (hd : (d == sysModules) = false) (hm : s.heap.DictOfH knd d xs)
    (h : Q false { s with toks := s.toks + 1 }) : wpAny (model prog w) A (contains (.ref d) .none) Q E s := by
  refine wpAny_contains_slot hm.typeIs F.slot_dict_contains ?_
  refine call_meetsIn F.slot_dict_contains hm.typeIs F.entry_dict_contains (F.args_dict_contains_2 _ _) (S := fun A' R s' => A' = A ∧ s' = s ∧ R (.ok (.ret (.bool false))) { s with toks := s.toks + 1 }) (fun A' R s' hS => ?_) ⟨rfl, rfl, wpAny_truthy_bool h⟩
  obtain ⟨rfl, rfl, hq⟩ := hS
  show wpAny _ _ (dictGet d .none >>= _) _ _ _
  refine wpAny_bind (get_none hu hT hm ?_)
  show wpAny _ _ (Builtin.Dict.pendingKey? d .none >>= _) _ _ _
  exact wpAny_bind (wpAny_pendingKey_other hd (wpAny_pure hq))
end
end DLd
namespace DLd
open PySem PySem.Spec PyProof.Rows L2
section
variable {X : Cx} {pins : List (Addr × Obj)} {σ : L2.St} {H : Hp} {s : Shared} {a : Addr} {kvs : List (List Key × V)} {A : Around} {E : Value → Shared → Prop}
theorem tups {prog : Program} {w : World} {h : Heap} {xs : List (List Key × Addr × Value)} (hm : h.DictOfH (tupleKind (mixKind prog w)) a xs) : ∀ x ∈ xs, ∃ its, h.IsTuple x.2.1 its := by
  obtain ⟨_, _, _, _, _, _, _, his, _⟩ := hm
  intro x hx
  obtain ⟨o, items, n, h1, h2, h3, _⟩ := his x hx
  exact ⟨items, o, h1, h2, n, h3⟩
theorem in_none {Q : Value → Shared → Prop} (hu : A.units + 1 < cLine) (I : Inv X pins σ H s) (e : H a = some (.dT kvs)) (h : ∀ s', Inv X pins σ H s' → Q (.bool false) s') : wpAny (model X.prog X.w) A (compareOp .In .none (.ref a)) Q E s := by
  obtain ⟨_, hd, xs, _, dd⟩ := dt_of I.hok e
  show wpAny _ _ (do return .bool (← contains (.ref a) .none)) Q E s
  exact wpAny_bind (has_none (show A.in1.units < cLine from hu) (tups dd) hd dd (wpAny_pure (h _ (I.tok _))))
theorem notIn_none {Q : Value → Shared → Prop} (hu : A.units + 1 < cLine) (I : Inv X pins σ H s) (e : H a = some (.dT kvs)) (h : ∀ s', Inv X pins σ H s' → Q (.bool true) s') : wpAny (model X.prog X.w) A (compareOp .NotIn .none (.ref a)) Q E s := by
  obtain ⟨_, hd, xs, _, dd⟩ := dt_of I.hok e
  show wpAny _ _ (do return .bool (!(← contains (.ref a) .none))) Q E s
  exact wpAny_bind (has_none (show A.in1.units < cLine from hu) (tups dd) hd dd (wpAny_pure (h _ (I.tok _))))
end
/-- y in d, d's keys tuples; y may be None -/
def tDInM (ty td : TE) : TE := fun σ H Q => ty σ H fun y H1 => td σ H1 fun x H2 => (∃ a o, x = .ref a ∧ DGet H2 a y o ∧ Q (.bl o.isSome) H2) ∨ ∃ a kvs, x = .ref a ∧ y = .non ∧ H2 a = some (.dT kvs) ∧ Q (.bl false) H2
section
variable {X : Cx} {o i : Expr} {td ty : TE}
theorem pc_dinM (hu : X.A.units + 1 < cLine) (hi : PE X i ty) (ho : PE X o td) : PC X .In i o (tDInM ty td) := by
  refine ⟨fun pins s σ H Q I h => ?_⟩
  refine thn (hi.run pins s σ H _ I h) fun iv s1 ⟨y, H1, I1, ry, q1⟩ => thn (ho.run pins s1 σ H1 _ I1 q1) fun u s2 ⟨x, H2, I2, rx, q2⟩ => ?_
  rcases q2 with ⟨a, ov, ex, g, q2⟩ | ⟨a, kvs, ex, ey, g, q2⟩
  · subst ex
    obtain rfl : u = Value.ref a := rx
    exact d_in hu I2 g ry fun s3 I3 => ⟨.bl ov.isSome, H2, I3, rfl, q2⟩
  · subst ex ey
    obtain rfl : u = Value.ref a := rx
    obtain rfl : iv = Value.none := ry
    exact in_none hu I2 g fun s3 I3 => ⟨.bl false, H2, I3, rfl, q2⟩
end
/-- {k: v}, k a tuple of ints and texts -/
def tDisp1 (tk tv : TE) : TE := fun σ H Q => ∀ p, H p = none → tPairs [(tk, tv)] σ (upd H p (.dT [])) fun ps H2 => H2 p = some (.dT []) ∧ ∃ b k y, ps = [(.ref b, y)] ∧ H2 b = some (.tup (k.map kV)) ∧ Q (.ref p) (upd H2 p (.dT [(k, y)]))
theorem pe_disp1 {X : Cx} {pos : Pos} {k v : Expr} {tk tv : TE} (hu : X.A.units + 1 < cLine) (hk : PE X k tk) (hv : PE X v tv) : PE X (.Dict [some k] [v] pos) (tDisp1 tk tv) := by
  refine ⟨fun pins s σ H Q I q => ?_⟩
  have hn := I.hok.fresh (Nat.le_refl s.heap.objs.size)
  have I1 := I.laid (a := s.heap.objs.size) (o := .dT []) (h' := s.heap.push { cls := .type "dict", data := .dict #[] }) (t' := s.toks) (fun _ _ q => Heap.get?_push_of_some _ q) (Nat.le_refl _) (dt_empty s.heap I.big)
  have hp : PPs X pos [some k] [v] [(tk, tv)] := pps_cons hk hv pps_nil
  have hr : (tupleKind (mixKind X.prog X.w)).room X.A := show X.A.units < cLine by omega
  rw [arm_eval_Dict, zip_pairTrees [some k] [v] X.env pos rfl rfl, dictDisplay_pairs (pairTrees [some k] [v] X.env pos) (fun z => nomatch z) (show 1 < 17 by decide)]
  refine wpAny_bind (wpAny_standAt (wpAny_bind (wpAny_subDictH (knd := tupleKind (mixKind X.prog X.w)) (Q := fun d s' => wpAny (model X.prog X.w) X.A (pure (Value.ref d)) _ X.xe s') hr (show 1 ≤ 15 by decide)
    (thn (hp.run pins _ σ _ _ I1 (q _ hn)) fun ws s2 ⟨ps, H2, I2, rel, e, b, kk, y, ep, eb, q2⟩ => ?_))))
  subst ep
  cases rel with
  | @cons p0 pq _ _ r rr =>
    cases rr
    obtain ⟨u1, u2⟩ := pq
    obtain ⟨r1, r2⟩ := r
    cases (show u1 = Value.ref b from r1)
    obtain ⟨z, hd, xs, rk, dd⟩ := dt_of I2.hok e
    cases rk
    have hkey := key_of I2.hok eb
    refine ⟨[(kk, b, u2)], ⟨rfl, rfl, hkey, trivial⟩, dd, fun h' tk dd' hs => wpAny_pure ⟨.ref s.heap.objs.size, _, ?_, rfl, q2⟩⟩
    obtain ⟨q, es, epp, hq, h2, h3, h4, _, h5⟩ := dd'
    refine d_write I2 (by rw [e]; exact True.intro) hs ⟨q, hq⟩ ⟨by show 1 ≤ sizeLine; rw [sizeLine_eq]; decide, hd, _, .cons ⟨rfl, ?_, r2⟩ .nil, q, es, epp, hq, h2, h3, h4, h5⟩
    rw [upd_ne (ne_of eb e (fun z => nomatch z))]
    exact eb
/-! ### t[::-1] -/
section
variable {prog : Program} {w : World} {A : Around} {E : Value → Shared → Prop} {s : Shared}
theorem adj_rev (n : Nat) : Builtin.Slice.sliceAdjust none none (-1) (n : Int) = ((n : Int) - 1, -1) := by
  unfold Builtin.Slice.sliceAdjust
  rfl
theorem places_rev (n : Nat) : Builtin.Slice.slicePlaces ((n : Int) - 1) (-1) (-1) = n := by
  unfold Builtin.Slice.slicePlaces
  have h1 : ¬ ((-1 : Int) > 0) := by omega
  have h2 : (- (-1) : Int) = 1 := by decide
  simp only [h1, if_false, h2, Int.ediv_one]
  split <;> omega
theorem applied_rev {sl : Addr} {vl vu vs : Value} {n : Nat} {Q : Int × Int × Nat → Shared → Prop} (hs : s.heap.IsSliceOf sl vl vu vs) (pl : IsPart vl none) (pu : IsPart vu none) (ps : IsPart vs (some (-1)))
    (h : Q ((n : Int) - 1, -1, n) s) : wpAny (model prog w) A (Builtin.Slice.sliceApplied (.ref sl) (pure (n : Int))) Q E s := by
  obtain ⟨os, hos, hcs, hds⟩ := id hs
  unfold Builtin.Slice.sliceApplied Builtin.Slice.sliceFields
  refine wpAny_bind (wpAny_bind (wpAny_field hos hds (x := vl) rfl (wpAny_bind (wpAny_field hos hds (x := vu) rfl (wpAny_bind (wpAny_field hos hds (x := vs) rfl (wpAny_pure ?_)))))))
  refine wpAny_bind (HT.slicePart_ ps ?_)
  show wpAny _ _ (if ((-1 : Int) == 0) = true then _ else _) _ _ s
  rw [if_neg (by decide)]
  refine wpAny_bind (HT.slicePart_ pl (wpAny_bind (HT.slicePart_ pu (wpAny_bind (wpAny_pure ?_)))))
  show wpAny _ _ (match Builtin.Slice.sliceAdjust none none (-1) (n : Int) with | (lo, hi) => pure (lo, (-1 : Int), Builtin.Slice.slicePlaces lo hi (-1))) _ _ s
  rw [adj_rev n]
  show wpAny _ _ (pure ((n : Int) - 1, (-1 : Int), Builtin.Slice.slicePlaces ((n : Int) - 1) (-1) (-1))) _ _ s
  rw [places_rev]
  exact wpAny_pure h
theorem pick_rev (xs : Array Value) : ((List.range xs.size).filterMap fun (m : Nat) => xs[(((xs.size : Int) - 1) + (m : Int) * (-1)).toNat]?).toArray = xs.toList.reverse.toArray := by
  have e : (List.range xs.size).filterMap (fun (m : Nat) => xs[(((xs.size : Int) - 1) + (m : Int) * (-1)).toNat]?) = ((List.range xs.size).map fun k => xs.size - 1 - k).filterMap (xs[·]?) := by
    rw [List.filterMap_map]
    have e3 : (fun (m : Nat) => xs[(((xs.size : Int) - 1) + (m : Int) * (-1)).toNat]?) = fun (m : Nat) => xs[xs.size - 1 - m]? := by
      funext m
      have e2 : (((xs.size : Int) - 1) + (m : Int) * (-1)).toNat = xs.size - 1 - m := by omega
      rw [e2]
    rw [e3]
    rfl
  rw [e, PySem.W.krv_range, List.filterMap_reverse, PySem.W.krv_all]
theorem tup_rev {t sl : Addr} {items : Array Value} {vl vu vs : Value} {Q : Value → Shared → Prop} (ht : IsTup s.heap t items) (hs : s.heap.IsSliceOf sl vl vu vs) (pl : IsPart vl none) (pu : IsPart vu none) (ps : IsPart vs (some (-1)))
    (h : Q (.ref s.heap.objs.size) { s with heap := s.heap.push { cls := .type "tuple", data := .seq items.toList.reverse.toArray } })
    (hsz : items.size ≤ sizeLine) : wpAny (model prog w) A (getItem (.ref t) (.ref sl)) Q E s := by
  have htake : sizeOk (.seq items.toList.reverse.toArray) := by
    show items.toList.reverse.toArray.size ≤ sizeLine
    rw [List.size_toArray, List.length_reverse, Array.length_toList]
    exact hsz
  obtain ⟨os, hos, hcs, hds⟩ := id hs
  have hTs : s.TypeIs (.ref sl) "slice" := ⟨os, hos, hcs⟩
  unfold getItem
  try with_reducible refine wpAny_holding ?_
  first | refine wpAny_bind (wpAny_pure ?_) | skip
  refine wpAny_bind (wpAny_sequenceKey ht.typeIs (by decide) ?_)
  refine wpAny_bind (wpAny_callSpecial?_slot (name := Str.ofString "__getitem__") ht.typeIs PyProof.Rows.slot_tuple_getitem
    (wpAny_call_entry PyProof.Rows.slot_tuple_getitem ht.typeIs entry_tuple_getitem ?_ (args_tuple_getitem _ _)))
  show wpAny _ _ (Builtin.Tuple.tupleItemsOf (.ref t) >>= _) _ _ s
  refine wpAny_bind (tupleItemsOf_ ht ?_)
  refine wpAny_bind (wpAny_typeOf hTs ?_)
  rw [if_pos (by decide)]
  refine wpAny_bind (applied_rev hs pl pu ps ?_)
  show wpAny _ _ (if ((((items.size : Int) - 1) : Int) == 0 && (-1 : Int) == 1 && items.size == items.size) = true then _ else _) _ _ s
  rw [if_neg (by rw [show ((-1 : Int) == 1) = false from rfl, Bool.and_false, Bool.false_and]; exact Bool.false_ne_true), pick_rev]
  first
    | exact wpAny_bind (m := Builtin.Tuple.tupleExact _) (wpAny_newObj_type (wpAny_pure ⟨_, rfl, wpAny_pure h⟩) htake)
    | exact wpAny_bind (m := Builtin.Tuple.tupleExact _) (wpAny_newObj_type (wpAny_bind (wpAny_pure (wpAny_pure ⟨_, rfl, wpAny_pure h⟩))) htake)
    | exact wpAny_bind (wpAny_bind (m := Builtin.Tuple.tupleExact _) (wpAny_newObj_type (wpAny_pure (wpAny_pure ⟨_, rfl, wpAny_pure h⟩)) htake))
    | exact wpAny_bind (wpAny_bind (m := Builtin.Tuple.tupleExact _) (wpAny_newObj_type (wpAny_pure ⟨_, rfl, wpAny_pure h⟩) htake))
end
def tRevT (K : PySem.W.Frag) (te : TE) : TE := fun σ H Q => te σ H fun x H1 => ∃ a xs, x = .ref a ∧ SqT K H1 a xs ∧ ∀ p, H1 p = none → Q (.ref p) (upd H1 p (.tup xs.reverse))
theorem pe_revT {X : Cx} {e : Expr} {te : TE} {k : Nat} {p1 p2 p3 pos : Pos} (he : PE X e te) : PE X (.Subscript e (.Slice none none (some (.UnaryOp .USub (.Constant (.int 1) k p1) p2)) p3) pos) (tRevT X.K te) := by
  refine ⟨fun pins s σ H Q I h => ?_⟩
  refine Subscript_ (thn (he.run pins s σ H _ I h) fun v s1 ⟨x, H1, I1, r1, q1⟩ => ?_)
  obtain ⟨a, xs, ex, hx, q⟩ := q1
  subst ex
  cases r1
  have hst : PO X (some (.UnaryOp .USub (.Constant (.int 1) k p1) p2)) (tPart (tUn (rU fun i => .int (-i)) (tC (.int 1)))) := po_some (pe_un un_neg pe_int)
  refine wpAny_Slice (thn (po_none.run pins s1 σ H1 (fun o H2 => o = none ∧ H2 = H1) I1 ⟨rfl, rfl⟩) fun vl s2 ⟨l, H2, I2, pl, el, e2⟩ => ?_)
  subst el e2
  refine thn (po_none.run pins s2 σ H2 (fun o H3 => o = none ∧ H3 = H2) I2 ⟨rfl, rfl⟩) fun vu s3 ⟨u, H3, I3, pu, eu, e3⟩ => ?_
  subst eu e3
  refine thn (hst.run pins s3 σ H3 (fun o H4 => o = some (-1) ∧ H4 = H3) I3 ⟨1, rfl, -1, rfl, rfl, rfl⟩) fun vs s4 ⟨o, H4, I4, ps, eo, e4⟩ => ?_
  subst eo e4
  have I5 : Inv X pins σ H4 { s4 with heap := s4.heap.push { cls := .type "slice", data := .fields #[vl, vu, vs] } } := I4.kept (t' := s4.toks) fun b ob q => Heap.get?_push_of_some _ q
  obtain ⟨its, r, ht, hz⟩ := I5.tuple hx
  have hlen := r.length
  show wpAny (model X.prog X.w) X.A (subscriptTail e (.Slice none none (some (.UnaryOp .USub (.Constant (.int 1) k p1) p2)) p3) (.ref a) (.ref s4.heap.objs.size)) (EP X pins σ Q) X.xe { s4 with heap := s4.heap.push { cls := .type "slice", data := .fields #[vl, vu, vs] } }
  refine tail_any (ops := [.ref a, .ref s4.heap.objs.size]) ht.typeIs (PyProof.Rows.slot_tuple_getitem.lookup) ?_ (by with_unfolding_all rfl)
  refine tup_rev ht (Heap.IsSliceOf.new _ vl vu vs) pl pu ps ?_ (by rw [List.size_toArray]; omega)
  refine ⟨.ref _, _, I5.laid (t' := s4.toks) (o := .tup xs.reverse) (fun b ob q => Heap.get?_push_of_some _ q) (Nat.le_refl _) ?_, rfl, q _ (I5.hok.fresh (Nat.le_refl _))⟩
  exact ⟨by rw [List.length_reverse]; exact hz, _, r.reverse, IsTup.new _ _⟩
end DLd

set_option Elab.async false
set_option linter.all false
set_option maxRecDepth 100000
namespace DL
open PySem PySem.Spec PyProof.Rows L2
section
variable {K : PySem.W.Frag} {env : DEnv} {te ta tb : TE} {Q : D → DEnv → Prop} {ds es : List D} {t : D}
/-! ### list(zip(..)) -/
theorem OwnL.uncons {B H : Hp} {ds : List D} {v : V} {vs : List V} {f : List Addr} (h : OwnL K B H ds (v :: vs) f) (e : f = []) : ∃ d ds', ds = d :: ds' ∧ Own K B H d v [] ∧ OwnL K B H ds' vs [] := by
  cases h with
  | cons o l =>
    obtain ⟨rfl, rfl⟩ := List.append_eq_nil_iff.mp e
    exact ⟨_, _, rfl, o, l⟩
theorem zip_state {L : List (D × V)} : ∀ (ts : List Addr) {ds es : List D} {vs ws : List V} {B H : Hp}, Sta K B H L → (∀ t ∈ ts, H t = none) → ts.Nodup → ts.length = (vs.zip ws).length → OwnL K B H ds vs [] → OwnL K B H es ws [] →
    ∃ B', Same B B' ∧ Sta K B' (Lzp.putP H ts (vs.zip ws)) L ∧ OwnL K B' (Lzp.putP H ts (vs.zip ws)) (List.zipWith (fun x y => D.tup [x, y]) ds es) (ts.map V.ref) []
  | [], ds, es, vs, ws, B, H, s, _, _, hl, l1, l2 => by
    have hz : (vs.zip ws) = [] := List.length_eq_zero_iff.mp hl.symm
    have e0 : List.zipWith (fun x y => D.tup [x, y]) ds es = [] := by
      rw [← List.length_eq_zero_iff, List.length_zipWith, l1.len, l2.len, ← List.length_zip, ← hl]
      rfl
    rw [e0, hz]
    exact ⟨B, .refl _, s, .nil⟩
  | t :: ts, ds, es, [], ws, B, H, s, hn, nd, hl, l1, l2 => by cases hl
  | t :: ts, ds, es, v :: vs, [], B, H, s, hn, nd, hl, l1, l2 => by cases hl
  | t :: ts, _, _, v :: vs, w :: ws, B, H, s, hn, nd, hl, l1, l2 => by
    have nd' := List.nodup_cons.mp nd
    have ht := hn t List.mem_cons_self
    have hb := s.bnone ht
    obtain ⟨d, ds, rfl, o1, l1⟩ := l1.uncons rfl
    obtain ⟨e, es, rfl, o2, l2⟩ := l2.uncons rfl
    have sb1 : Same B (upd B t (.tup [v, w])) := same_updN hb
    have s1 := (s.addL (ds := [d, e]) (vs := [v, w]) (.cons (f := []) (g := []) o1 (.cons (f := []) (g := []) o2 .nil))).newT rfl ht
    obtain ⟨B', sb2, s2, l3⟩ := zip_state ts (vs := vs) (ws := ws) (ds := ds) (es := es) s1.2.drop (fun t' m => by
      rw [upd_ne (fun z => nd'.1 (by rw [← z]; exact m))]
      exact hn t' (List.mem_cons_of_mem _ m)) nd'.2 (Nat.succ.inj hl) (l1.mono sb1 fun _ m => nomatch m) (l2.mono sb1 fun _ m => nomatch m)
    refine ⟨B', sb1.trans sb2, s2, ?_⟩
    show OwnL K B' _ (D.tup [d, e] :: List.zipWith (fun x y => D.tup [x, y]) ds es) (V.ref t :: ts.map V.ref) []
    have e1 : Same B B' := sb1.trans sb2
    exact .cons (f := []) (g := []) (.tup (sb2 _ _ upd_same) (.cons (f := []) (g := []) (o1.mono e1 fun _ m => nomatch m) (.cons (f := []) (g := []) (o2.mono e1 fun _ m => nomatch m) .nil))) l3
theorem putP_upd {p : Addr} {ob : HO} : ∀ (ts : List Addr) (ps : List (V × V)) (H : Hp), p ∉ ts → Lzp.putP (upd H p ob) ts ps = upd (Lzp.putP H ts ps) p ob
  | [], _, H, _ => rfl
  | _ :: _, [], H, _ => rfl
  | t :: ts, q :: ps, H, h => by
    have h1 : p ≠ t := fun z => h (by rw [z]; exact List.mem_cons_self)
    show Lzp.putP (upd (upd H p ob) t (.tup [q.1, q.2])) ts ps = upd (Lzp.putP (upd H t (.tup [q.1, q.2])) ts ps) p ob
    rw [← putP_upd ts ps _ fun m => h (List.mem_cons_of_mem _ m)]
    congr 1
    funext b
    by_cases h2 : b = t
    · subst h2
      rw [upd_same, upd_ne (Ne.symm h1), upd_same]
    · rw [upd_ne h2]
      by_cases h3 : b = p
      · subst h3
        rw [upd_same, upd_same]
      · rw [upd_ne h3, upd_ne h3, upd_ne h2]
/-- list(zip(xs, ys)) of lists at rest -/
theorem xe_listZip {t u : D} (h : Pk K ta env t) (ht : t.isL = some ds) (hp : pureL ds = true) (h2 : Pk K tb env u) (hu : u.isL = some es) (hp2 : pureL es = true) (q : Q (.mls (List.zipWith (fun x y => D.tup [x, y]) ds es)) env) :
    XE K (Lzp.tLstZip K (tCons ta (tCons tb tNil))) env Q := fun B H σ L I Q' k => by
  obtain ⟨a, vs, hq, l, r⟩ := h.list I ht hp
  obtain ⟨b, ws, hq2, l2, r2⟩ := h2.list I hu hp2
  refine r _ (r2 _ ⟨a, b, vs, ws, rfl, hq, hq2, fun p ts hpn htn hps nd hl => ?_⟩)
  obtain ⟨B', sb, s, l3⟩ := zip_state ts I.sta htn nd hl l l2
  rw [putP_upd ts _ _ hps]
  have hpn' : Lzp.putP H ts (vs.zip ws) p = none := by rw [Lzp.putP_off ts _ _ hps]; exact hpn
  exact In.newL (L := L) (Q := fun d e => Q d e) ⟨I.mat, s⟩ l3 hpn' q fun d e2 v B2 H2 q2 sb2 => k d e2 v B2 H2 q2 (sb.trans sb2)
/-! ### t[::-1] -/
theorem xe_revT (h : Pk K te env (.tup ds)) (hp : pureL ds = true) (q : Q (.tup ds.reverse) env) : XE K (DLd.tRevT K te) env Q := fun B H σ L I Q' k => by
  obtain ⟨a, vs, hq, l, r⟩ := h.tupl I (ds := ds) rfl hp
  exact r _ ⟨a, vs, rfl, hq, fun p hp => I.newT l.reverse hp q k⟩
/-! ### xs[i].append(x), xs[i] one of the lists that a slot's list holds -/
theorem set_perm {α : Type} : ∀ (xs : List α) (n : Nat) (x y : α), xs[n]? = some x → (xs.set n y).Perm (y :: xs.eraseIdx n)
  | [], _, _, _, h => by simp at h
  | z :: xs, 0, x, y, h => .refl _
  | z :: xs, n + 1, x, y, h => by
    have ih := set_perm xs n x y (by simpa using h)
    exact (List.Perm.cons z ih).trans (.swap _ _ _)
theorem zip_set : ∀ {ds : List D} {vs : List V} (k : Nat) (d : D) (v : V), vs[k]? = some v → (ds.set k d).zip vs = (ds.zip vs).set k (d, v)
  | [], _, _, _, _, _ => by simp
  | _ :: _, [], _, _, _, h => by simp at h
  | x :: ds, y :: vs, 0, d, v, h => by
    simp at h
    subst h
    rfl
  | x :: ds, y :: vs, k + 1, d, v, h => by
    show (x, y) :: (ds.set k d).zip vs = (x, y) :: (ds.zip vs).set k (d, v)
    rw [zip_set k d v (by simpa using h)]
theorem xe_appendIx {i : Nat} {ti : TE} {j : Int} {n : Nat} {x : D} (hi : env[i]? = some (some (.mls ds))) (hj : Pk K ti env (.int j)) (hn : ixN ds.length j = some n) (hd : ds[n]? = some (.mls es)) (hx : Pk K te env x) (px : x.pure = true) (hz : es.length < sizeLine)
    (q : Q .non (env.set i (some (.mls (ds.set n (.mls (es ++ [x]))))))) : XE K (tBM K "list" rAppend (tOp (rIxL K) (tVar i) ti) (tCons te tNil)) env Q := fun B H σ L I Q' k => by
  obtain ⟨jv, fj, oj, rj⟩ := hj B H σ L I
  cases oj.int_inv
  obtain ⟨xv, fx, ox, rx⟩ := hx B H σ L I
  obtain rfl := ox.nofp px
  have I2 : In K B H env σ ((x, xv) :: L) := ⟨I.mat, (I.sta.add ox).perm List.perm_middle.symm⟩
  obtain ⟨a, vs, e, hl, ha, s2⟩ := In.openL I2.mat I2.sta hi
  have hnl : n < vs.length := by rw [← hl]; exact (List.getElem?_eq_some_iff.mp hd).1
  have hv : vs[n]? = some vs[n] := List.getElem?_eq_getElem hnl
  have pz := perm_erase _ n _ (zip_get hd hv)
  have s3 : Sta K B H ((.mls es, vs[n]) :: ((.raw (.lst vs), .ref a) :: ((ds.zip vs).eraseIdx n ++ (slots (env.set i none) σ ++ ((x, xv) :: L))))) := s2.perm (by
    refine (List.Perm.cons _ (pz.append_right _)).trans ?_
    exact .swap _ _ _)
  obtain ⟨b, ws, eb, hlb, hb, s4⟩ := s3.openL
  refine ⟨_, e, rj _ ⟨a, vs, j, vs[n], rfl, rfl, .inl (.inl ha), ?_, ?_⟩⟩
  · unfold atI
    rw [← hl, hn]
    exact hv
  · rw [eb]
    refine ⟨.inl ⟨rfl, _, .inl (.inl hb)⟩, rx _ ⟨b, ws, xv, rfl, rfl, hb, by rw [← hlb]; exact hz, ?_⟩⟩
    have hl3 : (es ++ [x]).length = (ws ++ [xv]).length := by rw [List.length_append, List.length_append, hlb]; rfl
    have s5 := s4.put (.lst (ws ++ [xv]))
    have s6 : Sta K B (upd H b (.lst (ws ++ [xv]))) ((.raw (.lst (ws ++ [xv])), .ref b) :: ((es ++ [x]).zip (ws ++ [xv]) ++ ((.raw (.lst vs), .ref a) :: ((ds.zip vs).eraseIdx n ++ (slots (env.set i none) σ ++ L))))) := s5.perm (by
      rw [zip_app hlb]
      refine List.Perm.cons _ ?_
      rw [List.append_assoc]
      refine List.Perm.append_left _ ?_
      show ((D.raw (.lst vs), V.ref a) :: ((ds.zip vs).eraseIdx n ++ (slots (env.set i none) σ ++ ((x, xv) :: L)))).Perm ((x, xv) :: ((D.raw (.lst vs), V.ref a) :: ((ds.zip vs).eraseIdx n ++ (slots (env.set i none) σ ++ L))))
      refine (List.Perm.cons _ ?_).trans (.swap _ _ _)
      rw [← List.append_assoc, ← List.append_assoc]
      exact List.perm_middle)
    have s7 := s6.closeL hl3
    rw [← eb] at s7
    have s8 : Sta K B (upd H b (.lst (ws ++ [xv]))) ((.raw (.lst vs), .ref a) :: ((ds.set n (.mls (es ++ [x]))).zip vs ++ (slots (env.set i none) σ ++ L))) := s7.perm (by
      rw [zip_set n _ _ hv]
      refine (List.Perm.swap _ _ _).trans (List.Perm.cons _ ?_)
      exact ((set_perm _ n _ _ (zip_get hd hv)).append_right _).symm)
    obtain ⟨p, m2⟩ := mat_put (d := .mls (ds.set n (.mls (es ++ [x])))) I.mat e
    have s9 := s8.closeL (by rw [List.length_set, hl])
    exact k _ _ _ B _ q (.refl _) m2 ((Sta.front (L := (.mls (ds.set n (.mls (es ++ [x]))), .ref a) :: slots (env.set i none) σ) s9 p.symm).add .non)
end
end DL

set_option Elab.async false
set_option linter.all false
set_option maxRecDepth 100000
set_option autoImplicit false
namespace DL
open PySem PySem.Spec PyProof.Rows L2
/-! ### dicts with tuples of ints as keys -/
abbrev kP (p : Int × Int) : List Key := [Sum.inl p.1, Sum.inl p.2]
theorem kP_inj {p q : Int × Int} (h : kP p = kP q) : p = q := by
  injection h with h1 h2
  injection h2 with h2 _
  injection h1 with h1
  injection h2 with h2
  exact Prod.ext h1 h2
def look : List (List Key) → List D → List Key → Option D
  | k :: ks, d :: ds, x => if k = x then some d else look ks ds x
  | _, _, _ => none
section
variable {K : PySem.W.Frag} {B H : Hp}
theorem look_val : ∀ {ks : List (List Key)} {ds : List D} {vs : List V} {f : List Addr} {x : List Key}, OwnL K B H ds vs f → ks.length = ds.length →
    (look ks ds x = none → valV (ks.zip vs) x = none) ∧ ∀ d, look ks ds x = some d → ∃ v g, valV (ks.zip vs) x = some v ∧ Own K B H d v g
  | [], [], _, _, _, .nil, _ => ⟨fun _ => rfl, fun _ h => nomatch h⟩
  | k :: ks, d :: ds, _, _, x, .cons (v := v) (vs := vs) o l, e => by
    obtain ⟨h1, h2⟩ := look_val (x := x) l (Nat.succ.inj e)
    have ez : (k :: ks).zip (v :: vs) = (k, v) :: ks.zip vs := rfl
    by_cases hk : k = x
    · refine ⟨fun h => ?_, fun d' h => ?_⟩
      · rw [look, if_pos hk] at h
        cases h
      · rw [look, if_pos hk] at h
        cases h
        rw [ez]
        exact ⟨v, _, valV_pos hk, o⟩
    · have ev : valV ((k, v) :: ks.zip vs) x = valV (ks.zip vs) x := by
        unfold valV
        rw [List.find?_cons]
        simp [hk]
      refine ⟨fun h => ?_, fun d' h => ?_⟩
      · rw [look, if_neg hk] at h
        rw [ez, ev]
        exact h1 h
      · rw [look, if_neg hk] at h
        rw [ez, ev]
        exact h2 d' h
  | _ :: _, [], _, _, _, .nil, e => nomatch e
  | [], _ :: _, _, _, _, .cons _ _, e => nomatch e
theorem look_none : ∀ {ks : List (List Key)} {ds : List D} {x : List Key}, ks.length = ds.length → (look ks ds x = none ↔ x ∉ ks)
  | [], [], x, _ => by simp [look]
  | k :: ks, d :: ds, x, e => by
    have ih := look_none (x := x) (Nat.succ.inj e)
    by_cases hk : k = x
    · subst hk; simp [look]
    · rw [look, if_neg hk, ih, List.mem_cons]
      have : ¬ x = k := fun z => hk z.symm
      simp [this]
  | [], _ :: _, _, e => nomatch e
  | _ :: _, [], _, e => nomatch e
theorem putK_new {ks : List (List Key)} {vs : List V} {x : List Key} {v : V} (h : x ∉ ks) (hl : ks.length = vs.length) : putK (ks.zip vs) x v = (ks ++ [x]).zip (vs ++ [v]) := by
  have e : ((ks.zip vs).any fun kv => decide (kv.1 = x)) = false := by
    rw [List.any_eq_false]
    intro kv m hk
    have h1 : kv.1 = x := of_decide_eq_true hk
    exact h (h1 ▸ (List.of_mem_zip (show (kv.1, kv.2) ∈ ks.zip vs from m)).1)
  unfold putK
  rw [e, List.zip_append hl]
  rfl
variable {L : List (D × V)} {ks : List (List Key)} {ds : List D} {vs : List V} {v : V} {a p : Addr} {o : HO}
theorem Sta.newRaw (h : Sta K B H L) (hp : H p = none) (o : HO) : Sta K B (upd H p o) ((.raw o, .ref p) :: L) := by
  have s1 := (show Sta K B H (([] : List D).zip ([] : List V) ++ L) from h).newL rfl hp
  obtain ⟨a, vs, e, hl, ha, s2⟩ := s1.openL
  cases e
  have hv : vs = [] := List.length_eq_zero_iff.mp hl.symm
  subst hv
  have s3 := s2.put o
  have e2 : upd (upd H p (.lst [])) p o = upd H p o := by
    funext b
    by_cases hb : b = p
    · subst hb; rw [upd_same, upd_same]
    · rw [upd_ne hb, upd_ne hb, upd_ne hb]
  rw [e2] at s3
  exact s3
theorem Sta.openD (h : Sta K B H ((.dct ks ds, v) :: L)) : ∃ a vs, v = .ref a ∧ ds.length = vs.length ∧ ks.length = ds.length ∧ H a = some (.dT (ks.zip vs)) ∧ Sta K B H ((.raw (.dT (ks.zip vs)), .ref a) :: (ds.zip vs ++ L)) := by
  obtain ⟨s, fp, l, n, b⟩ := h
  rw [List.map_cons, List.map_cons] at l
  cases l with
  | cons o l =>
    cases o with
    | dct ha hk li =>
      rename_i g a vs f
      refine ⟨a, vs, rfl, li.len, hk, ha, s, [a] ++ (f ++ g), ?_, by simpa using n, by simpa using b⟩
      rw [List.map_cons, List.map_cons, List.map_append, List.map_append, zip_fst li.len, zip_snd li.len]
      exact .cons (.raw ha) (li.app l)
theorem Sta.closeD (h : Sta K B H ((.raw (.dT (ks.zip vs)), .ref a) :: (ds.zip vs ++ L))) (hl : ds.length = vs.length) (hk : ks.length = ds.length) : Sta K B H ((.dct ks ds, .ref a) :: L) := by
  obtain ⟨s, fp, l, n, b⟩ := h
  rw [List.map_cons, List.map_cons, List.map_append, List.map_append, zip_fst hl, zip_snd hl] at l
  cases l with
  | cons o l =>
    cases o with
    | raw ha =>
      obtain ⟨f, g, rfl, l1, l2⟩ := l.split hl
      refine ⟨s, (a :: f) ++ g, ?_, by simpa using n, by simpa using b⟩
      rw [List.map_cons, List.map_cons]
      exact .cons (.dct ha hk l1) l2
end
section
variable {K : PySem.W.Frag} {env : DEnv} {te ta tb tk tv ty td : TE} {Q : D → DEnv → Prop} {ds es : List D} {t d : D} {ks : List (List Key)} {p : Int × Int}
theorem key_at {B H : Hp} {v : V} {f : List Addr} (o : Own K B H (pD p) v f) (hs : Same B H) : ∃ b, v = .ref b ∧ H b = some (.tup ((kP p).map kV)) := by
  obtain ⟨a, e, h⟩ := own_pD o
  exact ⟨a, e, hs _ _ h⟩
/-- {p: x} -/
theorem xe_disp1 (h1 : Pk K tk env (pD p)) (h2 : Pk K tv env d) (hd : d.pure = true) (q : Q (.dct [kP p] [d]) env) : XE K (DLd.tDisp1 tk tv) env Q := fun B H σ L I Q' k => by
  intro c hc
  have s1 := I.sta.newRaw hc (.dT [])
  have I1 : In K B (upd H c (.dT [])) env σ ((.raw (.dT []), .ref c) :: L) := ⟨I.mat, s1.perm List.perm_middle.symm⟩
  obtain ⟨v, f, o, r⟩ := h1 _ _ σ _ I1
  obtain ⟨u, g, o2, r2⟩ := h2 _ _ σ _ I1
  obtain rfl := o2.nofp hd
  obtain ⟨b, e, hb⟩ := key_at o s1.sub
  subst e
  refine r _ (r2 _ ⟨upd_same, b, kP p, u, rfl, hb, ?_⟩)
  have s2 := s1.put (.dT [(kP p, u)])
  have o3 : Own K B (upd (upd H c (.dT [])) c (.dT [(kP p, u)])) d u [] := o2.mono (.refl _) fun _ m => nomatch m
  have s3 : Sta K B (upd (upd H c (.dT [])) c (.dT [(kP p, u)])) ((.raw (.dT ([kP p].zip [u])), .ref c) :: ([d].zip [u] ++ (slots env σ ++ L))) := (s2.add o3).perm (.swap _ _ _)
  exact k _ env _ B _ q (.refl _) I.mat (s3.closeD rfl rfl)
/-- p in d -/
theorem pk_dIn {i : Nat} (h1 : Pk K ty env (pD p)) (h2 : env[i]? = some (some (.dct ks ds))) : Pk K (tDIn ty (tVar i)) env (.bl (look ks ds (kP p)).isSome) := fun B H σ L I => by
  obtain ⟨v, f, o, r⟩ := h1 B H σ L I
  obtain ⟨b, e, hb⟩ := key_at o I.sta.sub
  subst e
  obtain ⟨u, eu, pr, m⟩ := mat_get I.mat h2
  obtain ⟨g, o2⟩ := (I.sta.front pr).here
  cases o2 with
  | dct ha hk l =>
    rename_i a vs f2
    refine ⟨_, _, .bl _, fun Q q => r _ ⟨_, eu, a, valV (ks.zip vs) (kP p), rfl, DGet.t ha hb, ?_⟩⟩
    obtain ⟨l1, l2⟩ := look_val (x := kP p) l hk
    cases hl : look ks ds (kP p) with
    | none => rw [l1 hl]; rw [hl] at q; exact q
    | some d =>
      obtain ⟨w, g, hw, _⟩ := l2 d hl
      rw [hw]; rw [hl] at q; exact q
theorem pk_dNotIn {i : Nat} (h1 : Pk K ty env (pD p)) (h2 : env[i]? = some (some (.dct ks ds))) : Pk K (tDNotIn ty (tVar i)) env (.bl (!(look ks ds (kP p)).isSome)) := fun B H σ L I => by
  obtain ⟨v, f, o, r⟩ := h1 B H σ L I
  obtain ⟨b, e, hb⟩ := key_at o I.sta.sub
  subst e
  obtain ⟨u, eu, pr, m⟩ := mat_get I.mat h2
  obtain ⟨g, o2⟩ := (I.sta.front pr).here
  cases o2 with
  | dct ha hk l =>
    rename_i a vs f2
    refine ⟨_, _, .bl _, fun Q q => r _ ⟨_, eu, a, valV (ks.zip vs) (kP p), rfl, DGet.t ha hb, ?_⟩⟩
    obtain ⟨l1, l2⟩ := look_val (x := kP p) l hk
    cases hl : look ks ds (kP p) with
    | none => rw [l1 hl]; rw [hl] at q; exact q
    | some d =>
      obtain ⟨w, g, hw, _⟩ := l2 d hl
      rw [hw]; rw [hl] at q; exact q
/-- .. or None -/
theorem pk_dInM {i : Nat} (h1 : Pk K ty env (pD p)) (h2 : env[i]? = some (some (.dct ks ds))) : Pk K (DLd.tDInM ty (tVar i)) env (.bl (look ks ds (kP p)).isSome) := fun B H σ L I => by
  obtain ⟨v, f, o, r⟩ := h1 B H σ L I
  obtain ⟨b, e, hb⟩ := key_at o I.sta.sub
  subst e
  obtain ⟨u, eu, pr, m⟩ := mat_get I.mat h2
  obtain ⟨g, o2⟩ := (I.sta.front pr).here
  cases o2 with
  | dct ha hk l =>
    rename_i a vs f2
    refine ⟨_, _, .bl _, fun Q q => r _ ⟨_, eu, .inl ⟨a, valV (ks.zip vs) (kP p), rfl, DGet.t ha hb, ?_⟩⟩⟩
    obtain ⟨l1, l2⟩ := look_val (x := kP p) l hk
    cases hl : look ks ds (kP p) with
    | none => rw [l1 hl]; rw [hl] at q; exact q
    | some d =>
      obtain ⟨w, g, hw, _⟩ := l2 d hl
      rw [hw]; rw [hl] at q; exact q
theorem pk_dInN {i : Nat} (h1 : Pk K ty env .non) (h2 : env[i]? = some (some (.dct ks ds))) : Pk K (DLd.tDInM ty (tVar i)) env (.bl false) := fun B H σ L I => by
  obtain ⟨v, f, o, r⟩ := h1 B H σ L I
  cases o.non_inv
  obtain ⟨u, eu, pr, m⟩ := mat_get I.mat h2
  obtain ⟨g, o2⟩ := (I.sta.front pr).here
  cases o2 with
  | dct ha hk l => exact ⟨_, _, .bl _, fun Q q => r _ ⟨_, eu, .inr ⟨_, _, rfl, rfl, ha, q⟩⟩⟩
/-- d[p] -/
theorem pk_dGet {i : Nat} (h2 : env[i]? = some (some (.dct ks ds))) (h1 : Pk K ty env (pD p)) (hl : look ks ds (kP p) = some d) : Pk K (tDGet (tVar i) ty) env d := fun B H σ L I => by
  obtain ⟨v, f, o, r⟩ := h1 B H σ L I
  obtain ⟨b, e, hb⟩ := key_at o I.sta.sub
  subst e
  obtain ⟨u, eu, pr, m⟩ := mat_get I.mat h2
  obtain ⟨g, o2⟩ := (I.sta.front pr).here
  cases o2 with
  | dct ha hk l =>
    rename_i a vs f2
    obtain ⟨w, g, hw, ow⟩ := (look_val (x := kP p) l hk).2 d hl
    refine ⟨w, g, ow, fun Q q => ⟨_, eu, r _ ⟨a, w, rfl, ?_, q⟩⟩⟩
    rw [← hw]
    exact DGet.t ha hb
/-- d[p] = x, p not there before -/
theorem xs_setD {fx : List Nat} {E : EndD} {i : Nat} (h : XE K tv env fun x e1 => ∃ (p : Int × Int) (ks : List (List Key)) (ds : List D), e1[i]? = some (some (.dct ks ds)) ∧ Pk K ty e1 (pD p) ∧ kP p ∉ ks ∧ ks.length < sizeLine ∧ E.nx (e1.set i (some (.dct (ks ++ [kP p]) (ds ++ [x]))))) :
    XS K fx (tAsg tv (gSub (tVar i) ty rSetD)) env E := fun B H σ L I Dh kk =>
  h B H σ L I _ fun x e1 u B1 H1 ⟨p, ks, ds, he, hp, hn, hz, q⟩ sb m s => by
    obtain ⟨v, e, pr, m'⟩ := mat_get m he
    refine ⟨v, e, ?_⟩
    have I1 : In K B1 H1 e1 σ ((x, u) :: L) := ⟨m, s.perm List.perm_middle.symm⟩
    obtain ⟨w, f, o, r⟩ := hp B1 H1 σ _ I1
    obtain ⟨b, ew, hb⟩ := key_at o s.sub
    subst ew
    obtain ⟨a, vs, ea, hl, hk, ha, s2⟩ := (show Sta K B1 H1 ((.dct ks ds, v) :: (slots (e1.set i none) σ ++ ((x, u) :: L))) from I1.sta.front pr).openD
    subst ea
    have hz2 : (ks.zip vs).length < sizeLine := by
      rw [List.length_zip, ← hl, ← hk, Nat.min_self]
      exact hz
    refine r _ ⟨a, _, rfl, DPut.t ha hb hz2, ?_⟩
    rw [putK_new hn (by rw [hk, hl])]
    have s3 := s2.put (.dT ((ks ++ [kP p]).zip (vs ++ [u])))
    have s4 : Sta K B1 (upd H1 a (.dT ((ks ++ [kP p]).zip (vs ++ [u])))) ((.raw (.dT ((ks ++ [kP p]).zip (vs ++ [u]))), .ref a) :: ((ds ++ [x]).zip (vs ++ [u]) ++ (slots (e1.set i none) σ ++ L))) := s3.perm (by
      rw [zip_app hl]
      refine List.Perm.cons _ ?_
      rw [List.append_assoc]
      refine List.Perm.append_left _ ?_
      exact List.perm_middle)
    have s5 := s4.closeD (by rw [List.length_append, List.length_append, hl]; rfl) (by rw [List.length_append, List.length_append, hk]; rfl)
    obtain ⟨p2, m2⟩ := mat_put (d := .dct (ks ++ [kP p]) (ds ++ [x])) m e
    exact kk.nx _ σ B1 _ q sb (.refl _) ⟨m2, Sta.front (L := (.dct (ks ++ [kP p]) (ds ++ [x]), .ref a) :: slots (e1.set i none) σ) s5 p2.symm⟩
/-! ### for x, y in zip(t, u), tuples -/
theorem xs_forZT {fx : List Nat} {E : EndD} {g : TG} {tb : TS} {ta : TA} (h : XA K ta env fun as e => ∃ (ds es : List D) (J : Nat → DEnv → Prop), as = [.val (.tup ds), .val (.tup es)] ∧ pureL ds = true ∧ pureL es = true ∧ J 0 e ∧
      (∀ i x y e1, ds[i]? = some x → es[i]? = some y → J i e1 → GX K fx g (.tup [x, y]) e1 fun e2 => XS K fx tb e2 ⟨J (i + 1), E.rt, E.nx, J (i + 1)⟩) ∧ ∀ e1, J (min ds.length es.length) e1 → E.nx e1) : XS K fx (tFor (RZ.iZipA K ta) g tb) env E := fun B H σ L I Dh k =>
  h B H σ L I _ fun as e vs l B1 H0 ⟨ds, es, J, hd, hp, hp2, h0, hs, hn⟩ sb1 m0 av s1 => by
    subst hd
    cases av with
    | @val _ va _ _ _ av =>
    cases av with
    | @val _ vb _ _ _ av =>
    cases av
    have s2 : Sta K B1 H0 (slots e σ ++ L) := s1.drop.drop
    have s3 : Sta K B1 H0 ((D.tup es, vb) :: (slots e σ ++ L)) := s1.drop
    obtain ⟨f, o⟩ := s1.here
    obtain ⟨f', o'⟩ := s3.here
    cases o with
    | tup hq li =>
    cases o' with
    | tup hq' li' =>
      rename_i a xs b ys
      have hlen := li.len
      have hlen' := li'.len
      have hf := li.nofp hp
      subst hf
      have hf' := li'.nofp hp2
      subst hf'
      have hq : SqT K B1 a xs := .inl (.inl hq)
      have hq' : SqT K B1 b ys := .inl (.inl hq')
      refine ⟨a, b, xs, ys, rfl, .inr ⟨sqt_mono s1.sub hq, sqt_mono s1.sub hq', ?_⟩⟩
      refine ⟨fun i m σ' H' => m = min xs.length ys.length - i ∧ i ≤ min xs.length ys.length ∧ ∃ e1 B', J i e1 ∧ Same B1 B' ∧ Kp fx σ σ' ∧ In K B' H' e1 σ' L, ⟨_, rfl, Nat.zero_le _, e, B1, h0, .refl _, .refl _, m0, s2⟩, ?_⟩
      rintro i m σ' H' ⟨rfl, hi, e1, B', hJ, sb, kp, I'⟩
      have qx : SqT K H' a xs := sqt_mono (sb.trans I'.sta.sub) hq
      have qy : SqT K H' b ys := sqt_mono (sb.trans I'.sta.sub) hq'
      by_cases hlt : i < min xs.length ys.length
      · have hx : xs[i]? = some xs[i] := List.getElem?_eq_getElem (by omega)
        have hy : ys[i]? = some ys[i] := List.getElem?_eq_getElem (by omega)
        refine .inr ⟨⟨xs, ys, _, _, qx, qy, hx, hy⟩, fun σ2 H2 => ∃ e1 B', J (i + 1) e1 ∧ Same B1 B' ∧ Kp fx σ σ2 ∧ In K B' H2 e1 σ2 L, fun σ2 H2 p' => ⟨min xs.length ys.length - (i + 1), by omega, rfl, hlt, p'⟩, fun v H2 y => ?_⟩
        obtain ⟨T, x', y', rfl, hT, rfl, f1, f2⟩ := y
        have ex := f1 xs qx
        have ey := f2 ys qy
        obtain ⟨dx, g1, hdx, ox, _⟩ := li.getV ex
        obtain ⟨dy, g2, hdy, oy, _⟩ := li'.getV ey
        have px := pureL_get hp hdx
        have py := pureL_get hp2 hdy
        have ox' : Own K B' H' dx x' [] := by
          have z := ox.nofp px
          subst z
          exact ox.mono sb fun _ m => nomatch m
        have oy' : Own K B' H' dy y' [] := by
          have z := oy.nofp py
          subst z
          exact oy.mono sb fun _ m => nomatch m
        obtain ⟨sb3, s4⟩ := (I'.sta.addL (ds := [dx, dy]) (vs := [x', y']) (.cons (f := []) (g := []) ox' (.cons (f := []) (g := []) oy' .nil))).newT rfl hT
        refine hs i dx dy e1 hdx hdy hJ _ _ σ' L _ I'.mat s4 _ fun e2 σ2 B2 H2 q2 sb2 kp2 I2 => ?_
        refine q2 B2 H2 σ2 L I2 _ ⟨fun e3 σ3 B3 H3 q3 sb5 kp3 I3 => ⟨e3, B3, q3, ((sb.trans sb3).trans sb2).trans sb5, (kp.trans kp2).trans kp3, I3⟩, fun d3 e3 v3 σ3 B3 H3 q3 sb5 kp3 => k.rt d3 e3 v3 σ3 B3 H3 q3 ((sb1.trans ((sb.trans sb3).trans sb2)).trans sb5) ((kp.trans kp2).trans kp3),
          fun e3 σ3 B3 H3 q3 sb5 kp3 I3 => k.nx e3 σ3 B3 H3 q3 ((sb1.trans ((sb.trans sb3).trans sb2)).trans sb5) ((kp.trans kp2).trans kp3) I3, fun e3 σ3 B3 H3 q3 sb5 kp3 I3 => ⟨e3, B3, q3, ((sb.trans sb3).trans sb2).trans sb5, (kp.trans kp2).trans kp3, I3⟩⟩
      · have ei : i = min xs.length ys.length := by omega
        refine .inl ⟨⟨xs, ys, qx, qy, by omega⟩, ?_⟩
        rw [ei, ← hlen, ← hlen'] at hJ
        exact k.nx e1 σ' B' H' (hn e1 hJ) (sb1.trans sb) kp I'
end
end DL

set_option autoImplicit false
namespace DL
open PySem L2
/-! ### what stands at a place, and small facts -/
def gt {α : Type} [Inhabited α] (xs : List α) (i : Int) : α := (xs[i.toNat]?).getD default
theorem gt_get {α : Type} [Inhabited α] {xs : List α} {i : Int} (h0 : 0 ≤ i) (h1 : i < xs.length) : xs[i.toNat]? = some (gt xs i) := by
  unfold gt
  have h : i.toNat < xs.length := by omega
  rw [List.getElem?_eq_getElem h]
  rfl
theorem gt_mem {α : Type} [Inhabited α] {xs : List α} {i : Int} (h0 : 0 ≤ i) (h1 : i < xs.length) : gt xs i ∈ xs := List.mem_of_getElem? (gt_get h0 h1)
theorem ixN_pos {n : Nat} {i : Int} (h0 : 0 ≤ i) (h1 : i < n) : ixN n i = some i.toNat := by
  unfold ixN
  rw [if_pos h0, if_pos h1]
theorem atI_map {α : Type} [Inhabited α] {f : α → D} {xs : List α} {i : Int} (h0 : 0 ≤ i) (h1 : i < xs.length) : atI (xs.map f) i = some (f (gt xs i)) := by
  unfold atI
  rw [List.length_map, ixN_pos h0 h1]
  show (xs.map f)[i.toNat]? = _
  rw [List.getElem?_map, gt_get h0 h1]
  rfl
theorem atI_last {α : Type} [Inhabited α] {f : α → D} {xs : List α} (h1 : 0 < xs.length) : atI (xs.map f) (-1) = some (f (gt xs (xs.length - 1))) := by
  unfold atI
  have e : ixN (xs.map f).length (-1) = some (xs.length - 1) := by
    unfold ixN
    rw [if_neg (by decide), if_pos (by rw [List.length_map]; omega), List.length_map]
    congr 1
    omega
  rw [e]
  show (xs.map f)[xs.length - 1]? = _
  have e2 : ((xs.length : Int) - 1).toNat = xs.length - 1 := by omega
  have := gt_get (xs := xs) (i := (xs.length : Int) - 1) (by omega) (by omega)
  rw [e2] at this
  rw [List.getElem?_map, this]
  rfl
theorem gt_map {α β : Type} [Inhabited α] [Inhabited β] {f : α → β} {xs : List α} {i : Int} (h0 : 0 ≤ i) (h1 : i < xs.length) : gt (xs.map f) i = f (gt xs i) := by
  have h := gt_get (xs := xs.map f) h0 (by rw [List.length_map]; exact h1)
  rw [List.getElem?_map, gt_get h0 h1] at h
  exact (Option.some.inj h).symm
end DL
local macro_rules | `(tactic| got_up) => `(tactic| first
  | exact rfl
  | assumption
  | (with_reducible apply DL.cmul_r) <;> omega
  | (with_reducible apply DL.cmul_l) <;> omega
  | (with_reducible apply DL.cdiv_i) <;> omega
  | (with_reducible apply DL.cpow_i) <;> decide
  | (with_reducible apply DL.atI_map) <;> omega
  | (with_reducible apply DL.atI_last) <;> omega
  | omega
  | decide)
local macro_rules | `(tactic| none_booked) => `(tactic| first
  | with_reducible exact DL.pk_int
  | with_reducible exact DL.pk_bl
  | with_reducible exact DL.pk_str
  | with_reducible exact DL.pk_non
  | (with_reducible apply DL.pk_var); exact rfl
  | (with_reducible apply DL.pk_add); none_booked; none_booked
  | (with_reducible apply DL.pk_sub); none_booked; none_booked
  | (with_reducible apply DL.pk_lt); none_booked; none_booked
  | (with_reducible apply DL.pk_le); none_booked; none_booked
  | (with_reducible apply DL.pk_gt); none_booked; none_booked
  | (with_reducible apply DL.pk_ge); none_booked; none_booked
  | (with_reducible apply DL.pk_eqI); none_booked; none_booked
  | (with_reducible apply DL.pk_neI); none_booked; none_booked
  | (with_reducible apply DL.pk_neg); none_booked
  | (with_reducible apply DL.pk_mul); none_booked; none_booked; got_up
  | (with_reducible apply DL.pk_mod); none_booked; none_booked; got_up
  | (with_reducible apply DL.pk_div); none_booked; none_booked; got_up
  | (with_reducible apply DL.pk_pow); none_booked; none_booked; got_up
  | (with_reducible apply DL.pk_ixL); none_booked; none_booked; got_up; got_up
  | (with_reducible apply DL.pk_ixT); none_booked; none_booked; got_up; got_up
  | (with_reducible apply DL.pk_len); none_booked; got_up
  | (with_reducible apply DL.pk_int1); none_booked
  | (with_reducible apply DL.pk_abs); none_booked
  | (with_reducible apply DL.pk_isN); none_booked
  | (with_reducible apply DL.pk_notN); none_booked
  | (with_reducible apply DL.pk_inI); none_booked; none_booked; got_up
  | (with_reducible apply DL.pk_notInI); none_booked; none_booked; got_up
  | (with_reducible apply DL.pk_count); none_booked; got_up; none_booked
  | (with_reducible apply DL.pk_andV); none_booked; intro _; none_booked
  | (with_reducible apply DL.pk_orV); none_booked; intro _; none_booked
  | (with_reducible apply DL.pk_notV); none_booked
  | (with_reducible apply DL.pkt_test); none_booked
  | (with_reducible apply DL.pkt_B); none_booked
  | (with_reducible apply DL.pkt_not); none_booked
  | (with_reducible apply DL.pkt_and); none_booked; intro _; none_booked
  | (with_reducible apply DL.pkt_or); none_booked; intro _; none_booked
  | with_reducible exact DL.pkt_yes)

set_option autoImplicit false
set_option linter.all false
namespace DL
open PySem L2
structure Bag where
  cells : List Int
  pos : Int
  big : Int
  seed : Int
  count : Int
  fuel : Int
def Bag.dat (b : Bag) : D := .mls [.lst (b.cells.map D.int), .int b.pos, .int b.big, .int b.seed, .int b.count, .int b.fuel]
structure Bag.Ok (b : Bag) : Prop where
  cells : ∀ c ∈ b.cells, 0 ≤ c
  pos : 0 ≤ b.pos
  big : 0 ≤ b.big
  seed : 0 ≤ b.seed
  seed2 : b.seed < 1000000007
  count : 0 ≤ b.count
  fuel : 0 ≤ b.fuel
/-- a bag, whatever is in it -/
def IsBag (d : D) : Prop := ∃ b : Bag, b.Ok ∧ d = b.dat
def t_law_draw (K : PySem.W.Frag) : TS :=
 (tSeq (tIfS (tAnd (tTest (tOp rEq (tOp (rIxL K) (tVar 0) (tC (.int 2))) (tC (.int 0)))) (tAnd (tTest (tOp rEq (tOp (rIxL K) (tVar 0) (tC (.int 5))) (tC (.int 0)))) (tTest (tOp rLt2 (tOp (rIxL K) (tVar 0) (tC (.int 1))) (tCB (rLen2 K) (tCons (tOp (rIxL K) (tVar 0) (tC (.int 0))) tNil)))))) (tSeq (tAsg (tOp (rIxS2 K) (tOp (rIxL K) (tVar 0) (tC (.int 0))) (tOp (rIxL K) (tVar 0) (tC (.int 1)))) (gName 2))
 (tSeq (tAsg (tOp rAdd2 (tOp (rIxL K) (tVar 0) (tC (.int 1))) (tC (.int 1))) (gSub (tVar 0) (tC (.int 1)) rSetL))
 (tIfS (tTest (tOp rGe2 (tVar 2) (tOp rPow2 (tC (.int 10)) (tC (.int 18))))) (tAsg (tVar 2) (gSub (tVar 0) (tC (.int 2)) rSetL)) (tSeq (tAsg (tOp rMod2 (tCB rInt1 (tCons (tOp rAdd2 (tOp rMul2 (tOp (rIxL K) (tVar 0) (tC (.int 3))) (tC (.int 31))) (tVar 2)) tNil)) (tC (.int 1000000007))) (gSub (tVar 0) (tC (.int 3)) rSetL))
 (tAsg (tC (.int 5)) (gSub (tVar 0) (tC (.int 5)) rSetL)))))) tNext)
 (tSeq (tIfS (tTest (tOp rGt2 (tOp (rIxL K) (tVar 0) (tC (.int 2))) (tC (.int 0)))) (tSeq (tAsg (tOp rMod2 (tCB rInt1 (tCons (tOp (rIxL K) (tVar 0) (tC (.int 2))) tNil)) (tVar 1)) (gName 3))
 (tSeq (tAsg (tOp rDiv2 (tOp (rIxL K) (tVar 0) (tC (.int 2))) (tVar 1)) (gSub (tVar 0) (tC (.int 2)) rSetL))
 (tRet (tVar 3)))) tNext)
 (tSeq (tAsg (tOp rAdd2 (tOp (rIxL K) (tVar 0) (tC (.int 4))) (tC (.int 1))) (gSub (tVar 0) (tC (.int 4)) rSetL))
 (tSeq (tIfS (tTest (tOp rGt2 (tOp (rIxL K) (tVar 0) (tC (.int 5))) (tC (.int 0)))) (tAsg (tOp rSub2 (tOp (rIxL K) (tVar 0) (tC (.int 5))) (tC (.int 1))) (gSub (tVar 0) (tC (.int 5)) rSetL)) tNext)
 (tSeq (tAsg (tOp rMod2 (tCB rInt1 (tCons (tOp rAdd2 (tOp rAdd2 (tOp rMul2 (tOp (rIxL K) (tVar 0) (tC (.int 3))) (tC (.int 48271))) (tOp rMul2 (tOp (rIxL K) (tVar 0) (tC (.int 4))) (tC (.int 69621)))) (tC (.int 12345))) tNil)) (tC (.int 2147483647))) (gName 4))
 (tSeq (tAsg (tOp rMod2 (tCB rInt1 (tCons (tOp rAdd2 (tOp rAdd2 (tOp rMul2 (tVar 4) (tVar 4)) (tOp rMul2 (tOp (rIxL K) (tVar 0) (tC (.int 4))) (tC (.int 3571)))) (tC (.int 40692))) tNil)) (tC (.int 2147483399))) (gName 5))
 (tSeq (tAsg (tOp rMod2 (tCB rInt1 (tCons (tOp rAdd2 (tOp rMul2 (tVar 5) (tVar 5)) (tOp rDiv2 (tVar 5) (tC (.int 97)))) tNil)) (tC (.int 2147483629))) (gName 6))
 (tRet (tOp rMod2 (tCB rInt1 (tCons (tOp rDiv2 (tVar 6) (tC (.int 3))) tNil)) (tVar 1))))))))))

def S_law_draw : Spec := fun ads Q => ∃ (bg : D) (m : Int), ads = [bg, .int m] ∧ IsBag bg ∧ 0 < m ∧ m < 1073741824 ∧ ∀ (r : Int) (bg' : D), IsBag bg' → 0 ≤ r → r < m → Q (.int r) [some bg', some (.int m)]

theorem xs_law_draw {K : PySem.W.Frag} (ads : List D) (Q : D → List (Option D) → Prop) (h : S_law_draw ads Q) :
    XS K [0, 1] (t_law_draw K) (ads.map some ++ List.replicate 5 none) { nx := fun e => Q .non (back [0, 1] 2 e), rt := fun d e => Q d (back [0, 1] 2 e) } := by
  obtain ⟨_, m, rfl, ⟨b, hb, rfl⟩, hm, hm2, q⟩ := h
  replace q : ∀ (r : Int) (b' : Bag), b'.Ok → 0 ≤ r → r < m → Q (.int r) [some b'.dat, some (.int m)] := fun r b' hb h0 h1 => q r _ ⟨b', hb, rfl⟩ h0 h1
  show XS K [0, 1] (t_law_draw K) [some b.dat, some (.int m), none, none, none, none, none] _
  refine xs_cut (fun e => ∃ b' x, Bag.Ok b' ∧ e = [some b'.dat, some (.int m), x, none, none, none, none]) ?_ ?_
  · refine xs_ifp (by none_booked) (fun hc => ?_) (fun hc => xs_next ⟨b, none, hb, rfl⟩)
    simp only [Bool.and_eq_true, decide_eq_true_eq, List.length_map] at hc
    obtain ⟨c1, c2, c3⟩ := hc
    have hpos := hb.pos
    have hc0 : 0 ≤ gt b.cells b.pos := hb.cells _ (gt_mem hpos c3)
    refine xs_seq (xs_set (xe_pk (pk_ixS (by none_booked) (by none_booked) rfl (atI_map hpos c3)) rfl ?_))
    refine xs_seq (xs_setL (xe_pk (by none_booked) rfl ⟨⟨_, rfl⟩, xe_pk (by none_booked) rfl ⟨_, _, _, rfl, rfl, rfl, ?_⟩⟩))
    generalize gt b.cells b.pos = c at hc0
    refine xs_ifp (by none_booked) (fun hc => ?_) (fun hc => ?_)
    · refine xs_setL (xe_pk (by none_booked) rfl ⟨⟨_, rfl⟩, xe_pk (by none_booked) rfl ⟨_, _, _, rfl, rfl, rfl, ?_⟩⟩)
      exact ⟨⟨b.cells, b.pos + 1, c, b.seed, b.count, b.fuel⟩, _, ⟨hb.cells, Int.add_nonneg hpos (by decide), hc0, hb.seed, hb.seed2, hb.count, hb.fuel⟩, rfl⟩
    · have h1 := hb.seed
      have h2 := hb.seed2
      refine xs_seq (xs_setL (xe_pk (by none_booked) rfl ⟨⟨_, rfl⟩, xe_pk (by none_booked) rfl ⟨_, _, _, rfl, rfl, rfl, ?_⟩⟩))
      refine xs_setL (xe_pk (by none_booked) rfl ⟨⟨_, rfl⟩, xe_pk (by none_booked) rfl ⟨_, _, _, rfl, rfl, rfl, ?_⟩⟩)
      exact ⟨⟨b.cells, b.pos + 1, b.big, (b.seed * 31 + c) % 1000000007, b.count, 5⟩, _, ⟨hb.cells, Int.add_nonneg hpos (by decide), hb.big, by dsimp only; omega, by dsimp only; omega, hb.count, (by decide : (0 : Int) ≤ 5)⟩, rfl⟩
  · rintro e ⟨b, x, hb, rfl⟩
    have hbig := hb.big
    refine xs_cut (fun e => ∃ x y, e = [some b.dat, some (.int m), x, y, none, none, none]) ?_ ?_
    · refine xs_ifp (by none_booked) (fun hc => ?_) (fun hc => xs_next ⟨_, _, rfl⟩)
      refine xs_seq (xs_set (xe_pk (by none_booked) rfl ?_))
      refine xs_seq (xs_setL (xe_pk (by none_booked) rfl ⟨⟨_, rfl⟩, xe_pk (by none_booked) rfl ⟨_, _, _, rfl, rfl, rfl, ?_⟩⟩))
      refine xs_ret (xe_pk (by none_booked) rfl ?_)
      exact q (b.big % m) ⟨b.cells, b.pos, b.big / m, b.seed, b.count, b.fuel⟩ ⟨hb.cells, hb.pos, Int.ediv_nonneg hbig (by omega), hb.seed, hb.seed2, hb.count, hb.fuel⟩ (Int.emod_nonneg _ (by omega)) (Int.emod_lt_of_pos _ hm)
    · rintro e ⟨x, y, rfl⟩
      refine xs_seq (xs_setL (xe_pk (by none_booked) rfl ⟨⟨_, rfl⟩, xe_pk (by none_booked) rfl ⟨_, _, _, rfl, rfl, rfl, ?_⟩⟩))
      refine xs_cut (fun e => ∃ f x y, 0 ≤ f ∧ e = [some (Bag.dat ⟨b.cells, b.pos, b.big, b.seed, b.count + 1, f⟩), some (.int m), x, y, none, none, none]) ?_ ?_
      · refine xs_ifp (by none_booked) (fun hc => ?_) (fun hc => xs_next ⟨b.fuel, _, _, hb.fuel, rfl⟩)
        simp only [decide_eq_true_eq] at hc
        refine xs_setL (xe_pk (by none_booked) rfl ⟨⟨_, rfl⟩, xe_pk (by none_booked) rfl ⟨_, _, _, rfl, rfl, rfl, ?_⟩⟩)
        exact ⟨b.fuel - 1, _, _, by omega, rfl⟩
      · rintro e ⟨f, x, y, hf, rfl⟩
        have h1 := hb.seed
        have h2 := hb.seed2
        have h3 := hb.count
        refine xs_seq (xs_set (xe_pk (by none_booked) rfl ?_))
        generalize hg : (b.seed * 48271 + (b.count + 1) * 69621 + 12345) % 2147483647 = first
        have hf1 : 0 ≤ first := by rw [← hg]; exact Int.emod_nonneg _ (by decide)
        have hf2 : first < 2147483647 := by rw [← hg]; exact Int.emod_lt_of_pos _ (by decide)
        refine xs_seq (xs_set (xe_pk (by none_booked) rfl ?_))
        generalize hg2 : (first * first + (b.count + 1) * 3571 + 40692) % 2147483399 = second
        have hs1 : 0 ≤ second := by rw [← hg2]; exact Int.emod_nonneg _ (by decide)
        have hs2 : second < 2147483399 := by rw [← hg2]; exact Int.emod_lt_of_pos _ (by decide)
        refine xs_seq (xs_set (xe_pk (by none_booked) rfl ?_))
        refine xs_ret (xe_pk (by none_booked) rfl ?_)
        exact q _ ⟨b.cells, b.pos, b.big, b.seed, b.count + 1, f⟩ ⟨hb.cells, hb.pos, hb.big, hb.seed, hb.seed2, by dsimp only; omega, hf⟩ (Int.emod_nonneg _ (by omega)) (Int.emod_lt_of_pos _ hm)

section
variable {K : PySem.W.Frag} {env : DEnv} {te : TE} {Q : D → DEnv → Prop} {i : Nat} {bg t : D} {m : Int} {ds : List D}
theorem set_back {e : DEnv} {i : Nat} {x y : Option D} : (e.set i x).set i y = e.set i y := List.set_set ..
theorem xe_draw (hi : env[i]? = some (some bg)) (hb : IsBag bg) (hm : Pk K te env (.int m)) (h0 : 0 < m) (h1 : m < 1073741824) (q : ∀ r bg', IsBag bg' → 0 ≤ r → r < m → Q (.int r) (env.set i (some bg'))) :
    XE K (tCall (spOf K S_law_draw) [] E0 (tCons (tVar i) (tCons te tNil))) env Q := by
  refine xe_call (xa_bor hi (xa_pk hm rfl (xa_nil ⟨[bg, .int m], env.set i none, ?_, bg, m, rfl, hb, h0, h1, fun r bg' hb' r0 r1 => ?_⟩)))
  · show (match env[i]? with
      | some (some d) => _
      | _ => _) = _
    rw [hi]
    rfl
  · show Q (.int r) ((env.set i none).set i (some bg'))
    rw [set_back]
    exact q r bg' hb' r0 r1
def S_law_pick : Spec := fun ads Q => ∃ (bg t : D) (ds : List D), ads = [bg, t] ∧ IsBag bg ∧ t.isL = some ds ∧ pureL ds = true ∧ 0 < ds.length ∧ ds.length < 1073741824 ∧ ∀ (d bg' : D), IsBag bg' → d ∈ ds → Q d [some bg', some t]
theorem xe_pick {d0 : D} (hi : env[i]? = some (some d0)) (h : XE K te env fun t e => ∃ bg ds, e[i]? = some (some bg) ∧ IsBag bg ∧ t.isL = some ds ∧ pureL ds = true ∧ 0 < ds.length ∧ ds.length < 1073741824 ∧ ∀ d bg', IsBag bg' → d ∈ ds → Q d (e.set i (some bg'))) :
    XE K (tCall (spOf K S_law_pick) [] E0 (tCons (tVar i) (tCons te tNil))) env Q := by
  refine xe_call (xa_bor hi (xa_val (h.imp fun t e ⟨bg, ds, he, hb, ht, hp, h0, h1, q⟩ => xa_nil ⟨[bg, t], e.set i none, ?_, bg, t, ds, rfl, hb, ht, hp, h0, h1, fun d bg' hb' hd => ?_⟩)))
  · show (match e[i]? with
      | some (some d) => _
      | _ => _) = _
    rw [he]
    rfl
  · show Q d ((e.set i none).set i (some bg'))
    rw [set_back]
    exact q d bg' hb' hd
def S_law_shuffle : Spec := fun ads Q => ∃ (bg t : D) (ds : List D), ads = [bg, t] ∧ IsBag bg ∧ t.isL = some ds ∧ pureL ds = true ∧ ds.length < 16777216 ∧ ∀ (es : List D) (bg' : D), IsBag bg' → es.Perm ds → Q (.mls es) [some bg', some t]
theorem xe_shuffle {d0 : D} (hi : env[i]? = some (some d0)) (h : XE K te env fun t e => ∃ bg ds, e[i]? = some (some bg) ∧ IsBag bg ∧ t.isL = some ds ∧ pureL ds = true ∧ ds.length < 16777216 ∧ ∀ es bg', IsBag bg' → es.Perm ds → Q (.mls es) (e.set i (some bg'))) :
    XE K (tCall (spOf K S_law_shuffle) [] E0 (tCons (tVar i) (tCons te tNil))) env Q := by
  refine xe_call (xa_bor hi (xa_val (h.imp fun t e ⟨bg, ds, he, hb, ht, hp, h1, q⟩ => xa_nil ⟨[bg, t], e.set i none, ?_, bg, t, ds, rfl, hb, ht, hp, h1, fun d bg' hb' hd => ?_⟩)))
  · show (match e[i]? with
      | some (some d) => _
      | _ => _) = _
    rw [he]
    rfl
  · show Q (.mls d) ((e.set i none).set i (some bg'))
    rw [set_back]
    exact q d bg' hb' hd
end
def t_law_pick (K : PySem.W.Frag) (S_law_draw : Spec) : TS :=
 (tRet (tOp (rIxL K) (tVar 1) (tCall (spOf K S_law_draw) [] E0 (tCons (tVar 0) (tCons (tCB (rLen2 K) (tCons (tVar 1) tNil)) tNil)))))
def t_law_shuffle (K : PySem.W.Frag) (S_law_draw : Spec) : TS :=
 (tSeq (tAsg (tCB (rListOf K) (tCons (tVar 1) tNil)) (gName 2))
 (tSeq (tAsg (tLst tNil) (gName 3))
 (tSeq (tFor (iRng1 (tCons (tCB (rLen2 K) (tCons (tVar 1) tNil)) tNil)) (gName 4) (tDrop (tBM K "list" rAppend (tVar 3) (tCons (tBM K "list" rPopAt (tVar 2) (tCons (tCall (spOf K S_law_draw) [] E0 (tCons (tVar 0) (tCons (tCB (rLen2 K) (tCons (tVar 2) tNil)) tNil))) tNil)) tNil))))
 (tRet (tVar 3)))))
theorem isS_of {t : D} {ds : List D} (h : t.isL = some ds) : t.isS = some ds := by
  cases t <;> first | exact h | cases h
theorem atI_some {ds : List D} {r : Int} (h0 : 0 ≤ r) (h1 : r < ds.length) : ∃ d, atI ds r = some d ∧ d ∈ ds := by
  have h : r.toNat < ds.length := by omega
  refine ⟨ds[r.toNat], ?_, List.getElem_mem h⟩
  unfold atI
  rw [ixN_pos h0 h1]
  exact List.getElem?_eq_getElem h
theorem xs_law_pick {K : PySem.W.Frag} (ads : List D) (Q : D → List (Option D) → Prop) (h : S_law_pick ads Q) :
    XS K [0, 1] (t_law_pick K S_law_draw) (ads.map some ++ List.replicate 0 none) { nx := fun e => Q .non (back [0, 1] 2 e), rt := fun d e => Q d (back [0, 1] 2 e) } := by
  obtain ⟨bg, t, ds, rfl, hb, ht, hp, h0, h1, q⟩ := h
  show XS K [0, 1] (t_law_pick K S_law_draw) [some bg, some t] _
  refine xs_ret (xe_ixLv (xe_draw rfl hb (pk_len (pk_var rfl) (isS_of ht)) (by omega) (by omega) fun r bg' hb' r0 r1 => ?_) ⟨_, rfl⟩)
  obtain ⟨d, hd, hm⟩ := atI_some r0 r1
  exact ⟨r, t, ds, d, rfl, rfl, ht, hd, pureL_mem hp d hm, q d bg' hb' hm⟩
theorem xs_law_shuffle {K : PySem.W.Frag} (ads : List D) (Q : D → List (Option D) → Prop) (h : S_law_shuffle ads Q) :
    XS K [0, 1] (t_law_shuffle K S_law_draw) (ads.map some ++ List.replicate 3 none) { nx := fun e => Q .non (back [0, 1] 2 e), rt := fun d e => Q d (back [0, 1] 2 e) } := by
  obtain ⟨bg, t, ds, rfl, hb, ht, hp, h1, q⟩ := h
  show XS K [0, 1] (t_law_shuffle K S_law_draw) [some bg, some t, none, none, none] _
  have hs : sizeLine = 16777216 := sizeLine_eq
  refine xs_seq (xs_set (xe_list (pk_var rfl) (isS_of ht) hp ?_))
  refine xs_seq (xs_set (xe_lst (xa_nil ⟨[], rfl, by decide, ?_⟩)))
  refine xs_cut (fun e => ∃ bg' es x, IsBag bg' ∧ es.Perm ds ∧ e = [some bg', some t, some (.mls []), some (.mls es), x]) ?_ ?_
  · refine xs_for1 (xe_pk (pk_len (pk_var rfl) (isS_of ht)) rfl ⟨_, fun k e => ∃ bg' rest es x, IsBag bg' ∧ (es ++ rest).Perm ds ∧ es.length = k ∧ e = [some bg', some t, some (.mls rest), some (.mls es), x], rfl, by omega, by omega,
      ⟨bg, ds, [], none, hb, .refl _, rfl, rfl⟩, ?_, ?_⟩)
    · rintro k e hk ⟨bg', rest, es, x, hb', hperm, hl, rfl⟩
      refine gx_name (by decide) (show 4 < 5 by decide) ?_
      have hlen := hperm.length_eq
      rw [List.length_append] at hlen
      have hk' : k < ds.length := by omega
      refine xs_drop (xe_append rfl rfl ?_)
      refine xe_popAt rfl rfl ?_
      refine xe_draw rfl hb' (pk_len (pk_var rfl) rfl) (by omega) (by omega) fun r bg2 hb2 r0 r1 => ?_
      have hr : r.toNat < rest.length := by omega
      refine ⟨r, rest, r.toNat, rest[r.toNat], rfl, rfl, by omega, by omega, (ixN_seq (ixN_pos r0 r1)).1, List.getElem?_eq_getElem hr, ?_⟩
      refine ⟨es, rfl, by omega, ?_⟩
      refine ⟨bg2, rest.eraseIdx r.toNat, es ++ [rest[r.toNat]], _, hb2, ?_, by rw [List.length_append, hl]; rfl, rfl⟩
      refine List.Perm.trans ?_ hperm
      rw [List.append_assoc]
      exact List.Perm.append_left _ (perm_erase rest r.toNat _ (List.getElem?_eq_getElem hr)).symm
    · rintro e ⟨bg', rest, es, x, hb', hperm, hl, rfl⟩
      have hlen := hperm.length_eq
      rw [List.length_append] at hlen
      have hr : rest = [] := List.length_eq_zero_iff.mp (by omega)
      subst hr
      rw [List.append_nil] at hperm
      exact ⟨bg', es, x, hb', hperm, rfl⟩
  · rintro e ⟨bg', es, x, hb', hperm, rfl⟩
    exact xs_ret (xe_mov rfl (q es bg' hb' hperm))
end DL

set_option autoImplicit false
set_option linter.all false
namespace DL
open PySem L2
/-! ### nets -/
theorem line1 : 1 ≤ sizeLine := by rw [sizeLine_eq]; decide
theorem line2 : 2 ≤ sizeLine := by rw [sizeLine_eq]; decide
theorem line6 : 6 ≤ sizeLine := by rw [sizeLine_eq]; decide
theorem lst_pure {ds : List D} (h : pureL ds = true) : (D.lst ds).pure = true := by rw [D.pure]; exact h
theorem tup_pure {ds : List D} (h : pureL ds = true) : (D.tup ds).pure = true := by rw [D.pure]; exact h
structure Net where
  lv : List Int
  sg : List (Int × Int)
def Net.dat (n : Net) : D := .tup [.tup (n.lv.map D.int), .tup (n.sg.map pD)]
structure Net.Ok (n : Net) : Prop where
  seg : ∀ s ∈ n.sg, 0 ≤ s.1 ∧ s.1 < n.lv.length ∧ 0 ≤ s.2 ∧ s.2 < n.lv.length ∧ gt n.lv s.2 = gt n.lv s.1 + 1
  few : n.lv.length ≤ 64
  lvs : ∀ l ∈ n.lv, 0 ≤ l
  sgs : n.sg.length ≤ 1000
theorem pD_pure (p : Int × Int) : (pD p).pure = true := rfl
theorem int_pure (i : Int) : (D.int i).pure = true := rfl
theorem Net.pure (n : Net) : n.dat.pure = true := by
  show ((D.tup (n.lv.map D.int)).pure && ((D.tup (n.sg.map pD)).pure && true)) = true
  rw [D.pure, D.pure, pureL_map int_pure, pureL_map pD_pure]
  rfl
theorem Net.empty : Net.Ok ⟨[], []⟩ := { seg := (by intro s m; cases m), few := (by decide), lvs := (by intro s m; cases m), sgs := (by decide) }
/-- the places of one level -/
def plD (lv : List Int) (c : Int) : List D := ((List.range lv.length).filter fun (p : Nat) => decide (gt lv (p : Int) = c)).map fun (p : Nat) => D.int (p : Int)
theorem plD_mem {lv : List Int} {c : Int} {d : D} (h : d ∈ plD lv c) : ∃ p : Int, d = .int p ∧ 0 ≤ p ∧ p < lv.length ∧ gt lv p = c := by
  obtain ⟨p, hp, rfl⟩ := List.mem_map.mp h
  obtain ⟨h1, h2⟩ := List.mem_filter.mp hp
  exact ⟨p, rfl, by omega, by have := List.mem_range.mp h1; omega, of_decide_eq_true h2⟩
theorem plD_pos {lv : List Int} {c : Int} (h : c ∈ lv) : 0 < (plD lv c).length := by
  obtain ⟨i, hi, e⟩ := List.getElem_of_mem h
  have : D.int (i : Int) ∈ plD lv c := by
    refine List.mem_map.mpr ⟨i, List.mem_filter.mpr ⟨List.mem_range.mpr hi, decide_eq_true ?_⟩, rfl⟩
    unfold gt
    rw [Int.toNat_natCast, List.getElem?_eq_getElem hi]
    exact e
  exact List.length_pos_of_mem this
theorem plD_len (lv : List Int) (c : Int) : (plD lv c).length ≤ lv.length := by
  unfold plD
  rw [List.length_map]
  have := List.length_filter_le (fun (p : Nat) => decide (gt lv (p : Int) = c)) (List.range lv.length)
  rw [List.length_range] at this
  exact this
theorem plD_pure (lv : List Int) (c : Int) : pureL (plD lv c) = true := pureL_map (fun _ => rfl) _
theorem plD_noraw (lv : List Int) (c : Int) : (D.mls (plD lv c)).noraw = true := by rw [D.noraw]; exact pureL_noraw (plD_pure lv c)
theorem plD_frz (lv : List Int) (c : Int) : (D.mls (plD lv c)).frz = .lst (plD lv c) := by rw [D.frz, frzL_id (plD_pure lv c)]
theorem own_ints (xs : List Int) : pureL (xs.map D.int) = true := pureL_map int_pure _
theorem own_pairs (xs : List (Int × Int)) : pureL (xs.map pD) = true := pureL_map pD_pure _
theorem pairs_app (sg : List (Int × Int)) (a b : Int) : sg.map pD ++ [D.tup [.int a, .int b]] = (sg ++ [(a, b)]).map pD := by rw [List.map_append]; rfl
theorem ints_app (sg : List Int) (a : Int) : sg.map D.int ++ [D.int a] = (sg ++ [a]).map D.int := by rw [List.map_append]; rfl
section
variable {K : PySem.W.Frag} {env : DEnv} {te : TE} {Q : D → DEnv → Prop} {i : Nat} {bg : D}
theorem pk_lenM {α : Type} {f : α → D} {xs : List α} {i : Nat} (h : env[i]? = some (some (.mls (xs.map f))) := by rfl) : Pk K (tCB (rLen2 K) (tCons (tVar i) tNil)) env (.int xs.length) := by
  have := pk_len (K := K) (pk_var h) (ds := xs.map f) rfl
  rw [List.length_map] at this
  exact this
/-- [p for p in range(len(levels)) if levels[p] == c], at rest -/
theorem xe_places {l : Nat} {tc : TE} {lv : List Int} {c : Int} (hl : env[l]? = some (some (.mls (lv.map D.int)))) (hil : i < env.length) (hne : l ≠ i) (hfew : lv.length ≤ 16777216)
    (hc : ∀ n : Nat, n < lv.length → Pk K tc ((wipeE env [i]).set i (some (.int n))) (.int c)) (hn : Pk K te env (.int lv.length))
    (q : Q (.mls (plD lv c)) (env.set i none)) : XE K (tLc (iRng1 (tCons te tNil)) (gName i) (tTest (tOp rEq (tOp (rIxL K) (tVar l) (tVar i)) tc)) (tVar i) [i]) env Q := by
  have hs : sizeLine = 16777216 := sizeLine_eq
  refine xe_lc1_pk (xe_pk hn rfl ⟨lv.length, fun p => decide (gt lv (p : Int) = c), fun p => .int (p : Int), rfl, by omega, by omega, List.mem_singleton.mpr rfl, hil, fun n hn => ?_, fun n hn _ => ⟨?_, rfl⟩, ?_⟩)
  · have hn' : n < lv.length := by omega
    have e1 : ((wipeE env [i]).set i (some (.int n)))[l]? = some (some (.mls (lv.map D.int))) := by
      show (((env.set i none)).set i (some (D.int (n : Int))))[l]? = _
      rw [List.getElem?_set_ne (Ne.symm hne), List.getElem?_set_ne (Ne.symm hne), hl]
    have e2 : ((wipeE env [i]).set i (some (D.int (n : Int))))[i]? = some (some (.int n)) := by
      show (((env.set i none)).set i (some (D.int (n : Int))))[i]? = _
      rw [List.getElem?_set_self (by rw [List.length_set]; exact hil)]
    exact pkt_test (pk_eqI (pk_ixL (pk_var e1) (pk_var e2) rfl (atI_map (by omega) (by omega))) (hc n hn'))
  · have e2 : ((wipeE env [i]).set i (some (D.int (n : Int))))[i]? = some (some (.int n)) := by
      show (((env.set i none)).set i (some (D.int (n : Int))))[i]? = _
      rw [List.getElem?_set_self (by rw [List.length_set]; exact hil)]
    exact pk_var e2
  · rw [Int.toNat_natCast]
    exact q
end
def t_law_net (K : PySem.W.Frag) (S_law_draw S_law_pick : Spec) : TS :=
 (tSeq (tAsg (tCall (spOf K S_law_draw) [] E0 (tCons (tVar 0) (tCons (tC (.int 16)) tNil))) (gName 1))
 (tSeq (tAsg (tOp rEq (tVar 1) (tC (.int 3))) (gName 2))
 (tSeq (tIfS (tTest (tOp rEq (tVar 1) (tC (.int 5)))) (tRet (tTup (tCons (tTup tNil) (tCons (tTup tNil) tNil)))) tNext)
 (tSeq (tAsg (tLst tNil) (gName 3))
 (tSeq (tAsg (tOp rAdd2 (tC (.int 1)) (tCall (spOf K S_law_draw) [] E0 (tCons (tVar 0) (tCons (tC (.int 4)) tNil)))) (gName 4))
 (tSeq (tIfS (tB (tVar 2)) (tAsg (tOp rAdd2 (tC (.int 2)) (tCall (spOf K S_law_draw) [] E0 (tCons (tVar 0) (tCons (tC (.int 4)) tNil)))) (gName 4)) tNext)
 (tSeq (tFor (iRng1 (tCons (tVar 4) tNil)) (gName 5) (tSeq (tAsg (tOp rAdd2 (tC (.int 1)) (tCall (spOf K S_law_draw) [] E0 (tCons (tVar 0) (tCons (tC (.int 4)) tNil)))) (gName 6))
 (tSeq (tIfS (tB (tVar 2)) (tAsg (tOp rAdd2 (tC (.int 1)) (tCall (spOf K S_law_draw) [] E0 (tCons (tVar 0) (tCons (tC (.int 7)) tNil)))) (gName 6)) tNext)
 (tDrop (tBM K "list" rExtend (tVar 3) (tCons (tOp rRep (tLst (tCons (tVar 5) tNil)) (tVar 6)) tNil))))))
 (tSeq (tAsg (tCall (spOf K S_law_draw) [] E0 (tCons (tVar 0) (tCons (tCB (rLen2 K) (tCons (tVar 3) tNil)) tNil))) (gName 7))
 (tSeq (tIfS (tTest (tOp rEq (tCall (spOf K S_law_draw) [] E0 (tCons (tVar 0) (tCons (tC (.int 2)) tNil))) (tC (.int 0)))) (tAsg (tOp rCat (L2.tSl (rSlL K) (tVar 3) (tPart (tVar 7)) tNoPart) (L2.tSl (rSlL K) (tVar 3) tNoPart (tPart (tVar 7)))) (gName 3)) tNext)
 (tSeq (tAsg (tLst tNil) (gName 8))
 (tSeq (tFor (iRng1 (tCons (tOp rSub2 (tVar 4) (tC (.int 1))) tNil)) (gName 5) (tSeq (tAsg (tLc (iRng1 (tCons (tCB (rLen2 K) (tCons (tVar 3) tNil)) tNil)) (gName 12) (tTest (tOp rEq (tOp (rIxL K) (tVar 3) (tVar 12)) (tVar 5))) (tVar 12) [12]) (gName 9))
 (tSeq (tAsg (tLc (iRng1 (tCons (tCB (rLen2 K) (tCons (tVar 3) tNil)) tNil)) (gName 12) (tTest (tOp rEq (tOp (rIxL K) (tVar 3) (tVar 12)) (tOp rAdd2 (tVar 5) (tC (.int 1))))) (tVar 12) [12]) (gName 10))
 (tSeq (tAsg (tCall (spOf K S_law_draw) [] E0 (tCons (tVar 0) (tCons (tC (.int 7)) tNil))) (gName 6))
 (tSeq (tIfS (tB (tVar 2)) (tAsg (tCall (spOf K S_law_draw) [] E0 (tCons (tVar 0) (tCons (tC (.int 14)) tNil))) (gName 6)) tNext)
 (tFor (iRng1 (tCons (tVar 6) tNil)) (gName 11) (tDrop (tBM K "list" rAppend (tVar 8) (tCons (tTup (tCons (tCall (spOf K S_law_pick) [] E0 (tCons (tVar 0) (tCons (tVar 9) tNil))) (tCons (tCall (spOf K S_law_pick) [] E0 (tCons (tVar 0) (tCons (tVar 10) tNil))) tNil))) tNil)))))))))
 (tSeq (tIfS (tTest (tOp rEq (tCall (spOf K S_law_draw) [] E0 (tCons (tVar 0) (tCons (tC (.int 3)) tNil))) (tC (.int 0)))) (tAsg (tRevL K (tVar 8)) (gName 8)) tNext)
 (tRet (tTup (tCons (tCB (rTupOf K) (tCons (tVar 3) tNil)) (tCons (tCB (rTupOf K) (tCons (tVar 8) tNil)) tNil))))))))))))))))

def S_gen : Spec := fun ads Q => ∃ bg : D, ads = [bg] ∧ IsBag bg ∧ ∀ (n : Net) (bg' : D), IsBag bg' → n.Ok → Q n.dat [some bg']
theorem cut_map {α : Type} (f : α → D) (xs : List α) (lo hi : Option Int) : cutD (xs.map f) lo hi = ((xs.drop (HT.sIx xs.length 0 lo)).take (HT.sIx xs.length xs.length hi - HT.sIx xs.length 0 lo)).map f := by
  unfold cutD
  rw [List.length_map, List.map_take, List.map_drop]
theorem cut_from {α : Type} (f : α → D) {xs : List α} {v : Int} (h0 : 0 ≤ v) (h1 : v ≤ xs.length) : cutD (xs.map f) (some v) none = (xs.drop v.toNat).map f := by
  rw [cut_map]
  have e1 : HT.sIx xs.length 0 (some v) = v.toNat := by
    show (if v < 0 then (v + (xs.length : Int)).toNat else min v.toNat xs.length) = v.toNat
    rw [if_neg (by omega)]
    omega
  rw [e1, HT.sIx_none, List.take_of_length_le (by rw [List.length_drop]; exact Nat.le_refl _)]
theorem cut_to {α : Type} (f : α → D) {xs : List α} {v : Int} (h0 : 0 ≤ v) (h1 : v ≤ xs.length) : cutD (xs.map f) none (some v) = (xs.take v.toNat).map f := by
  rw [cut_map]
  have e1 : HT.sIx xs.length xs.length (some v) = v.toNat := by
    show (if v < 0 then (v + (xs.length : Int)).toNat else min v.toNat xs.length) = v.toNat
    rw [if_neg (by omega)]
    omega
  rw [e1, HT.sIx_none, List.drop_zero, Nat.sub_zero]
theorem rep_one (x : Int) (n : Nat) : (List.replicate n [D.int x]).flatten = (List.replicate n x).map D.int := by
  induction n with
  | zero => rfl
  | succ n ih => rw [List.replicate_succ, List.flatten_cons, ih, List.replicate_succ]; rfl
theorem xs_law_net {K : PySem.W.Frag} (ads : List D) (Q : D → List (Option D) → Prop) (h : S_gen ads Q) :
    XS K [0] (t_law_net K S_law_draw S_law_pick) (ads.map some ++ List.replicate 12 none) { nx := fun e => Q .non (back [0] 1 e), rt := fun d e => Q d (back [0] 1 e) } := by
  obtain ⟨bg, rfl, hb, q⟩ := h
  have hs : sizeLine = 16777216 := sizeLine_eq
  show XS K [0] (t_law_net K S_law_draw S_law_pick) [some bg, none, none, none, none, none, none, none, none, none, none, none, none] _
  refine xs_seq (xs_set (xe_draw rfl hb (by none_booked) (by decide) (by decide) fun kind bg hb k0 k1 => ?_))
  dsimp only [List.set]
  refine xs_seq (xs_set (xe_pk (by none_booked) rfl ?_))
  dsimp only [List.set]
  refine xs_seq (xs_ifp (by none_booked) (fun _ => ?_) fun _ => xs_next ?_)
  · refine xs_ret (xe_tup (xa_val (xe_tup (xa_nil ⟨[], rfl, by decide, xa_val (xe_tup (xa_nil ⟨[], rfl, by decide, xa_nil ⟨_, rfl, by decide, ?_⟩⟩))⟩))))
    exact q ⟨[], []⟩ bg hb Net.empty
  refine xs_seq (xs_set (xe_lst (xa_nil ⟨[], rfl, by decide, ?_⟩)))
  dsimp only [List.set]
  generalize decide (kind = 3) = large
  refine xs_cut (fun e => ∃ bg, ∃ depth : Int, IsBag bg ∧ 1 ≤ depth ∧ depth ≤ 5 ∧ e = [some bg, some (.int kind), some (.bl large), some (.mls []), some (.int depth), none, none, none, none, none, none, none, none]) ?_ ?_
  · refine xs_set (xe_add (xe_pk pk_int rfl ⟨_, rfl, xe_draw rfl hb (by none_booked) (by decide) (by decide) fun d bg hb d0 d1 => ⟨_, rfl, ?_⟩⟩))
    exact ⟨bg, 1 + d, hb, by omega, by omega, rfl⟩
  rintro e ⟨bg, depth, hb, hd1, hd5, rfl⟩
  refine xs_cut (fun e => ∃ bg, ∃ depth : Int, IsBag bg ∧ 1 ≤ depth ∧ depth ≤ 5 ∧ e = [some bg, some (.int kind), some (.bl large), some (.mls []), some (.int depth), none, none, none, none, none, none, none, none]) ?_ ?_
  · refine xs_ifp (by none_booked) (fun _ => ?_) fun _ => xs_next ⟨bg, depth, hb, hd1, hd5, rfl⟩
    refine xs_set (xe_add (xe_pk pk_int rfl ⟨_, rfl, xe_draw rfl hb (by none_booked) (by decide) (by decide) fun d bg hb d0 d1 => ⟨_, rfl, ?_⟩⟩))
    exact ⟨bg, 2 + d, hb, by omega, by omega, rfl⟩
  clear hb hd1 hd5
  rintro e ⟨bg, depth, hb, hd1, hd5, rfl⟩
  refine xs_cut (fun e => ∃ bg, ∃ lv : List Int, ∃ x y, IsBag bg ∧ (∀ l ∈ lv, 0 ≤ l) ∧ (∀ j : Int, 0 ≤ j → j < depth → j ∈ lv) ∧ lv.length ≤ 35 ∧ e = [some bg, some (.int kind), some (.bl large), some (.mls (lv.map D.int)), some (.int depth), x, y, none, none, none, none, none, none]) ?_ ?_
  · refine xs_for1 (xe_pk (by none_booked) rfl ⟨_, fun k e => ∃ bg, ∃ lv : List Int, ∃ x y, IsBag bg ∧ (∀ l ∈ lv, 0 ≤ l) ∧ (∀ j : Int, 0 ≤ j → j < k → j ∈ lv) ∧ lv.length ≤ 7 * k ∧ e = [some bg, some (.int kind), some (.bl large), some (.mls (lv.map D.int)), some (.int depth), x, y, none, none, none, none, none, none], rfl, by omega, by omega,
      ⟨bg, [], none, none, hb, (by intro l m; cases m), (by intro j h0 h1; omega), by decide, rfl⟩, ?_, ?_⟩)
    · rintro k e hk ⟨bg, lv, x, y, hb, h1, h2, h3, rfl⟩
      refine gx_name (by decide) (show 5 < 13 by decide) ?_
      dsimp only [List.set]
      refine xs_cut (fun e => ∃ bg, ∃ many : Int, IsBag bg ∧ 1 ≤ many ∧ many ≤ 7 ∧ e = [some bg, some (.int kind), some (.bl large), some (.mls (lv.map D.int)), some (.int depth), some (.int k), some (.int many), none, none, none, none, none, none]) ?_ ?_
      · refine xs_set (xe_add (xe_pk pk_int rfl ⟨_, rfl, xe_draw rfl hb (by none_booked) (by decide) (by decide) fun d bg hb d0 d1 => ⟨_, rfl, ?_⟩⟩))
        exact ⟨bg, 1 + d, hb, by omega, by omega, rfl⟩
      rintro e ⟨bg, many, hb, m1, m2, rfl⟩
      refine xs_cut (fun e => ∃ bg, ∃ many : Int, IsBag bg ∧ 1 ≤ many ∧ many ≤ 7 ∧ e = [some bg, some (.int kind), some (.bl large), some (.mls (lv.map D.int)), some (.int depth), some (.int k), some (.int many), none, none, none, none, none, none]) ?_ ?_
      · refine xs_ifp (by none_booked) (fun _ => ?_) fun _ => xs_next ⟨bg, many, hb, m1, m2, rfl⟩
        refine xs_set (xe_add (xe_pk pk_int rfl ⟨_, rfl, xe_draw rfl hb (by none_booked) (by decide) (by decide) fun d bg hb d0 d1 => ⟨_, rfl, ?_⟩⟩))
        exact ⟨bg, 1 + d, hb, by omega, by omega, rfl⟩
      clear hb m1 m2
      rintro e ⟨bg, many, hb, m1, m2, rfl⟩
      refine xs_drop (xe_extend rfl rfl (xe_rep (xe_lst (xa_pk (by none_booked) rfl (xa_nil ⟨_, rfl, line1, _, rfl, rfl, xe_pk (by none_booked) rfl ⟨many, rfl, by omega, by omega, ?_, _, _, rfl, rfl, ?_, ?_⟩⟩)))))
      · show 1 * many.toNat ≤ sizeLine
        omega
      · dsimp only
        rw [rep_one, List.length_map, List.length_map, List.length_replicate]
        omega
      · dsimp only
        refine ⟨bg, lv ++ List.replicate many.toNat (k : Int), some (.int k), some (.int many), hb, ?_, ?_, ?_, ?_⟩
        · intro l m
          rcases List.mem_append.mp m with m | m
          · exact h1 l m
          · rw [(List.mem_replicate.mp m).2]
            omega
        · intro j j0 j1
          by_cases hj : j < k
          · exact List.mem_append_left _ (h2 j j0 hj)
          · refine List.mem_append_right _ (List.mem_replicate.mpr ⟨by omega, by omega⟩)
        · rw [List.length_append, List.length_replicate]
          omega
        · rw [rep_one, ← List.map_append]
          rfl
    · rintro e ⟨bg, lv, x, y, hb, h1, h2, h3, rfl⟩
      exact ⟨bg, lv, x, y, hb, h1, (fun j j0 j1 => h2 j j0 (by omega)), by omega, rfl⟩
  clear hb
  rintro e ⟨bg, lv, x, y, hb, h1, h2, h3, rfl⟩
  have hne : 0 < lv.length := List.length_pos_of_mem (h2 0 (by decide) (by omega))
  refine xs_seq (xs_set (xe_draw rfl hb (pk_len (pk_var rfl) rfl) (by rw [List.length_map]; omega) (by rw [List.length_map]; omega) fun turn bg hb t0 t1 => ?_))
  dsimp only [List.set]
  rw [List.length_map] at t1
  refine xs_cut (fun e => ∃ bg, ∃ lv : List Int, IsBag bg ∧ (∀ l ∈ lv, 0 ≤ l) ∧ (∀ j : Int, 0 ≤ j → j < depth → j ∈ lv) ∧ lv.length ≤ 35 ∧ e = [some bg, some (.int kind), some (.bl large), some (.mls (lv.map D.int)), some (.int depth), x, y, some (.int turn), none, none, none, none, none]) ?_ ?_
  · refine xs_if (xt_test (xe_eqI (xe_draw rfl hb (by none_booked) (by decide) (by decide) fun z bg hb z0 z1 => ⟨z, rfl, xe_pk pk_int rfl ⟨_, rfl, _, rfl, ?_⟩⟩)))
    refine ⟨fun _ => ?_, fun _ => xs_next ⟨bg, lv, hb, h1, h2, h3, rfl⟩⟩
    dsimp only [List.set]
    refine xs_set (xe_cat (xe_slL (pk_var rfl) rfl (own_ints lv) (pko_part (by none_booked)) pko_none ⟨_, rfl, xe_slL (pk_var rfl) rfl (own_ints lv) pko_none (pko_part (by none_booked)) ⟨_, rfl, ?_, ?_⟩⟩))
    · rw [cut_from _ t0 (by omega), cut_to _ t0 (by omega), List.length_map, List.length_map, List.length_drop, List.length_take]
      omega
    · rw [cut_from _ t0 (by omega), cut_to _ t0 (by omega), ← List.map_append]
      refine ⟨bg, lv.drop turn.toNat ++ lv.take turn.toNat, hb, ?_, ?_, ?_, rfl⟩
      · intro l m
        rcases List.mem_append.mp m with m | m
        · exact h1 l (List.mem_of_mem_drop m)
        · exact h1 l (List.mem_of_mem_take m)
      · intro j j0 j1
        have m := h2 j j0 j1
        rw [← List.take_append_drop turn.toNat lv] at m
        rcases List.mem_append.mp m with m | m
        · exact List.mem_append_right _ m
        · exact List.mem_append_left _ m
      · rw [List.length_append, List.length_drop, List.length_take]
        omega
  clear hb h1 h2 h3 hne t0 t1
  rintro e ⟨bg, lv, hb, h1, h2, h3, rfl⟩
  refine xs_seq (xs_set (xe_lst (xa_nil ⟨[], rfl, by decide, ?_⟩)))
  dsimp only [List.set]
  refine xs_cut (fun e => ∃ bg, ∃ sg : List (Int × Int), ∃ x5 x6 x9 x10 x11 x12, IsBag bg ∧ (∀ s ∈ sg, 0 ≤ s.1 ∧ s.1 < lv.length ∧ 0 ≤ s.2 ∧ s.2 < lv.length ∧ gt lv s.2 = gt lv s.1 + 1) ∧ sg.length ≤ 100 ∧
      e = [some bg, some (.int kind), some (.bl large), some (.mls (lv.map D.int)), some (.int depth), x5, x6, some (.int turn), some (.mls (sg.map pD)), x9, x10, x11, x12]) ?_ ?_
  · refine xs_for1 (xe_pk (by none_booked) rfl ⟨_, fun k e => ∃ bg, ∃ sg : List (Int × Int), ∃ x5 x6 x9 x10 x11 x12, IsBag bg ∧ (∀ s ∈ sg, 0 ≤ s.1 ∧ s.1 < lv.length ∧ 0 ≤ s.2 ∧ s.2 < lv.length ∧ gt lv s.2 = gt lv s.1 + 1) ∧ sg.length ≤ 20 * k ∧
      e = [some bg, some (.int kind), some (.bl large), some (.mls (lv.map D.int)), some (.int depth), x5, x6, some (.int turn), some (.mls (sg.map pD)), x9, x10, x11, x12], rfl, by omega, by omega,
      ⟨bg, [], _, _, _, _, _, _, hb, (by intro l m; cases m), by decide, rfl⟩, ?_, ?_⟩)
    · rintro k e hk ⟨bg, sg, x5, x6, x9, x10, x11, x12, hb, s1, s2, rfl⟩
      refine gx_name (by decide) (show 5 < 13 by decide) ?_
      dsimp only [List.set]
      have hk1 : (k : Int) ∈ lv := h2 k (by omega) (by omega)
      have hk2 : (k : Int) + 1 ∈ lv := h2 (k + 1) (by omega) (by omega)
      refine xs_seq (xs_set (xe_frz (xe_places (lv := lv) (c := (k : Int)) rfl (show 12 < 13 by decide) (by decide) (by omega) (fun n hn => by none_booked) (pk_lenM (f := D.int) (h := rfl)) ⟨plD_noraw _ _, ?_⟩)))
      rw [plD_frz]
      dsimp only [List.set]
      refine xs_seq (xs_set (xe_frz (xe_places (lv := lv) (c := (k : Int) + 1) rfl (show 12 < 13 by decide) (by decide) (by omega) (fun n hn => by none_booked) (pk_lenM (f := D.int) (h := rfl)) ⟨plD_noraw _ _, ?_⟩)))
      rw [plD_frz]
      dsimp only [List.set]
      refine xs_cut (fun e => ∃ bg, ∃ many : Int, IsBag bg ∧ 0 ≤ many ∧ many ≤ 14 ∧ e = [some bg, some (.int kind), some (.bl large), some (.mls (lv.map D.int)), some (.int depth), some (.int k), some (.int many), some (.int turn), some (.mls (sg.map pD)), some (.lst (plD lv k)), some (.lst (plD lv (k + 1))), x11, none]) ?_ ?_
      · refine xs_set (xe_draw rfl hb (by none_booked) (by decide) (by decide) fun d bg hb d0 d1 => ?_)
        exact ⟨bg, d, hb, by omega, by omega, rfl⟩
      clear hb
      rintro e ⟨bg, many, hb, m1, m2, rfl⟩
      refine xs_cut (fun e => ∃ bg, ∃ many : Int, IsBag bg ∧ 0 ≤ many ∧ many ≤ 14 ∧ e = [some bg, some (.int kind), some (.bl large), some (.mls (lv.map D.int)), some (.int depth), some (.int k), some (.int many), some (.int turn), some (.mls (sg.map pD)), some (.lst (plD lv k)), some (.lst (plD lv (k + 1))), x11, none]) ?_ ?_
      · refine xs_ifp (by none_booked) (fun _ => ?_) fun _ => xs_next ⟨bg, many, hb, m1, m2, rfl⟩
        refine xs_set (xe_draw rfl hb (by none_booked) (by decide) (by decide) fun d bg hb d0 d1 => ?_)
        exact ⟨bg, d, hb, by omega, by omega, rfl⟩
      clear hb m1 m2
      rintro e ⟨bg, many, hb, m1, m2, rfl⟩
      refine xs_for1 (xe_pk (by none_booked) rfl ⟨_, fun j e => ∃ bg, ∃ sg : List (Int × Int), ∃ x11, IsBag bg ∧ (∀ s ∈ sg, 0 ≤ s.1 ∧ s.1 < lv.length ∧ 0 ≤ s.2 ∧ s.2 < lv.length ∧ gt lv s.2 = gt lv s.1 + 1) ∧ sg.length ≤ 20 * k + j ∧
        e = [some bg, some (.int kind), some (.bl large), some (.mls (lv.map D.int)), some (.int depth), some (.int k), some (.int many), some (.int turn), some (.mls (sg.map pD)), some (.lst (plD lv k)), some (.lst (plD lv (k + 1))), x11, none], rfl, by omega, by omega,
        ⟨bg, sg, _, hb, s1, by omega, rfl⟩, ?_, ?_⟩)
      · clear hb s1 s2
        rintro j e hj ⟨bg, sg, x11, hb, s1, s2, rfl⟩
        refine gx_name (by decide) (show 11 < 13 by decide) ?_
        dsimp only [List.set]
        have p1 := plD_len lv k
        have p2 := plD_len lv (k + 1)
        refine xs_drop (xe_append rfl rfl (xe_tup (xa_val (xe_pick rfl (xe_pk (pk_var rfl) (lst_pure (plD_pure _ _)) ⟨bg, _, rfl, hb, rfl, plD_pure _ _, plD_pos hk1, by omega, fun d bg hb hd =>
          xa_val (xe_pick rfl (xe_pk (pk_var rfl) (lst_pure (plD_pure _ _)) ⟨bg, _, rfl, hb, rfl, plD_pure _ _, plD_pos hk2, by omega, fun d2 bg hb hd2 => xa_nil ⟨_, rfl, line2, _, rfl, ?_, ?_⟩⟩))⟩)))))
        · rw [List.length_map]
          omega
        · obtain ⟨a, rfl, a0, a1, a2⟩ := plD_mem hd
          obtain ⟨b, rfl, b0, b1, b2⟩ := plD_mem hd2
          dsimp only [List.set]
          refine ⟨bg, sg ++ [(a, b)], _, hb, ?_, by rw [List.length_append]; show sg.length + 1 ≤ _; omega, by rw [pairs_app]⟩
          intro s m
          rcases List.mem_append.mp m with m | m
          · exact s1 s m
          · obtain rfl := List.mem_singleton.mp m
            exact ⟨a0, a1, b0, b1, by show gt lv b = gt lv a + 1; rw [a2, b2]⟩
      · clear hb s1 s2
        rintro e ⟨bg, sg, x11, hb, s1, s2, rfl⟩
        exact ⟨bg, sg, _, _, _, _, _, _, hb, s1, by omega, rfl⟩
    · rintro e ⟨bg, sg, x5, x6, x9, x10, x11, x12, hb, s1, s2, rfl⟩
      exact ⟨bg, sg, _, _, _, _, _, _, hb, s1, by omega, rfl⟩
  · rintro e ⟨bg, sg, x5, x6, x9, x10, x11, x12, hb, s1, s2, rfl⟩
    refine xs_cut (fun e => ∃ bg, ∃ sg : List (Int × Int), IsBag bg ∧ (∀ s ∈ sg, 0 ≤ s.1 ∧ s.1 < lv.length ∧ 0 ≤ s.2 ∧ s.2 < lv.length ∧ gt lv s.2 = gt lv s.1 + 1) ∧ sg.length ≤ 100 ∧
      e = [some bg, some (.int kind), some (.bl large), some (.mls (lv.map D.int)), some (.int depth), x5, x6, some (.int turn), some (.mls (sg.map pD)), x9, x10, x11, x12]) ?_ ?_
    · refine xs_if (xt_test (xe_eqI (xe_draw rfl hb (by none_booked) (by decide) (by decide) fun z bg hb z0 z1 => ⟨z, rfl, xe_pk pk_int rfl ⟨_, rfl, _, rfl, ?_⟩⟩)))
      refine ⟨fun _ => ?_, fun _ => xs_next ⟨bg, sg, hb, s1, s2, rfl⟩⟩
      refine xs_set (xe_rev (pk_var rfl) rfl (own_pairs sg) ?_)
      refine ⟨bg, sg.reverse, hb, fun s m => s1 s (List.mem_reverse.mp m), by rw [List.length_reverse]; exact s2, ?_⟩
      rw [← List.map_reverse]
      rfl
    · clear hb s1 s2
      rintro e ⟨bg, sg, hb, s1, s2, rfl⟩
      refine xs_ret (xe_tup (xa_val (xe_tupleX (xe_mov rfl ⟨_, rfl, own_ints lv, xa_val (xe_tupleX (xe_mov rfl ⟨_, rfl, own_pairs sg, xa_nil ⟨_, rfl, line2, ?_⟩⟩))⟩))))
      exact q ⟨lv, sg⟩ bg hb ⟨s1, by show lv.length ≤ 64; omega, h1, by show sg.length ≤ 1000; omega⟩
end DL

set_option autoImplicit false
set_option linter.all false
namespace DL
open PySem L2
def t_law_deep_net (K : PySem.W.Frag) (S_law_shuffle S_law_draw S_law_pick : Spec) : TS :=
 (tSeq (tAsg (tCall (spOf K S_law_draw) [] E0 (tCons (tVar 0) (tCons (tC (.int 37)) tNil))) (gName 1))
 (tSeq (tIfS (tTest (tOp rEq (tVar 1) (tC (.int 0)))) (tRet (tTup (tCons (tTup tNil) (tCons (tTup tNil) tNil)))) tNext)
 (tSeq (tAsg (tOp rAdd2 (tOp rDiv2 (tOp rAdd2 (tVar 1) (tC (.int 6))) (tC (.int 7))) (tCall (spOf K S_law_draw) [] E0 (tCons (tVar 0) (tCons (tOp rSub2 (tOp rAdd2 (tVar 1) (tC (.int 1))) (tOp rDiv2 (tOp rAdd2 (tVar 1) (tC (.int 6))) (tC (.int 7)))) tNil)))) (gName 2))
 (tSeq (tAsg (tLstRg (tRg1 (tVar 2))) (gName 3))
 (tSeq (tFor (iRng1 (tCons (tOp rSub2 (tVar 1) (tVar 2)) tNil)) (gName 4) (tDrop (tBM K "list" rAppend (tVar 3) (tCons (tCall (spOf K S_law_pick) [] E0 (tCons (tVar 0) (tCons (tLc (iRng1 (tCons (tVar 2) tNil)) (gName 6) (tTest (tOp rLt2 (tBM K "list" (rCntI K) (tVar 3) (tCons (tVar 6) tNil)) (tC (.int 7)))) (tVar 6) [6]) tNil))) tNil))))
 (tSeq (tAsg (tCall (spOf K S_law_shuffle) [] E0 (tCons (tVar 0) (tCons (tVar 3) tNil))) (gName 3))
 (tSeq (tAsg (tLst tNil) (gName 5))
 (tSeq (tFor (iRng1 (tCons (tOp rSub2 (tVar 2) (tC (.int 1))) tNil)) (gName 6) (tSeq (tAsg (tLc (iRng1 (tCons (tVar 1) tNil)) (gName 9) (tTest (tOp rEq (tOp (rIxL K) (tVar 3) (tVar 9)) (tVar 6))) (tVar 9) [9]) (gName 7))
 (tSeq (tAsg (tLc (iRng1 (tCons (tVar 1) tNil)) (gName 9) (tTest (tOp rEq (tOp (rIxL K) (tVar 3) (tVar 9)) (tOp rAdd2 (tVar 6) (tC (.int 1))))) (tVar 9) [9]) (gName 8))
 (tFor (iRng1 (tCons (tCall (spOf K S_law_draw) [] E0 (tCons (tVar 0) (tCons (tC (.int 14)) tNil))) tNil)) (gName 4) (tDrop (tBM K "list" rAppend (tVar 5) (tCons (tTup (tCons (tCall (spOf K S_law_pick) [] E0 (tCons (tVar 0) (tCons (tVar 7) tNil))) (tCons (tCall (spOf K S_law_pick) [] E0 (tCons (tVar 0) (tCons (tVar 8) tNil))) tNil))) tNil)))))))
 (tRet (tTup (tCons (tCB (rTupOf K) (tCons (tVar 3) tNil)) (tCons (tCB (rTupOf K) (tCons (tCall (spOf K S_law_shuffle) [] E0 (tCons (tVar 0) (tCons (tVar 5) tNil))) tNil)) tNil))))))))))))

theorem perm_map_back {α β : Type} {f : α → β} : ∀ {l es : List β}, l.Perm es → ∀ xs : List α, l = xs.map f → ∃ ys : List α, es = ys.map f ∧ ys.Perm xs := by
  intro l es h
  induction h with
  | nil =>
    intro xs e
    have : xs = [] := by
      cases xs with
      | nil => rfl
      | cons x xs => cases e
    subst this
    exact ⟨[], rfl, .refl _⟩
  | cons x _ ih =>
    intro xs e
    cases xs with
    | nil => cases e
    | cons y xs =>
      rw [List.map_cons] at e
      injection e with e1 e2
      obtain ⟨ys, h1, h2⟩ := ih xs e2
      exact ⟨y :: ys, by rw [List.map_cons, e1, h1], h2.cons y⟩
  | swap x y l =>
    intro xs e
    cases xs with
    | nil => cases e
    | cons a xs =>
      cases xs with
      | nil => cases e
      | cons b xs =>
        rw [List.map_cons, List.map_cons] at e
        injection e with e1 e2
        injection e2 with e2 e3
        exact ⟨b :: a :: xs, by rw [List.map_cons, List.map_cons, e1, e2, e3], .swap _ _ _⟩
  | trans _ _ i1 i2 =>
    intro xs e
    obtain ⟨ys, h1, h2⟩ := i1 xs e
    obtain ⟨zs, h3, h4⟩ := i2 ys h1
    exact ⟨zs, h3, h4.trans h2⟩
theorem perm_back {α : Type} {f : α → D} {es : List D} {xs : List α} (h : es.Perm (xs.map f)) : ∃ ys : List α, es = ys.map f ∧ ys.Perm xs := perm_map_back h.symm xs rfl
theorem count_room {lv : List Int} : ∀ d : Nat, (∀ r : Nat, r < d → 7 ≤ lv.count (r : Int)) → 7 * d ≤ (lv.filter fun l => decide (0 ≤ l ∧ l < (d : Int))).length
  | 0, _ => by simp
  | d + 1, h => by
    have ih := count_room d fun r hr => h r (by omega)
    have h7 := h d (by omega)
    have e : ∀ xs : List Int, (xs.filter fun l => decide (0 ≤ l ∧ l < ((d + 1 : Nat) : Int))).length = (xs.filter fun l => decide (0 ≤ l ∧ l < (d : Int))).length + xs.count (d : Int) := by
      intro xs
      induction xs with
      | nil => rfl
      | cons x xs ih =>
        rw [List.filter_cons, List.filter_cons, List.count_cons]
        by_cases h1 : x = (d : Int)
        · subst h1
          have c1 : decide (0 ≤ (d : Int) ∧ (d : Int) < ((d + 1 : Nat) : Int)) = true := decide_eq_true ⟨by omega, by omega⟩
          have c2 : decide (0 ≤ (d : Int) ∧ (d : Int) < (d : Int)) = false := decide_eq_false (by omega)
          rw [if_pos c1, c2, List.length_cons, ih]
          simp
          omega
        · have c3 : (x == (d : Int)) = false := beq_eq_false_iff_ne.mpr h1
          rw [c3]
          by_cases h2 : 0 ≤ x ∧ x < (d : Int)
          · rw [if_pos (decide_eq_true ⟨h2.1, by omega⟩), if_pos (decide_eq_true h2), List.length_cons, List.length_cons, ih]
            simp
            omega
          · have h3 : ¬ (0 ≤ x ∧ x < ((d + 1 : Nat) : Int)) := by omega
            rw [if_neg (by simpa using h3), if_neg (by simpa using h2), ih]
            simp
    rw [e]
    omega
theorem room_left {lv : List Int} {d : Nat} (h : lv.length < 7 * d) : ∃ r : Nat, r < d ∧ lv.count (r : Int) < 7 := by
  by_cases hx : ∃ r : Nat, r < d ∧ lv.count (r : Int) < 7
  · exact hx
  · have h1 := count_room (lv := lv) d fun r hr => by
      by_cases h7 : 7 ≤ lv.count (r : Int)
      · exact h7
      · exact absurd ⟨r, hr, by omega⟩ hx
    have h2 := List.length_filter_le (fun l => decide (0 ≤ l ∧ l < (d : Int))) lv
    omega
theorem xs_law_deep_net {K : PySem.W.Frag} (ads : List D) (Q : D → List (Option D) → Prop) (h : S_gen ads Q) :
    XS K [0] (t_law_deep_net K S_law_shuffle S_law_draw S_law_pick) (ads.map some ++ List.replicate 9 none) { nx := fun e => Q .non (back [0] 1 e), rt := fun d e => Q d (back [0] 1 e) } := by
  obtain ⟨bg, rfl, hb, q⟩ := h
  have hs : sizeLine = 16777216 := sizeLine_eq
  show XS K [0] (t_law_deep_net K S_law_shuffle S_law_draw S_law_pick) [some bg, none, none, none, none, none, none, none, none, none] _
  refine xs_seq (xs_set (xe_draw rfl hb (by none_booked) (by decide) (by decide) fun many bg hb k0 k1 => ?_))
  dsimp only [List.set]
  refine xs_seq (xs_ifp (by none_booked) (fun _ => ?_) fun hne => xs_next ?_)
  · refine xs_ret (xe_tup (xa_val (xe_tup (xa_nil ⟨[], rfl, by decide, xa_val (xe_tup (xa_nil ⟨[], rfl, by decide, xa_nil ⟨_, rfl, by decide, ?_⟩⟩))⟩))))
    exact q ⟨[], []⟩ bg hb Net.empty
  have hne' : ¬ many = 0 := of_decide_eq_false hne
  refine xs_cut (fun e => ∃ bg, ∃ d : Nat, IsBag bg ∧ 1 ≤ d ∧ (d : Int) ≤ many ∧ many ≤ 7 * d ∧ e = [some bg, some (.int many), some (.int d), none, none, none, none, none, none, none]) ?_ ?_
  · refine xs_set (xe_add (xe_pk (by none_booked) rfl ⟨_, rfl, xe_draw rfl hb (by none_booked) (by omega) (by omega) fun d bg hb d0 d1 => ⟨_, rfl, ?_⟩⟩))
    refine ⟨bg, ((many + 6) / 7 + d).toNat, hb, by omega, by omega, by omega, ?_⟩
    rw [Int.toNat_of_nonneg (by omega)]
    rfl
  clear hb
  rintro e ⟨bg, d, hb, hd1, hd2, hd3, rfl⟩
  refine xs_seq (xs_set (xe_listRg (xe_pk (by none_booked) rfl ⟨d, rfl, by omega, by omega, ?_⟩)))
  dsimp only [List.set]
  rw [Int.toNat_natCast]
  refine xs_cut (fun e => ∃ bg, ∃ lv : List Int, ∃ x4 x6, IsBag bg ∧ (∀ l ∈ lv, 0 ≤ l ∧ l < d) ∧ (∀ j : Int, 0 ≤ j → j < d → j ∈ lv) ∧ lv.length = many ∧ e = [some bg, some (.int many), some (.int d), some (.mls (lv.map D.int)), x4, none, x6, none, none, none]) ?_ ?_
  · refine xs_for1 (xe_pk (by none_booked) rfl ⟨_, fun k e => ∃ bg, ∃ lv : List Int, ∃ x4 x6, IsBag bg ∧ (∀ l ∈ lv, 0 ≤ l ∧ l < d) ∧ (∀ j : Int, 0 ≤ j → j < d → j ∈ lv) ∧ lv.length = d + k ∧ e = [some bg, some (.int many), some (.int d), some (.mls (lv.map D.int)), x4, none, x6, none, none, none], rfl, by omega, by omega,
      ⟨bg, (List.range d).map fun (i : Nat) => (i : Int), none, none, hb, ?_, ?_, by rw [List.length_map, List.length_range]; rfl, by rw [List.map_map]; rfl⟩, ?_, ?_⟩)
    · intro l m
      obtain ⟨i, hi, rfl⟩ := List.mem_map.mp m
      have := List.mem_range.mp hi
      omega
    · intro j j0 j1
      exact List.mem_map.mpr ⟨j.toNat, List.mem_range.mpr (by omega), by omega⟩
    · clear hb
      rintro k e hk ⟨bg, lv, x4, x6, hb, h1, h2, h3, rfl⟩
      refine gx_name (by decide) (show 4 < 10 by decide) ?_
      dsimp only [List.set]
      obtain ⟨r0, hr0, hr1⟩ := room_left (lv := lv) (d := d) (by omega)
      refine xs_drop (xe_append rfl rfl (xe_pick rfl (xe_lc1_pk (xe_pk (by none_booked) rfl ⟨d, fun n => decide ((lv.count (n : Int) : Int) < 7), fun n => .int (n : Int), rfl, by omega, by omega, by decide, show 6 < 10 by decide, (fun n hn => ?_), (fun n hn _ => ⟨pk_var rfl, rfl⟩), ?_⟩))))
      · exact pkt_test (pk_lt (pk_count (pk_var rfl) rfl (pk_var rfl)) pk_int)
      · rw [Int.toNat_natCast]
        refine ⟨bg, _, rfl, hb, rfl, pureL_map (fun _ => rfl) _, ?_, ?_, ?_⟩
        · rw [List.length_map]
          exact List.length_pos_of_mem (List.mem_filter.mpr ⟨List.mem_range.mpr hr0, decide_eq_true (by omega)⟩)
        · rw [List.length_map]
          have z := List.length_filter_le (fun (n : Nat) => decide ((lv.count (n : Int) : Int) < 7)) (List.range d)
          rw [List.length_range] at z
          omega
        · intro y bg hb hy
          obtain ⟨n, hn, rfl⟩ := List.mem_map.mp hy
          have hn' := List.mem_range.mp (List.mem_filter.mp hn).1
          refine ⟨_, rfl, by rw [List.length_map]; omega, ?_⟩
          rw [ints_app]
          refine ⟨bg, lv ++ [(n : Int)], _, _, hb, ?_, fun j j0 j1 => List.mem_append_left _ (h2 j j0 j1), by rw [List.length_append]; show lv.length + 1 = _; omega, rfl⟩
          intro l m
          rcases List.mem_append.mp m with m | m
          · exact h1 l m
          · obtain rfl := List.mem_singleton.mp m
            omega
    · rintro e ⟨bg, lv, x4, x6, hb, h1, h2, h3, rfl⟩
      exact ⟨bg, lv, _, _, hb, h1, h2, by omega, rfl⟩
  clear hb
  rintro e ⟨bg, lv, x4, x6, hb, h1, h2, h3, rfl⟩
  refine xs_cut (fun e => ∃ bg, ∃ lv : List Int, IsBag bg ∧ (∀ l ∈ lv, 0 ≤ l ∧ l < d) ∧ (∀ j : Int, 0 ≤ j → j < d → j ∈ lv) ∧ lv.length = many ∧ e = [some bg, some (.int many), some (.int d), some (.mls (lv.map D.int)), x4, none, x6, none, none, none]) ?_ ?_
  · refine xs_set (xe_shuffle rfl (xe_mov rfl ⟨bg, _, rfl, hb, rfl, own_ints lv, by rw [List.length_map]; omega, fun es bg hb hp => ?_⟩))
    obtain ⟨ys, rfl, hp2⟩ := perm_back hp
    clear hp
    have hp := hp2
    exact ⟨bg, ys, hb, fun l m => h1 l (hp.mem_iff.mp m), fun j j0 j1 => hp.mem_iff.mpr (h2 j j0 j1), by rw [hp.length_eq]; exact h3, rfl⟩
  clear hb h1 h2 h3 
  rintro e ⟨bg, lv, hb, h1, h2, h3, rfl⟩
  refine xs_seq (xs_set (xe_lst (xa_nil ⟨[], rfl, by decide, ?_⟩)))
  dsimp only [List.set]
  refine xs_cut (fun e => ∃ bg, ∃ sg : List (Int × Int), ∃ x4 x6 x7 x8 x9, IsBag bg ∧ (∀ s ∈ sg, 0 ≤ s.1 ∧ s.1 < lv.length ∧ 0 ≤ s.2 ∧ s.2 < lv.length ∧ gt lv s.2 = gt lv s.1 + 1) ∧ sg.length ≤ 700 ∧
      e = [some bg, some (.int many), some (.int d), some (.mls (lv.map D.int)), x4, some (.mls (sg.map pD)), x6, x7, x8, x9]) ?_ ?_
  · refine xs_for1 (xe_pk (by none_booked) rfl ⟨_, fun k e => ∃ bg, ∃ sg : List (Int × Int), ∃ x4 x6 x7 x8 x9, IsBag bg ∧ (∀ s ∈ sg, 0 ≤ s.1 ∧ s.1 < lv.length ∧ 0 ≤ s.2 ∧ s.2 < lv.length ∧ gt lv s.2 = gt lv s.1 + 1) ∧ sg.length ≤ 14 * k ∧
      e = [some bg, some (.int many), some (.int d), some (.mls (lv.map D.int)), x4, some (.mls (sg.map pD)), x6, x7, x8, x9], rfl, by omega, by omega,
      ⟨bg, [], _, _, _, _, _, hb, (by intro l m; cases m), by decide, rfl⟩, ?_, ?_⟩)
    · clear hb
      rintro k e hk ⟨bg, sg, x4, x6, x7, x8, x9, hb, s1, s2, rfl⟩
      refine gx_name (by decide) (show 6 < 10 by decide) ?_
      dsimp only [List.set]
      have hk1 : (k : Int) ∈ lv := h2 k (by omega) (by omega)
      have hk2 : (k : Int) + 1 ∈ lv := h2 (k + 1) (by omega) (by omega)
      have pkm : ∀ {e : DEnv}, e[1]? = some (some (.int many)) → Pk K (tVar 1) e (.int lv.length) := fun h => by rw [h3]; exact pk_var h
      refine xs_seq (xs_set (xe_frz (xe_places (lv := lv) (c := (k : Int)) rfl (show 9 < 10 by decide) (by decide) (by omega) (fun n hn => by none_booked) (pkm rfl) ⟨plD_noraw _ _, ?_⟩)))
      rw [plD_frz]
      dsimp only [List.set]
      refine xs_seq (xs_set (xe_frz (xe_places (lv := lv) (c := (k : Int) + 1) rfl (show 9 < 10 by decide) (by decide) (by omega) (fun n hn => by none_booked) (pkm rfl) ⟨plD_noraw _ _, ?_⟩)))
      rw [plD_frz]
      dsimp only [List.set]
      refine xs_for1 (xe_draw rfl hb (by none_booked) (by decide) (by decide) fun m bg hb m0 m1 => ⟨_, fun j e => ∃ bg, ∃ sg : List (Int × Int), ∃ x4, IsBag bg ∧ (∀ s ∈ sg, 0 ≤ s.1 ∧ s.1 < lv.length ∧ 0 ≤ s.2 ∧ s.2 < lv.length ∧ gt lv s.2 = gt lv s.1 + 1) ∧ sg.length ≤ 14 * k + j ∧
        e = [some bg, some (.int many), some (.int d), some (.mls (lv.map D.int)), x4, some (.mls (sg.map pD)), some (.int k), some (.lst (plD lv k)), some (.lst (plD lv (k + 1))), none], rfl, by omega, by omega,
        ⟨bg, sg, _, hb, s1, by omega, rfl⟩, ?_, ?_⟩)
      · clear hb s1 s2
        rintro j e hj ⟨bg, sg, x11, hb, s1, s2, rfl⟩
        refine gx_name (by decide) (show 4 < 10 by decide) ?_
        dsimp only [List.set]
        have p1 := plD_len lv k
        have p2 := plD_len lv (k + 1)
        refine xs_drop (xe_append rfl rfl (xe_tup (xa_val (xe_pick rfl (xe_pk (pk_var rfl) (lst_pure (plD_pure _ _)) ⟨bg, _, rfl, hb, rfl, plD_pure _ _, plD_pos hk1, by omega, fun d bg hb hd =>
          xa_val (xe_pick rfl (xe_pk (pk_var rfl) (lst_pure (plD_pure _ _)) ⟨bg, _, rfl, hb, rfl, plD_pure _ _, plD_pos hk2, by omega, fun d2 bg hb hd2 => xa_nil ⟨_, rfl, line2, _, rfl, ?_, ?_⟩⟩))⟩)))))
        · rw [List.length_map]
          omega
        · obtain ⟨a, rfl, a0, a1, a2⟩ := plD_mem hd
          obtain ⟨b, rfl, b0, b1, b2⟩ := plD_mem hd2
          dsimp only [List.set]
          refine ⟨bg, sg ++ [(a, b)], _, hb, ?_, by rw [List.length_append]; show sg.length + 1 ≤ _; omega, by rw [pairs_app]⟩
          intro s m
          rcases List.mem_append.mp m with m | m
          · exact s1 s m
          · obtain rfl := List.mem_singleton.mp m
            exact ⟨a0, a1, b0, b1, by show gt lv b = gt lv a + 1; rw [a2, b2]⟩
      · clear hb s1 s2
        rintro e ⟨bg, sg, x11, hb, s1, s2, rfl⟩
        exact ⟨bg, sg, _, _, _, _, _, hb, s1, by omega, rfl⟩
    · rintro e ⟨bg, sg, x4, x6, x7, x8, x9, hb, s1, s2, rfl⟩
      exact ⟨bg, sg, _, _, _, _, _, hb, s1, by omega, rfl⟩
  · clear hb
    rintro e ⟨bg, sg, x4, x6, x7, x8, x9, hb, s1, s2, rfl⟩
    refine xs_ret (xe_tup (xa_val (xe_tupleX (xe_mov rfl ⟨_, rfl, own_ints lv, xa_val (xe_tupleX (xe_shuffle rfl (xe_mov rfl ⟨bg, _, rfl, hb, rfl, own_pairs sg, by rw [List.length_map]; omega, fun es bg hb hp => ?_⟩)))⟩))))
    obtain ⟨ys, rfl, hp2⟩ := perm_back hp
    clear hp
    have hp := hp2
    refine ⟨_, rfl, own_pairs ys, xa_nil ⟨_, rfl, line2, ?_⟩⟩
    exact q ⟨lv, ys⟩ bg hb ⟨fun s m => s1 s (hp.mem_iff.mp m), by show lv.length ≤ 64; omega, fun l m => (h1 l m).1, by show ys.length ≤ 1000; rw [hp.length_eq]; omega⟩
end DL

set_option autoImplicit false
set_option linter.all false
namespace DL
open PySem L2
def t_law_renumbered (K : PySem.W.Frag) (S_law_draw S_law_shuffle : Spec) : TS :=
 (tSeq (tAsg (tLstRg (tRg1 (tCB (rLen2 K) (tCons (tVar 1) tNil)))) (gName 3))
 (tSeq (tIfS (tTest (tOp rEq (tCall (spOf K S_law_draw) [] E0 (tCons (tVar 0) (tCons (tC (.int 2)) tNil))) (tC (.int 0)))) (tAsg (tCall (spOf K S_law_shuffle) [] E0 (tCons (tVar 0) (tCons (tVar 3) tNil))) (gName 3)) tNext)
 (tSeq (tAsg (tCB (rMin K) (tCons (tVar 1) tNil)) (gName 4))
 (tSeq (tAsg (tOp rRep (tLst (tCons (tC (.int 0)) tNil)) (tCB (rLen2 K) (tCons (tVar 1) tNil))) (gName 5))
 (tSeq (tFor (iRng1 (tCons (tCB (rLen2 K) (tCons (tVar 1) tNil)) tNil)) (gName 6) (tAsg (tOp rSub2 (tOp (rIxL K) (tVar 1) (tVar 6)) (tVar 4)) (gSub (tVar 5) (tOp (rIxL K) (tVar 3) (tVar 6)) rSetL)))
 (tSeq (tAsg (tLst tNil) (gName 7))
 (tSeq (tFor (iList K (tVar 2)) (gName 8) (tSeq (tAsg (tCB (rSortedPO K) (tCons (tLst (tCons (tTup (tCons (tOp (rIxL K) (tVar 1) (tOp (rIxT K) (tVar 8) (tC (.int 0)))) (tCons (tOp (rIxL K) (tVar 3) (tOp (rIxT K) (tVar 8) (tC (.int 0)))) tNil))) (tCons (tTup (tCons (tOp (rIxL K) (tVar 1) (tOp (rIxT K) (tVar 8) (tC (.int 1)))) (tCons (tOp (rIxL K) (tVar 3) (tOp (rIxT K) (tVar 8) (tC (.int 1)))) tNil))) tNil))) tNil)) (gName 9))
 (tDrop (tBM K "list" rAppend (tVar 7) (tCons (tTup (tCons (tOp (rIxT K) (tOp (rIxL K) (tVar 9) (tC (.int 0))) (tC (.int 1))) (tCons (tOp (rIxT K) (tOp (rIxL K) (tVar 9) (tC (.int 1))) (tC (.int 1))) tNil))) tNil)))))
 (tRet (tTup (tCons (tCB (rTupOf K) (tCons (tVar 5) tNil)) (tCons (tCB (rTupOf K) (tCons (tVar 7) tNil)) tNil)))))))))))

/-- places and segments up or down, as they come -/
structure Raw (lv : List Int) (sg : List (Int × Int)) : Prop where
  ne : 0 < lv.length
  few : lv.length ≤ 64
  sgs : sg.length ≤ 1000
  seg : ∀ s ∈ sg, 0 ≤ s.1 ∧ s.1 < lv.length ∧ 0 ≤ s.2 ∧ s.2 < lv.length ∧ (gt lv s.2 = gt lv s.1 + 1 ∨ gt lv s.1 = gt lv s.2 + 1)
def S_law_renumbered : Spec := fun ads Q => ∃ (bg : D) (lv : List Int) (sg : List (Int × Int)), ads = [bg, .mls (lv.map D.int), .mls (sg.map pD)] ∧ IsBag bg ∧ Raw lv sg ∧ ∀ (n : Net) (bg' : D), IsBag bg' → n.Ok → Q n.dat [some bg', none, none]
theorem gt_set {α : Type} [Inhabited α] {xs : List α} {k : Nat} {v : α} {i : Int} (h0 : 0 ≤ i) (hk : k < xs.length) : gt (xs.set k v) i = if (k : Int) = i then v else gt xs i := by
  unfold gt
  by_cases h : (k : Int) = i
  · rw [if_pos h]
    have e : i.toNat = k := by omega
    rw [e, List.getElem?_set_self hk]
    rfl
  · rw [if_neg h, List.getElem?_set_ne (by omega)]
theorem gt_inj {α : Type} [Inhabited α] {xs : List α} (nd : xs.Nodup) {i j : Int} (i0 : 0 ≤ i) (i1 : i < xs.length) (j0 : 0 ≤ j) (j1 : j < xs.length) (h : gt xs i = gt xs j) : i = j := by
  have e1 := gt_get i0 i1
  have e2 := gt_get j0 j1
  rw [h, ← e2] at e1
  have := (List.getElem?_inj (by omega : i.toNat < xs.length) nd).mp e1
  omega
theorem two_perm {α : Type} {qs : List α} {x y : α} (h : qs.Perm [x, y]) : qs = [x, y] ∨ qs = [y, x] := by
  have hl := h.length_eq
  cases qs with
  | nil => cases hl
  | cons u qs =>
    cases qs with
    | nil => cases hl
    | cons v qs =>
      cases qs with
      | cons _ _ => cases hl
      | nil =>
        have hu : u ∈ [x, y] := h.mem_iff.mp List.mem_cons_self
        rcases List.mem_cons.mp hu with rfl | hu
        · have := List.perm_singleton.mp h.cons_inv
          left
          rw [this]
        · obtain rfl := List.mem_singleton.mp hu
          have := List.perm_singleton.mp (h.trans (.swap _ _ _)).cons_inv
          right
          rw [this]
theorem xs_law_renumbered {K : PySem.W.Frag} (ads : List D) (Q : D → List (Option D) → Prop) (h : S_law_renumbered ads Q) :
    XS K [0] (t_law_renumbered K S_law_draw S_law_shuffle) (ads.map some ++ List.replicate 7 none) { nx := fun e => Q .non (back [0] 3 e), rt := fun d e => Q d (back [0] 3 e) } := by
  obtain ⟨bg, lv, sg, rfl, hb, R, q⟩ := h
  have hs : sizeLine = 16777216 := sizeLine_eq
  have hne := R.ne
  have hfew := R.few
  show XS K [0] (t_law_renumbered K S_law_draw S_law_shuffle) [some bg, some (.mls (lv.map D.int)), some (.mls (sg.map pD)), none, none, none, none, none, none, none] _
  refine xs_seq (xs_set (xe_listRg (xe_pk (pk_lenM (f := D.int)) rfl ⟨lv.length, rfl, by omega, by omega, ?_⟩)))
  dsimp only [List.set]
  rw [Int.toNat_natCast]
  refine xs_cut (fun e => ∃ bg, ∃ fr : List Int, IsBag bg ∧ fr.length = lv.length ∧ fr.Nodup ∧ (∀ x ∈ fr, 0 ≤ x ∧ x < lv.length) ∧ e = [some bg, some (.mls (lv.map D.int)), some (.mls (sg.map pD)), some (.mls (fr.map D.int)), none, none, none, none, none, none]) ?_ ?_
  · have hr : ((List.range lv.length).map fun (i : Nat) => D.int (i : Int)) = ((List.range lv.length).map fun (i : Nat) => (i : Int)).map D.int := by rw [List.map_map]; rfl
    have f1 : ((List.range lv.length).map fun (i : Nat) => (i : Int)).length = lv.length := by rw [List.length_map, List.length_range]
    have f2 : ((List.range lv.length).map fun (i : Nat) => (i : Int)).Nodup := List.Pairwise.map _ (fun a b h => by omega) List.nodup_range
    have f3 : ∀ x ∈ (List.range lv.length).map fun (i : Nat) => (i : Int), 0 ≤ x ∧ x < lv.length := by
      intro x m
      obtain ⟨i, hi, rfl⟩ := List.mem_map.mp m
      have := List.mem_range.mp hi
      omega
    rw [hr]
    generalize ((List.range lv.length).map fun (i : Nat) => (i : Int)) = fr at f1 f2 f3
    refine xs_if (xt_test (xe_eqI (xe_draw rfl hb (by none_booked) (by decide) (by decide) fun z bg hb z0 z1 => ⟨z, rfl, xe_pk pk_int rfl ⟨_, rfl, _, rfl, ?_⟩⟩)))
    refine ⟨fun _ => ?_, fun _ => xs_next ⟨bg, fr, hb, f1, f2, f3, rfl⟩⟩
    refine xs_set (xe_shuffle rfl (xe_mov rfl ⟨bg, _, rfl, hb, rfl, own_ints fr, by rw [List.length_map]; omega, fun es bg hb hp => ?_⟩))
    obtain ⟨ys, rfl, hp2⟩ := perm_back hp
    exact ⟨bg, ys, hb, by rw [hp2.length_eq]; exact f1, hp2.nodup_iff.mpr f2, fun x m => f3 x (hp2.mem_iff.mp m), rfl⟩
  clear hb
  rintro e ⟨bg, fr, hb, f1, f2, f3, rfl⟩
  refine xs_seq (xs_set (xe_minL (ns := lv) (pk_var rfl) rfl hne fun least hl1 hl2 => ?_))
  dsimp only [List.set]
  refine xs_seq (xs_set (xe_rep (xe_lst (xa_pk (by none_booked) rfl (xa_nil ⟨_, rfl, line1, _, rfl, rfl, xe_pk (pk_lenM (f := D.int)) rfl ⟨lv.length, rfl, by omega, by omega, ?_, ?_⟩⟩)))))
  · show 1 * _ ≤ sizeLine
    omega
  dsimp only [List.set]
  rw [rep_one, Int.toNat_natCast]
  have hfr : ∀ j : Int, 0 ≤ j → j < lv.length → 0 ≤ gt fr j ∧ gt fr j < lv.length := fun j j0 j1 => f3 _ (gt_mem j0 (by omega))
  refine xs_cut (fun e => ∃ pl : List Int, ∃ x6, pl.length = lv.length ∧ (∀ l ∈ pl, 0 ≤ l) ∧ (∀ j : Int, 0 ≤ j → j < lv.length → gt pl (gt fr j) = gt lv j - least) ∧
      e = [some bg, some (.mls (lv.map D.int)), some (.mls (sg.map pD)), some (.mls (fr.map D.int)), some (.int least), some (.mls (pl.map D.int)), x6, none, none, none]) ?_ ?_
  · refine xs_for1 (xe_pk (pk_lenM (f := D.int)) rfl ⟨lv.length, fun k e => ∃ pl : List Int, ∃ x6, pl.length = lv.length ∧ (∀ l ∈ pl, 0 ≤ l) ∧ (∀ j : Int, 0 ≤ j → j < k → gt pl (gt fr j) = gt lv j - least) ∧
      e = [some bg, some (.mls (lv.map D.int)), some (.mls (sg.map pD)), some (.mls (fr.map D.int)), some (.int least), some (.mls (pl.map D.int)), x6, none, none, none], rfl, by omega, by omega,
      ⟨List.replicate lv.length 0, none, List.length_replicate, (fun l m => by rw [(List.mem_replicate.mp m).2]; decide), (by intro j j0 j1; omega), rfl⟩, ?_, ?_⟩)
    · rintro k e hk ⟨pl, x6, p1, p2, p3, rfl⟩
      refine gx_name (by decide) (show 6 < 10 by decide) ?_
      dsimp only [List.set]
      obtain ⟨g0, g1⟩ := hfr k (by omega) (by omega)
      refine xs_setL (xe_pk (by none_booked) rfl ⟨⟨_, rfl⟩, xe_pk (by none_booked) rfl ⟨gt fr k, pl.map D.int, (gt fr k).toNat, rfl, rfl, ixN_pos g0 (by rw [List.length_map]; omega), ?_⟩⟩)
      have em : gt lv k ∈ lv := gt_mem (by omega) (by omega)
      refine ⟨pl.set (gt fr k).toNat (gt lv k - least), _, by rw [List.length_set]; exact p1, ?_, ?_, by rw [List.map_set]; rfl⟩
      · intro l m
        rcases List.mem_or_eq_of_mem_set m with m | m
        · exact p2 l m
        · have := hl2 _ em
          omega
      · intro j j0 j1
        obtain ⟨h0, h1⟩ := hfr j j0 (by omega)
        rw [gt_set h0 (by omega)]
        by_cases hj : j = k
        · subst hj
          rw [if_pos (by omega)]
        · rw [if_neg, p3 j j0 (by omega)]
          intro z
          exact hj (gt_inj f2 j0 (by omega) (by omega) (by omega) (by omega))
    · rintro e ⟨pl, x6, p1, p2, p3, rfl⟩
      exact ⟨pl, x6, p1, p2, fun j j0 j1 => p3 j j0 (by omega), rfl⟩
  rintro e ⟨pl, x6, p1, p2, p3, rfl⟩
  refine xs_seq (xs_set (xe_lst (xa_nil ⟨[], rfl, by decide, ?_⟩)))
  dsimp only [List.set]
  refine xs_cut (fun e => ∃ rw : List (Int × Int), ∃ x2 x8 x9, (∀ s ∈ rw, 0 ≤ s.1 ∧ s.1 < pl.length ∧ 0 ≤ s.2 ∧ s.2 < pl.length ∧ gt pl s.2 = gt pl s.1 + 1) ∧ rw.length ≤ sg.length ∧
      e = [some bg, some (.mls (lv.map D.int)), x2, some (.mls (fr.map D.int)), some (.int least), some (.mls (pl.map D.int)), x6, some (.mls (rw.map pD)), x8, x9]) ?_ ?_
  · refine xs_forL (xe_mov rfl ⟨sg.map pD, fun k e => ∃ rw : List (Int × Int), ∃ x2 x8 x9, (∀ s ∈ rw, 0 ≤ s.1 ∧ s.1 < pl.length ∧ 0 ≤ s.2 ∧ s.2 < pl.length ∧ gt pl s.2 = gt pl s.1 + 1) ∧ rw.length = k ∧
      e = [some bg, some (.mls (lv.map D.int)), x2, some (.mls (fr.map D.int)), some (.int least), some (.mls (pl.map D.int)), x6, some (.mls (rw.map pD)), x8, x9], rfl, own_pairs sg,
      ⟨[], _, _, _, (by intro s m; cases m), rfl, rfl⟩, ?_, ?_⟩)
    · rintro k x e hx ⟨rw, x2, x8, x9, r1, r2, rfl⟩
      have hkl : k < sg.length := by
        have := (List.getElem?_eq_some_iff.mp hx).1
        rw [List.length_map] at this
        exact this
      obtain ⟨⟨a, b⟩, hs1, rfl⟩ : ∃ s, s ∈ sg ∧ x = pD s := by
        obtain ⟨s, m, e⟩ := List.mem_map.mp (List.mem_of_getElem? hx)
        exact ⟨s, m, e.symm⟩
      obtain ⟨a0, a1, b0, b1, hab⟩ := R.seg _ hs1
      dsimp only at a0 a1 b0 b1 hab
      refine gx_name (by decide) (show 8 < 10 by decide) ?_
      dsimp only [List.set]
      have A : gt pl (gt fr a) = gt lv a - least := p3 a a0 a1
      have Bb : gt pl (gt fr b) = gt lv b - least := p3 b b0 b1
      obtain ⟨fa0, fa1⟩ := hfr a a0 a1
      obtain ⟨fb0, fb1⟩ := hfr b b0 b1
      have rsz := R.sgs
      refine xs_seq (xs_set (xe_sortP (xe_lst (xa_val (xe_tup (xa_pk (by none_booked) rfl (xa_pk (by none_booked) rfl (xa_nil ⟨_, rfl, line2, xa_val (xe_tup (xa_pk (by none_booked) rfl (xa_pk (by none_booked) rfl (xa_nil ⟨_, rfl, line2, xa_nil ⟨_, rfl, line2,
        [(gt lv a, gt fr a), (gt lv b, gt fr b)], rfl, fun qs hp hw => ?_⟩⟩))))⟩))))))))
      have fin : ∀ u v : Int, 0 ≤ u → u < lv.length → 0 ≤ v → v < lv.length → gt pl v = gt pl u + 1 → ∀ x2 x8 x9 : Option D, ∃ rw' : List (Int × Int), ∃ x2' x8' x9' : Option D, (∀ s ∈ rw', 0 ≤ s.1 ∧ s.1 < pl.length ∧ 0 ≤ s.2 ∧ s.2 < pl.length ∧ gt pl s.2 = gt pl s.1 + 1) ∧ rw'.length = k + 1 ∧
          [some bg, some (D.mls (lv.map D.int)), x2, some (D.mls (fr.map D.int)), some (D.int least), some (D.mls (pl.map D.int)), x6, some (D.mls (rw.map pD ++ [pD (u, v)])), x8, x9] = [some bg, some (D.mls (lv.map D.int)), x2', some (D.mls (fr.map D.int)), some (D.int least), some (D.mls (pl.map D.int)), x6, some (D.mls (rw'.map pD)), x8', x9'] := by
        intro u v u0 u1 v0 v1 e x2 x8 x9
        refine ⟨rw ++ [(u, v)], x2, x8, x9, ?_, by rw [List.length_append, r2]; rfl, by rw [List.map_append]; rfl⟩
        intro s m
        rcases List.mem_append.mp m with m | m
        · exact r1 s m
        · obtain rfl := List.mem_singleton.mp m
          exact ⟨u0, by show u < _; omega, v0, by show v < _; omega, e⟩
      rcases two_perm hp with rfl | rfl
      · have hle := (List.pairwise_cons.mp hw).1 _ (List.mem_singleton.mpr rfl)
        unfold lexLe at hle
        dsimp only at hle
        refine xs_drop (xe_append rfl rfl (xe_tup (xa_pk (pk_ixT (pk_ixL (pk_var rfl) pk_int rfl rfl) pk_int rfl rfl) rfl (xa_pk (pk_ixT (pk_ixL (pk_var rfl) pk_int rfl rfl) pk_int rfl rfl) rfl (xa_nil ⟨_, rfl, line2, _, rfl, ?_, ?_⟩)))))
        · rw [List.length_map]
          omega
        · exact fin (gt fr a) (gt fr b) fa0 fa1 fb0 fb1 (by omega) _ _ _
      · have hle := (List.pairwise_cons.mp hw).1 _ (List.mem_singleton.mpr rfl)
        unfold lexLe at hle
        dsimp only at hle
        refine xs_drop (xe_append rfl rfl (xe_tup (xa_pk (pk_ixT (pk_ixL (pk_var rfl) pk_int rfl rfl) pk_int rfl rfl) rfl (xa_pk (pk_ixT (pk_ixL (pk_var rfl) pk_int rfl rfl) pk_int rfl rfl) rfl (xa_nil ⟨_, rfl, line2, _, rfl, ?_, ?_⟩)))))
        · rw [List.length_map]
          omega
        · exact fin (gt fr b) (gt fr a) fb0 fb1 fa0 fa1 (by omega) _ _ _
    · rintro e ⟨rw, x2, x8, x9, r1, r2, rfl⟩
      rw [List.length_map] at r2
      exact ⟨rw, _, _, _, r1, by omega, rfl⟩
  rintro e ⟨rw, x2, x8, x9, r1, r2, rfl⟩
  refine xs_ret (xe_tup (xa_val (xe_tupleX (xe_mov rfl ⟨_, rfl, own_ints pl, xa_val (xe_tupleX (xe_mov rfl ⟨_, rfl, own_pairs rw, xa_nil ⟨_, rfl, line2, ?_⟩⟩))⟩))))
  have rsz := R.sgs
  exact q ⟨pl, rw⟩ bg hb ⟨r1, by show pl.length ≤ 64; omega, p2, by show rw.length ≤ 1000; omega⟩
end DL

set_option autoImplicit false
set_option linter.all false
namespace DL
open PySem L2
def t_law_bent_net (K : PySem.W.Frag) (S_law_renumbered S_law_draw S_law_pick S_law_shuffle : Spec) : TS :=
 (tSeq (tAsg (tLst (tCons (tC (.int 0)) tNil)) (gName 1))
 (tSeq (tAsg (tLst tNil) (gName 2))
 (tSeq (tAsg (tCall (spOf K S_law_draw) [] E0 (tCons (tVar 0) (tCons (tC (.int 3)) tNil))) (gName 3))
 (tSeq (tAsg (tC (.int 13)) (gName 4))
 (tSeq (tIfS (tTest (tOp rEq (tVar 3) (tC (.int 0)))) (tSeq (tAsg (tC (.int 4)) (gName 4))
 (tSeq (tAsg (tOp rAdd2 (tC (.int 2)) (tCall (spOf K S_law_draw) [] E0 (tCons (tVar 0) (tCons (tC (.int 3)) tNil)))) (gName 5))
 (tSeq (tAsg (tCall (spOf K S_law_shuffle) [] E0 (tCons (tVar 0) (tCons (tOp rCat (tOp rRep (tLst (tCons (tC (.int 1)) tNil)) (tVar 5)) (tOp rRep (tLst (tCons (tUn rNeg (tC (.int 1))) tNil)) (tVar 5))) tNil))) (gName 6))
 (tSeq (tFor (iRng1 (tCons (tOp rSub2 (tOp rMul2 (tC (.int 2)) (tVar 5)) (tC (.int 1))) tNil)) (gName 7) (tSeq (tDrop (tBM K "list" rAppend (tVar 1) (tCons (tOp rAdd2 (tOp (rIxL K) (tVar 1) (tVar 7)) (tOp (rIxL K) (tVar 6) (tVar 7))) tNil)))
 (tDrop (tBM K "list" rAppend (tVar 2) (tCons (tTup (tCons (tVar 7) (tCons (tOp rAdd2 (tVar 7) (tC (.int 1))) tNil))) tNil)))))
 (tDrop (tBM K "list" rAppend (tVar 2) (tCons (tTup (tCons (tOp rSub2 (tOp rMul2 (tC (.int 2)) (tVar 5)) (tC (.int 1))) (tCons (tC (.int 0)) tNil))) tNil))))))) tNext)
 (tSeq (tIfS (tTest (tOp rEq (tVar 3) (tC (.int 1)))) (tSeq (tAsg (tC (.int 4)) (gName 4))
 (tFor (iRng1 (tCons (tC (.int 3)) tNil)) (gName 8) (tSeq (tAsg (tC (.int 0)) (gName 9))
 (tFor (iRng1 (tCons (tOp rAdd2 (tC (.int 2)) (tCall (spOf K S_law_draw) [] E0 (tCons (tVar 0) (tCons (tC (.int 2)) tNil)))) tNil)) (gName 7) (tSeq (tDrop (tBM K "list" rAppend (tVar 1) (tCons (tOp rSub2 (tOp rAdd2 (tOp (rIxL K) (tVar 1) (tVar 9)) (tC (.int 1))) (tOp rMul2 (tC (.int 2)) (tCall (spOf K S_law_draw) [] E0 (tCons (tVar 0) (tCons (tC (.int 2)) tNil))))) tNil)))
 (tSeq (tDrop (tBM K "list" rAppend (tVar 2) (tCons (tTup (tCons (tVar 9) (tCons (tOp rSub2 (tCB (rLen2 K) (tCons (tVar 1) tNil)) (tC (.int 1))) tNil))) tNil)))
 (tAsg (tOp rSub2 (tCB (rLen2 K) (tCons (tVar 1) tNil)) (tC (.int 1))) (gName 9)))))))) tNext)
 (tSeq (tFor (iRng1 (tCons (tCall (spOf K S_law_draw) [] E0 (tCons (tVar 0) (tCons (tVar 4) tNil))) tNil)) (gName 7) (tSeq (tAsg (tCall (spOf K S_law_draw) [] E0 (tCons (tVar 0) (tCons (tCB (rLen2 K) (tCons (tVar 1) tNil)) tNil))) (gName 9))
 (tSeq (tAsg (tOp rSub2 (tOp rAdd2 (tOp (rIxL K) (tVar 1) (tVar 9)) (tC (.int 1))) (tOp rMul2 (tC (.int 2)) (tCall (spOf K S_law_draw) [] E0 (tCons (tVar 0) (tCons (tC (.int 2)) tNil))))) (gName 10))
 (tSeq (tAsg (tLc (iRng1 (tCons (tCB (rLen2 K) (tCons (tVar 1) tNil)) tNil)) (gName 12) (tTest (tOp rEq (tOp (rIxL K) (tVar 1) (tVar 12)) (tVar 10))) (tVar 12) [12]) (gName 11))
 (tSeq (tIfS (tOr (tTest (tOp rEq (tCB (rLen2 K) (tCons (tVar 11) tNil)) (tC (.int 0)))) (tAnd (tTest (tOp rLt2 (tCB (rLen2 K) (tCons (tVar 11) tNil)) (tC (.int 7)))) (tTest (tOp rEq (tCall (spOf K S_law_draw) [] E0 (tCons (tVar 0) (tCons (tC (.int 2)) tNil))) (tC (.int 0)))))) (tSeq (tDrop (tBM K "list" rAppend (tVar 1) (tCons (tVar 10) tNil)))
 (tAsg (tLst (tCons (tOp rSub2 (tCB (rLen2 K) (tCons (tVar 1) tNil)) (tC (.int 1))) tNil)) (gName 11))) tNext)
 (tDrop (tBM K "list" rAppend (tVar 2) (tCons (tTup (tCons (tVar 9) (tCons (tCall (spOf K S_law_pick) [] E0 (tCons (tVar 0) (tCons (tVar 11) tNil))) tNil))) tNil))))))))
 (tRet (tCall (spOf K S_law_renumbered) [] E0 (tCons (tVar 0) (tCons (tVar 1) (tCons (tVar 2) tNil))))))))))))
def t_law_some_net (K : PySem.W.Frag) (S_law_net S_law_bent_net S_law_deep_net S_law_draw : Spec) : TS :=
 (tSeq (tAsg (tCall (spOf K S_law_draw) [] E0 (tCons (tVar 0) (tCons (tC (.int 8)) tNil))) (gName 1))
 (tSeq (tIfS (tTest (tOp rEq (tVar 1) (tC (.int 7)))) (tRet (tCall (spOf K S_law_deep_net) [] E0 (tCons (tVar 0) tNil))) tNext)
 (tSeq (tIfS (tTest (tOp rGt2 (tVar 1) (tC (.int 3)))) (tRet (tCall (spOf K S_law_bent_net) [] E0 (tCons (tVar 0) tNil))) tNext)
 (tRet (tCall (spOf K S_law_net) [] E0 (tCons (tVar 0) tNil))))))

theorem gt_app_l {α : Type} [Inhabited α] {xs ys : List α} {i : Int} (h0 : 0 ≤ i) (h1 : i < xs.length) : gt (xs ++ ys) i = gt xs i := by
  unfold gt
  rw [List.getElem?_append_left (by omega)]
theorem gt_app_r {α : Type} [Inhabited α] {xs : List α} {x : α} {i : Int} (h : i = xs.length) : gt (xs ++ [x]) i = x := by
  subst h
  unfold gt
  rw [Int.toNat_natCast, List.getElem?_append_right (Nat.le_refl _), Nat.sub_self]
  rfl
def SegOk (lv : List Int) (s : Int × Int) : Prop := 0 ≤ s.1 ∧ s.1 < lv.length ∧ 0 ≤ s.2 ∧ s.2 < lv.length ∧ (gt lv s.2 = gt lv s.1 + 1 ∨ gt lv s.1 = gt lv s.2 + 1)
theorem SegOk.app {lv : List Int} {s : Int × Int} (h : SegOk lv s) (x : Int) : SegOk (lv ++ [x]) s := by
  obtain ⟨h1, h2, h3, h4, h5⟩ := h
  have e : ((lv ++ [x]).length : Int) = lv.length + 1 := by rw [List.length_append]; rfl
  refine ⟨h1, by omega, h3, by omega, ?_⟩
  rw [gt_app_l h1 h2, gt_app_l h3 h4]
  exact h5
theorem SegOk.add {lv : List Int} {sg : List (Int × Int)} {s : Int × Int} (h : ∀ s ∈ sg, SegOk lv s) (k : SegOk lv s) : ∀ s' ∈ sg ++ [s], SegOk lv s' := by
  intro s' m
  rcases List.mem_append.mp m with m | m
  · exact h s' m
  · obtain rfl := List.mem_singleton.mp m
    exact k
def sm : List Int → Int
  | [] => 0
  | x :: xs => x + sm xs
theorem sm_app : ∀ xs ys : List Int, sm (xs ++ ys) = sm xs + sm ys
  | [], ys => by simp [sm]
  | x :: xs, ys => by
    show x + sm (xs ++ ys) = x + sm xs + sm ys
    rw [sm_app xs ys]
    omega
theorem sm_perm {xs ys : List Int} (h : xs.Perm ys) : sm xs = sm ys := by
  induction h with
  | nil => rfl
  | cons x _ ih => show x + _ = x + _; rw [ih]
  | swap x y l => show y + (x + _) = x + (y + _); omega
  | trans _ _ i1 i2 => rw [i1, i2]
theorem sm_rep (n : Nat) (x : Int) : sm (List.replicate n x) = n * x := by
  induction n with
  | zero => simp [sm]
  | succ n ih =>
    rw [List.replicate_succ]
    show x + sm (List.replicate n x) = _
    rw [ih]
    have : ((n + 1 : Nat) : Int) * x = (n : Int) * x + x := by rw [Int.natCast_add, Int.add_mul]; simp
    omega
theorem sm_take {xs : List Int} {k : Nat} (h : k < xs.length) : sm (xs.take (k + 1)) = sm (xs.take k) + gt xs k := by
  have e := gt_get (xs := xs) (i := (k : Int)) (by omega) (by omega)
  rw [Int.toNat_natCast] at e
  rw [List.take_add_one, e, sm_app]
  simp [sm]
theorem xs_law_bent_net {K : PySem.W.Frag} (ads : List D) (Q : D → List (Option D) → Prop) (h : S_gen ads Q) :
    XS K [0] (t_law_bent_net K S_law_renumbered S_law_draw S_law_pick S_law_shuffle) (ads.map some ++ List.replicate 12 none) { nx := fun e => Q .non (back [0] 1 e), rt := fun d e => Q d (back [0] 1 e) } := by
  obtain ⟨bg, rfl, hb, q⟩ := h
  have hs : sizeLine = 16777216 := sizeLine_eq
  show XS K [0] (t_law_bent_net K S_law_renumbered S_law_draw S_law_pick S_law_shuffle) [some bg, none, none, none, none, none, none, none, none, none, none, none, none] _
  refine xs_seq (xs_set (xe_lst (xa_pk pk_int rfl (xa_nil ⟨_, rfl, line1, ?_⟩))))
  refine xs_seq (xs_set (xe_lst (xa_nil ⟨[], rfl, by decide, ?_⟩)))
  refine xs_seq (xs_set (xe_draw rfl hb (by none_booked) (by decide) (by decide) fun kind bg hb k0 k1 => ?_))
  refine xs_seq (xs_set (xe_pk pk_int rfl ?_))
  dsimp only [List.set]
  refine xs_cut (fun e => ∃ bg, ∃ lv : List Int, ∃ sg : List (Int × Int), ∃ grow : Int, ∃ x5 x6 x7, IsBag bg ∧ 0 < lv.length ∧ lv.length ≤ 10 ∧ sg.length ≤ 10 ∧ (∀ s ∈ sg, SegOk lv s) ∧ 0 < grow ∧ grow ≤ 13 ∧ (kind = 1 → lv.length = 1 ∧ sg.length = 0) ∧
      e = [some bg, some (.mls (lv.map D.int)), some (.mls (sg.map pD)), some (.int kind), some (.int grow), x5, x6, x7, none, none, none, none, none]) ?_ ?_
  · refine xs_ifp (by none_booked) (fun hk0 => ?_) fun _ => xs_next ⟨bg, [0], [], 13, _, _, _, hb, by decide, by decide, by decide, (by intro s m; cases m), by decide, by decide, fun _ => ⟨rfl, rfl⟩, rfl⟩
    have hk0' : kind = 0 := of_decide_eq_true hk0
    refine xs_seq (xs_set (xe_pk pk_int rfl ?_))
    dsimp only [List.set]
    refine xs_cut (fun e => ∃ bg, ∃ m : Nat, IsBag bg ∧ 2 ≤ m ∧ m ≤ 4 ∧ e = [some bg, some (.mls [.int 0]), some (.mls []), some (.int kind), some (.int 4), some (.int m), none, none, none, none, none, none, none]) ?_ ?_
    · refine xs_set (xe_add (xe_pk pk_int rfl ⟨_, rfl, xe_draw rfl hb (by none_booked) (by decide) (by decide) fun d bg hb d0 d1 => ⟨_, rfl, ?_⟩⟩))
      refine ⟨bg, (2 + d).toNat, hb, by omega, by omega, ?_⟩
      rw [Int.toNat_of_nonneg (by omega)]
      rfl
    clear hb
    rintro e ⟨bg, m, hb, m2, m4, rfl⟩
    refine xs_cut (fun e => ∃ bg, ∃ tu : List Int, IsBag bg ∧ tu.length = 2 * m ∧ sm tu = 0 ∧ (∀ x ∈ tu, x = 1 ∨ x = -1) ∧ e = [some bg, some (.mls [.int 0]), some (.mls []), some (.int kind), some (.int 4), some (.int m), some (.mls (tu.map D.int)), none, none, none, none, none, none]) ?_ ?_
    · refine xs_set (xe_shuffle rfl (xe_cat (xe_rep (xe_lst (xa_pk pk_int rfl (xa_nil ⟨_, rfl, line1, _, rfl, rfl, xe_pk (by none_booked) rfl ⟨m, rfl, by omega, by omega, ?_, _, rfl,
        xe_rep (xe_lst (xa_pk (by none_booked) rfl (xa_nil ⟨_, rfl, line1, _, rfl, rfl, xe_pk (by none_booked) rfl ⟨m, rfl, by omega, by omega, ?_, _, rfl, ?_, ?_⟩⟩)))⟩⟩))))))
      · show 1 * _ ≤ sizeLine
        omega
      · show 1 * _ ≤ sizeLine
        omega
      · dsimp only
        rw [rep_one, rep_one, List.length_map, List.length_map, List.length_replicate, List.length_replicate]
        omega
      · dsimp only
        rw [rep_one, rep_one, ← List.map_append, Int.toNat_natCast]
        refine ⟨bg, _, rfl, hb, rfl, own_ints _, ?_, fun es bg hb hp => ?_⟩
        · rw [List.length_map, List.length_append, List.length_replicate, List.length_replicate]
          omega
        · obtain ⟨tu, rfl, hp2⟩ := perm_back hp
          clear hp
          have hp := hp2
          refine ⟨bg, tu, hb, ?_, ?_, ?_, rfl⟩
          · rw [hp.length_eq, List.length_append, List.length_replicate, List.length_replicate]
            omega
          · rw [sm_perm hp, sm_app, sm_rep, sm_rep]
            omega
          · intro x mx
            rcases List.mem_append.mp (hp.mem_iff.mp mx) with mx | mx
            · exact .inl (List.mem_replicate.mp mx).2
            · exact .inr (List.mem_replicate.mp mx).2
    clear hb
    rintro e ⟨bg, tu, hb, t1, t2, t3, rfl⟩
    have htu : ∀ j : Int, 0 ≤ j → j < tu.length → gt tu j = 1 ∨ gt tu j = -1 := fun j j0 j1 => t3 _ (gt_mem j0 j1)
    refine xs_cut (fun e => ∃ lv : List Int, ∃ sg : List (Int × Int), ∃ x7, lv.length = 2 * m ∧ gt lv 0 = 0 ∧ gt lv (2 * m - 1) = sm (tu.take (2 * m - 1)) ∧ (∀ s ∈ sg, SegOk lv s) ∧ sg.length = 2 * m - 1 ∧
        e = [some bg, some (.mls (lv.map D.int)), some (.mls (sg.map pD)), some (.int kind), some (.int 4), some (.int m), some (.mls (tu.map D.int)), x7, none, none, none, none, none]) ?_ ?_
    · refine xs_for1 (xe_pk (by none_booked) rfl ⟨_, fun k e => ∃ lv : List Int, ∃ sg : List (Int × Int), ∃ x7, lv.length = k + 1 ∧ gt lv 0 = 0 ∧ gt lv k = sm (tu.take k) ∧ (∀ s ∈ sg, SegOk lv s) ∧ sg.length = k ∧
        e = [some bg, some (.mls (lv.map D.int)), some (.mls (sg.map pD)), some (.int kind), some (.int 4), some (.int m), some (.mls (tu.map D.int)), x7, none, none, none, none, none], rfl, by omega, by omega,
        ⟨[0], [], _, rfl, rfl, rfl, (by intro s m; cases m), rfl, rfl⟩, ?_, ?_⟩)
      · rintro k e hk ⟨lv, sg, x7, l1, l2, l3, l4, l5, rfl⟩
        refine gx_name (by decide) (show 7 < 13 by decide) ?_
        dsimp only [List.set]
        have hk' : k < 2 * m - 1 := by omega
        have htk := htu k (by omega) (by omega)
        refine xs_seq (xs_drop (xe_append rfl rfl (xe_pk (by none_booked) rfl ⟨_, rfl, by rw [List.length_map]; omega, ?_⟩)))
        dsimp only [List.set]
        rw [ints_app]
        refine xs_drop (xe_append rfl rfl (xe_tup (xa_pk (by none_booked) rfl (xa_pk (by none_booked) rfl (xa_nil ⟨_, rfl, line2, _, rfl, by rw [List.length_map]; omega, ?_⟩)))))
        dsimp only [List.set]
        rw [pairs_app]
        have hc : ((lv.length : Nat) : Int) = (k : Int) + 1 := by omega
        have g1 : gt (lv ++ [gt lv k + gt tu k]) k = gt lv k := gt_app_l (by omega) (by omega)
        have g2 : gt (lv ++ [gt lv k + gt tu k]) (k + 1) = gt lv k + gt tu k := gt_app_r (by omega)
        refine ⟨_, _, _, by rw [List.length_append]; show lv.length + 1 = _; omega, by rw [gt_app_l (by decide) (by omega)]; exact l2, ?_, SegOk.add (fun s m => (l4 s m).app _) ?_, by rw [List.length_append]; show sg.length + 1 = _; omega, rfl⟩
        · rw [sm_take (by omega), ← l3]
          exact g2
        · refine ⟨by dsimp only; omega, ?_, by dsimp only; omega, ?_, ?_⟩
          · rw [List.length_append]
            show (k : Int) < ((lv.length + 1 : Nat) : Int)
            omega
          · rw [List.length_append]
            show (k : Int) + 1 < ((lv.length + 1 : Nat) : Int)
            omega
          · show gt (lv ++ [gt lv k + gt tu k]) (k + 1) = gt (lv ++ [gt lv k + gt tu k]) k + 1 ∨ gt (lv ++ [gt lv k + gt tu k]) k = gt (lv ++ [gt lv k + gt tu k]) (k + 1) + 1
            rw [g1, g2]
            omega
      · rintro e ⟨lv, sg, x7, l1, l2, l3, l4, l5, rfl⟩
        have e1 : (2 * (m : Int) - 1).toNat = 2 * m - 1 := by omega
        rw [e1] at l1 l3 l5
        have e2 : (((2 * m - 1 : Nat)) : Int) = 2 * (m : Int) - 1 := by omega
        rw [e2] at l3
        exact ⟨lv, sg, _, by omega, l2, l3, l4, l5, rfl⟩
    rintro e ⟨lv, sg, x7, l1, l2, l3, l4, l5, rfl⟩
    have hlast : sm (tu.take (2 * m - 1)) + gt tu ((2 * m - 1 : Nat) : Int) = 0 := by
      rw [← sm_take (by omega), List.take_of_length_le (by omega), t2]
    have e2 : (((2 * m - 1 : Nat)) : Int) = 2 * (m : Int) - 1 := by omega
    rw [e2] at hlast
    have htl := htu (2 * m - 1) (by omega) (by omega)
    refine xs_drop (xe_append rfl rfl (xe_tup (xa_pk (by none_booked) rfl (xa_pk (by none_booked) rfl (xa_nil ⟨_, rfl, line2, _, rfl, by rw [List.length_map]; omega, ?_⟩)))))
    dsimp only [List.set]
    rw [pairs_app]
    refine ⟨bg, lv, _, 4, _, _, _, hb, by omega, by omega, by rw [List.length_append]; show sg.length + 1 ≤ _; omega, SegOk.add l4 ⟨by dsimp only; omega, by dsimp only; omega, Int.le_refl 0, by dsimp only; omega, ?_⟩, by decide, by decide, fun z => absurd z (by omega), rfl⟩
    show gt lv 0 = gt lv (2 * (m : Int) - 1) + 1 ∨ gt lv (2 * (m : Int) - 1) = gt lv 0 + 1
    rw [l2, l3]
    omega
  clear hb
  rintro e ⟨bg, lv, sg, grow, x5, x6, x7, hb, l1, l2, l3, l4, g1, g2, hk1, rfl⟩
  refine xs_cut (fun e => ∃ bg, ∃ lv : List Int, ∃ sg : List (Int × Int), ∃ grow : Int, ∃ x7 x8 x9, IsBag bg ∧ 0 < lv.length ∧ lv.length ≤ 10 ∧ sg.length ≤ 10 ∧ (∀ s ∈ sg, SegOk lv s) ∧ 0 < grow ∧ grow ≤ 13 ∧
      e = [some bg, some (.mls (lv.map D.int)), some (.mls (sg.map pD)), some (.int kind), some (.int grow), x5, x6, x7, x8, x9, none, none, none]) ?_ ?_
  · refine xs_ifp (by none_booked) (fun hk0 => ?_) fun _ => xs_next ⟨bg, lv, sg, grow, _, _, _, hb, l1, l2, l3, l4, g1, g2, rfl⟩
    obtain ⟨hl1, hl2⟩ := hk1 (of_decide_eq_true hk0)
    refine xs_seq (xs_set (xe_pk pk_int rfl ?_))
    dsimp only [List.set]
    refine xs_for1 (xe_pk pk_int rfl ⟨3, fun k e => ∃ bg, ∃ lv : List Int, ∃ sg : List (Int × Int), ∃ x7 x8 x9, IsBag bg ∧ 0 < lv.length ∧ lv.length ≤ 1 + 3 * k ∧ sg.length ≤ 3 * k ∧ (∀ s ∈ sg, SegOk lv s) ∧
      e = [some bg, some (.mls (lv.map D.int)), some (.mls (sg.map pD)), some (.int kind), some (.int 4), x5, x6, x7, x8, x9, none, none, none], rfl, by decide, by decide,
      ⟨bg, lv, sg, _, _, _, hb, l1, by omega, by omega, l4, rfl⟩, ?_, ?_⟩)
    · clear hb l1 l2 l3 l4 hl1 hl2 hk1
      rintro k e hk ⟨bg, lv, sg, x7, x8, x9, hb, l1, l2, l3, l4, rfl⟩
      refine gx_name (by decide) (show 8 < 13 by decide) ?_
      dsimp only [List.set]
      refine xs_seq (xs_set (xe_pk pk_int rfl ?_))
      dsimp only [List.set]
      refine xs_for1 (xe_add (xe_pk pk_int rfl ⟨_, rfl, xe_draw rfl hb (by none_booked) (by decide) (by decide) fun d bg hb d0 d1 => ⟨_, rfl, _, fun j e => ∃ bg, ∃ lv : List Int, ∃ sg : List (Int × Int), ∃ x7, ∃ at_ : Int, IsBag bg ∧ 0 ≤ at_ ∧ at_ < lv.length ∧ lv.length ≤ 1 + 3 * k + j ∧ sg.length ≤ 3 * k + j ∧ (∀ s ∈ sg, SegOk lv s) ∧
        e = [some bg, some (.mls (lv.map D.int)), some (.mls (sg.map pD)), some (.int kind), some (.int 4), x5, x6, x7, some (.int k), some (.int at_), none, none, none], rfl, by omega, by omega,
        ⟨bg, lv, sg, _, 0, hb, by decide, by omega, by omega, by omega, l4, rfl⟩, ?_, ?_⟩⟩))
      · clear hb l1 l2 l3 l4
        rintro j e hj ⟨bg, lv, sg, x7, at_, hb, a0, a1, l2, l3, l4, rfl⟩
        refine gx_name (by decide) (show 7 < 13 by decide) ?_
        dsimp only [List.set]
        have hk3 : k < 3 := hk
        refine xs_seq (xs_drop (xe_append rfl rfl (xe_sub (xe_pk (by none_booked) rfl ⟨_, rfl, xe_mul (xe_pk pk_int rfl ⟨2, rfl, xe_draw rfl hb (by none_booked) (by decide) (by decide) fun z bg hb z0 z1 => ⟨_, rfl, by got_up, _, rfl, _, rfl, by rw [List.length_map]; omega, ?_⟩⟩)⟩))))
        dsimp only [List.set]
        rw [ints_app]
        have hx : gt lv at_ + 1 - 2 * z = gt lv at_ + 1 ∨ gt lv at_ = gt lv at_ + 1 - 2 * z + 1 := by omega
        generalize gt lv at_ + 1 - 2 * z = x at hx
        have hla : ((lv ++ [x]).length : Int) = lv.length + 1 := by rw [List.length_append]; rfl
        refine xs_seq (xs_drop (xe_append rfl rfl (xe_tup (xa_pk (by none_booked) rfl (xa_pk (pk_sub (pk_lenM (f := D.int) (h := rfl)) pk_int) rfl (xa_nil ⟨_, rfl, line2, _, rfl, by rw [List.length_map]; omega, ?_⟩))))))
        dsimp only [List.set]
        rw [pairs_app]
        refine xs_set (xe_pk (pk_sub (pk_lenM (f := D.int) (h := rfl)) pk_int) rfl ?_)
        dsimp only [List.set]
        refine ⟨bg, _, _, _, _, hb, by omega, by omega, by omega, by rw [List.length_append]; show sg.length + 1 ≤ _; omega, SegOk.add (fun s m => (l4 s m).app _) ⟨a0, by dsimp only; omega, by dsimp only; omega, by dsimp only; omega, ?_⟩, rfl⟩
        show gt (lv ++ [x]) ((lv ++ [x]).length - 1) = gt (lv ++ [x]) at_ + 1 ∨ gt (lv ++ [x]) at_ = gt (lv ++ [x]) ((lv ++ [x]).length - 1) + 1
        rw [gt_app_l a0 a1, gt_app_r (by omega)]
        exact hx
      · clear hb l1 l2 l3 l4
        rintro e ⟨bg, lv, sg, x7, at_, hb, a0, a1, l2, l3, l4, rfl⟩
        have hd : (2 + d).toNat ≤ 3 := by omega
        exact ⟨bg, lv, sg, _, _, _, hb, by omega, by omega, by omega, l4, rfl⟩
    · clear hb l1 l2 l3 l4 hl1 hl2 hk1
      rintro e ⟨bg, lv, sg, x7, x8, x9, hb, l1, l2, l3, l4, rfl⟩
      exact ⟨bg, lv, sg, 4, _, _, _, hb, l1, l2, by omega, l4, by decide, by decide, rfl⟩
  clear hb l1 l2 l3 l4 hk1 g1 g2
  rintro e ⟨bg, lv, sg, grow, x7, x8, x9, hb, l1, l2, l3, l4, g1, g2, rfl⟩
  refine xs_cut (fun e => ∃ bg, ∃ lv : List Int, ∃ sg : List (Int × Int), ∃ x7 x9 x10 x11 x12, IsBag bg ∧ 0 < lv.length ∧ lv.length ≤ 64 ∧ sg.length ≤ 64 ∧ (∀ s ∈ sg, SegOk lv s) ∧
      e = [some bg, some (.mls (lv.map D.int)), some (.mls (sg.map pD)), some (.int kind), some (.int grow), x5, x6, x7, x8, x9, x10, x11, x12]) ?_ ?_
  · refine xs_for1 (xe_draw rfl hb (by none_booked) g1 (by omega) fun d bg hb d0 d1 => ⟨_, fun j e => ∃ bg, ∃ lv : List Int, ∃ sg : List (Int × Int), ∃ x7 x9 x10 x11 x12, IsBag bg ∧ 0 < lv.length ∧ lv.length ≤ 10 + j ∧ sg.length ≤ 10 + j ∧ (∀ s ∈ sg, SegOk lv s) ∧
      e = [some bg, some (.mls (lv.map D.int)), some (.mls (sg.map pD)), some (.int kind), some (.int grow), x5, x6, x7, x8, x9, x10, x11, x12], rfl, by omega, by omega,
      ⟨bg, lv, sg, _, _, _, _, _, hb, l1, by omega, by omega, l4, rfl⟩, ?_, ?_⟩)
    · clear hb l1 l2 l3 l4
      rintro j e hj ⟨bg, lv, sg, x7, x9, x10, x11, x12, hb, l1, l2, l3, l4, rfl⟩
      have hj13 : j < 13 := by omega
      refine gx_name (by decide) (show 7 < 13 by decide) ?_
      dsimp only [List.set]
      refine xs_seq (xs_set (xe_draw rfl hb (pk_lenM (f := D.int) (h := rfl)) (by omega) (by omega) fun at_ bg hb a0 a1 => ?_))
      dsimp only [List.set]
      refine xs_seq (xs_set (xe_sub (xe_pk (by none_booked) rfl ⟨_, rfl, xe_mul (xe_pk pk_int rfl ⟨2, rfl, xe_draw rfl hb (by none_booked) (by decide) (by decide) fun z bg hb z0 z1 => ⟨_, rfl, by got_up, _, rfl, ?_⟩⟩)⟩)))
      dsimp only [List.set]
      have hx : gt lv at_ + 1 - 2 * z = gt lv at_ + 1 ∨ gt lv at_ = gt lv at_ + 1 - 2 * z + 1 := by omega
      generalize gt lv at_ + 1 - 2 * z = r at hx
      refine xs_seq (xs_set (xe_frz (xe_places (lv := lv) (c := r) rfl (show 12 < 13 by decide) (by decide) (by omega) (fun n hn => by none_booked) (pk_lenM (f := D.int) (h := rfl)) ⟨plD_noraw _ _, ?_⟩)))
      rw [plD_frz]
      dsimp only [List.set]
      have pll := plD_len lv r
      refine xs_cut (fun e => ∃ bg, ∃ lv2 : List Int, ∃ ds : List D, IsBag bg ∧ 0 < lv2.length ∧ lv2.length ≤ 10 + (j + 1) ∧ pureL ds = true ∧ 0 < ds.length ∧ ds.length ≤ 100 ∧ (∀ s ∈ sg, SegOk lv2 s) ∧ 0 ≤ at_ ∧ at_ < lv2.length ∧ gt lv2 at_ = gt lv at_ ∧ (∀ d ∈ ds, ∃ p : Int, d = .int p ∧ 0 ≤ p ∧ p < lv2.length ∧ gt lv2 p = r) ∧
          e = [some bg, some (.mls (lv2.map D.int)), some (.mls (sg.map pD)), some (.int kind), some (.int grow), x5, x6, some (.int j), x8, some (.int at_), some (.int r), some (.lst ds), none]) ?_ ?_
      · have body : ∀ bg, IsBag bg → XS K [0] (tSeq (tDrop (tBM K "list" rAppend (tVar 1) (tCons (tVar 10) tNil))) (tAsg (tLst (tCons (tOp rSub2 (tCB (rLen2 K) (tCons (tVar 1) tNil)) (tC (.int 1))) tNil)) (gName 11)))
            [some bg, some (.mls (lv.map D.int)), some (.mls (sg.map pD)), some (.int kind), some (.int grow), x5, x6, some (.int j), x8, some (.int at_), some (.int r), some (.lst (plD lv r)), none]
            ⟨fun e => ∃ bg, ∃ lv2 : List Int, ∃ ds : List D, IsBag bg ∧ 0 < lv2.length ∧ lv2.length ≤ 10 + (j + 1) ∧ pureL ds = true ∧ 0 < ds.length ∧ ds.length ≤ 100 ∧ (∀ s ∈ sg, SegOk lv2 s) ∧ 0 ≤ at_ ∧ at_ < lv2.length ∧ gt lv2 at_ = gt lv at_ ∧ (∀ d ∈ ds, ∃ p : Int, d = .int p ∧ 0 ≤ p ∧ p < lv2.length ∧ gt lv2 p = r) ∧
              e = [some bg, some (.mls (lv2.map D.int)), some (.mls (sg.map pD)), some (.int kind), some (.int grow), x5, x6, some (.int j), x8, some (.int at_), some (.int r), some (.lst ds), none], fun _ _ => False, fun _ => False, fun _ => False⟩ := by
          intro bg hb
          refine xs_seq (xs_drop (xe_append rfl rfl (xe_pk (by none_booked) rfl ⟨_, rfl, by rw [List.length_map]; omega, ?_⟩)))
          dsimp only [List.set]
          rw [ints_app]
          refine xs_set (xe_frz (xe_lst (xa_pk (pk_sub (pk_lenM (f := D.int) (h := rfl)) pk_int) rfl (xa_nil ⟨_, rfl, line1, rfl, ?_⟩))))
          have hla : ((lv ++ [r]).length : Int) = lv.length + 1 := by rw [List.length_append]; rfl
          refine ⟨bg, lv ++ [r], [.int ((lv ++ [r]).length - 1)], hb, by omega, by omega, rfl, Nat.zero_lt_one, (show 1 ≤ 100 by decide), fun s m => (l4 s m).app _, a0, by omega, gt_app_l a0 a1, ?_, rfl⟩
          intro d hd
          obtain rfl := List.mem_singleton.mp hd
          exact ⟨_, rfl, by omega, by omega, gt_app_r (by omega)⟩
        have stay : ∀ bg, IsBag bg → 0 < (plD lv r).length → ∃ bg' : D, ∃ lv2 : List Int, ∃ ds : List D, IsBag bg' ∧ 0 < lv2.length ∧ lv2.length ≤ 10 + (j + 1) ∧ pureL ds = true ∧ 0 < ds.length ∧ ds.length ≤ 100 ∧ (∀ s ∈ sg, SegOk lv2 s) ∧ 0 ≤ at_ ∧ at_ < lv2.length ∧ gt lv2 at_ = gt lv at_ ∧ (∀ d ∈ ds, ∃ p : Int, d = .int p ∧ 0 ≤ p ∧ p < lv2.length ∧ gt lv2 p = r) ∧
              [some bg, some (D.mls (lv.map D.int)), some (.mls (sg.map pD)), some (.int kind), some (.int grow), x5, x6, some (.int j), x8, some (.int at_), some (.int r), some (.lst (plD lv r)), none] = [some bg', some (.mls (lv2.map D.int)), some (.mls (sg.map pD)), some (.int kind), some (.int grow), x5, x6, some (.int j), x8, some (.int at_), some (.int r), some (.lst ds), none] :=
          fun bg hb hp => ⟨bg, lv, plD lv r, hb, l1, by omega, plD_pure _ _, hp, by omega, l4, a0, a1, rfl, fun d hd => plD_mem hd, rfl⟩
        refine xs_if (xt_or (xt_pk (by none_booked) ⟨fun h => ?_, fun h => xt_and (xt_pk (by none_booked) ⟨fun h2 => xt_test (xe_eqI (xe_draw rfl hb (by none_booked) (by decide) (by decide) fun z bg hb z0 z1 => ⟨z, rfl, xe_pk pk_int rfl ⟨_, rfl, _, rfl, ?_⟩⟩)), fun h2 => ?_⟩)⟩))
        · exact ⟨fun _ => (body bg hb).imp (fun _ h => h) (fun _ _ h => h.elim) (fun _ h => h.elim) fun _ h => h.elim, fun z => nomatch z⟩
        · have hne := of_decide_eq_false h
          refine ⟨fun _ => (body bg hb).imp (fun _ h => h) (fun _ _ h => h.elim) (fun _ h => h.elim) fun _ h => h.elim, fun _ => xs_next (stay bg hb ?_)⟩
          omega
        · have hne := of_decide_eq_false h
          refine ⟨(fun z => nomatch z), fun _ => xs_next (stay bg hb ?_)⟩
          omega
      clear hb l1 l2 l4
      rintro e ⟨bg, lv2, ds, hb, l1, l2, p1, p2, p3, l4, a0, a1, ea, hds, rfl⟩
      refine xs_drop (xe_append rfl rfl (xe_tup (xa_pk (by none_booked) rfl (xa_val (xe_pick rfl (xe_pk (pk_var rfl) (lst_pure p1) ⟨bg, _, rfl, hb, rfl, p1, p2, by omega, fun d bg hb hd => xa_nil ⟨_, rfl, line2, _, rfl, by rw [List.length_map]; omega, ?_⟩⟩))))))
      obtain ⟨p, rfl, q0, q1, q2⟩ := hds d hd
      dsimp only [List.set]
      rw [pairs_app]
      refine ⟨bg, lv2, _, _, _, _, _, _, hb, l1, l2, by rw [List.length_append]; show sg.length + 1 ≤ _; omega, SegOk.add l4 ⟨a0, a1, q0, q1, ?_⟩, rfl⟩
      show gt lv2 p = gt lv2 at_ + 1 ∨ gt lv2 at_ = gt lv2 p + 1
      rw [q2, ea]
      exact hx
    · clear hb l1 l2 l3 l4
      rintro e ⟨bg, lv, sg, x7, x9, x10, x11, x12, hb, l1, l2, l3, l4, rfl⟩
      exact ⟨bg, lv, sg, _, _, _, _, _, hb, l1, by omega, by omega, l4, rfl⟩
  clear hb l1 l2 l3 l4
  rintro e ⟨bg, lv, sg, x7, x9, x10, x11, x12, hb, l1, l2, l3, l4, rfl⟩
  refine xs_ret (xe_call (xa_bor rfl (xa_val (xe_mov rfl (xa_val (xe_mov rfl (xa_nil ⟨_, _, rfl, bg, lv, sg, rfl, hb, ⟨l1, l2, by omega, l4⟩, fun n bg hb hn => ?_⟩)))))))
  exact q n bg hb hn
section
variable {K : PySem.W.Frag} {env : DEnv} {Q : D → DEnv → Prop} {i : Nat} {bg : D}
theorem xe_gen (hi : env[i]? = some (some bg)) (hb : IsBag bg) (q : ∀ n bg', IsBag bg' → Net.Ok n → Q n.dat (env.set i (some bg'))) :
    XE K (tCall (spOf K S_gen) [] E0 (tCons (tVar i) tNil)) env Q := by
  refine xe_call (xa_bor hi (xa_nil ⟨[bg], env.set i none, ?_, bg, rfl, hb, fun n bg' hb' hn => ?_⟩))
  · show (match env[i]? with
      | some (some d) => _
      | _ => _) = _
    rw [hi]
    rfl
  · show Q n.dat ((env.set i none).set i (some bg'))
    rw [set_back]
    exact q n bg' hb' hn
end
theorem xs_law_some_net {K : PySem.W.Frag} (ads : List D) (Q : D → List (Option D) → Prop) (h : S_gen ads Q) :
    XS K [0] (t_law_some_net K S_gen S_gen S_gen S_law_draw) (ads.map some ++ List.replicate 1 none) { nx := fun e => Q .non (back [0] 1 e), rt := fun d e => Q d (back [0] 1 e) } := by
  obtain ⟨bg, rfl, hb, q⟩ := h
  show XS K [0] (t_law_some_net K S_gen S_gen S_gen S_law_draw) [some bg, none] _
  refine xs_seq (xs_set (xe_draw rfl hb (by none_booked) (by decide) (by decide) fun kind bg hb k0 k1 => ?_))
  refine xs_seq (xs_ifp (by none_booked) (fun _ => xs_ret (xe_gen rfl hb fun n bg hb hn => q n bg hb hn)) fun _ => xs_next ?_)
  refine xs_seq (xs_ifp (by none_booked) (fun _ => xs_ret (xe_gen rfl hb fun n bg hb hn => q n bg hb hn)) fun _ => xs_next ?_)
  exact xs_ret (xe_gen rfl hb fun n bg hb hn => q n bg hb hn)
end DL

set_option autoImplicit false
set_option linter.all false
namespace DL
open PySem L2
def t_law_bag (K : PySem.W.Frag) : TS :=
 (tRet (tLst (tCons (tLc (iList K (tVar 0)) (gName 1) tYes (tCB rAbs (tCons (tCB rInt1 (tCons (tVar 1) tNil)) tNil)) [1]) (tCons (tC (.int 0)) (tCons (tC (.int 0)) (tCons (tC (.int 0)) (tCons (tC (.int 0)) (tCons (tC (.int 0)) tNil))))))))
def t_joints (K : PySem.W.Frag) : TS :=
 (tSeq (tAsg (tVar 0) (gTup K 2 (gCons (gName 1) (gCons (gName 2) gNil))))
 (tSeq (tAsg (tLc (iTup K (tVar 1)) (gName 7) tYes (tLst tNil) [7]) (gName 3))
 (tSeq (tAsg (tLc (iTup K (tVar 1)) (gName 7) tYes (tLst tNil) [7]) (gName 4))
 (tSeq (tFor (iTup K (tVar 2)) (gTup K 2 (gCons (gName 5) (gCons (gName 6) gNil))) (tIfS (tTest (tOp (rIn K true) (tVar 6) (tOp (rIxL K) (tVar 4) (tVar 5)))) (tSeq (tDrop (tBM K "list" rAppend (tOp (rIxL K) (tVar 4) (tVar 5)) (tCons (tVar 6) tNil)))
 (tDrop (tBM K "list" rAppend (tOp (rIxL K) (tVar 3) (tVar 6)) (tCons (tVar 5) tNil)))) tNext))
 (tRet (Lzp.tLstZip K (tCons (tVar 3) (tCons (tVar 4) tNil))))))))
def t_turned_about (K : PySem.W.Frag) : TS :=
 (tRet (tTup (tCons (tOp (rIxT K) (tVar 0) (tC (.int 1))) (tCons (tOp (rIxT K) (tVar 0) (tC (.int 0))) tNil))))
def t_reached (K : PySem.W.Frag) : TS :=
 (tSeq (tAsg (tVar 1) (gTup K 2 (gCons (gName 2) (gCons (gName 3) gNil))))
 (tSeq (tAsg (tLst tNil) (gName 4))
 (tSeq (tFor (iTup K (tTup (tCons (tC (.int 0)) (tCons (tC (.int 1)) tNil)))) (gName 5) (tFor (iList K (tOp (rIxT K) (tOp (rIxL K) (tVar 0) (tVar 2)) (tVar 5))) (gName 6) (tFor (iList K (tOp (rIxT K) (tOp (rIxL K) (tVar 0) (tVar 3)) (tVar 5))) (gName 7) (tIfS (tTest (tOp rNe (tVar 6) (tVar 7))) (tDrop (tBM K "list" rAppend (tVar 4) (tCons (tTup (tCons (tVar 6) (tCons (tVar 7) tNil))) tNil))) tNext))))
 (tRet (tCB (rSortedPO K) (tCons (tVar 4) tNil))))))
def t_law_near (K : PySem.W.Frag) : TS :=
 (tSeq (tAsg (tLc (iTup K (tOp (rIxT K) (tVar 0) (tC (.int 0)))) (gName 4) tYes (tLst tNil) [4]) (gName 1))
 (tSeq (tAsg (tLc (iTup K (tOp (rIxT K) (tVar 0) (tC (.int 0)))) (gName 4) tYes (tLst tNil) [4]) (gName 2))
 (tSeq (tFor (iTup K (tOp (rIxT K) (tVar 0) (tC (.int 1)))) (gName 3) (tSeq (tIfS (tTest (tOp (rIn K true) (tOp (rIxT K) (tVar 3) (tC (.int 1))) (tOp (rIxL K) (tVar 2) (tOp (rIxT K) (tVar 3) (tC (.int 0)))))) (tDrop (tBM K "list" rAppend (tOp (rIxL K) (tVar 2) (tOp (rIxT K) (tVar 3) (tC (.int 0)))) (tCons (tOp (rIxT K) (tVar 3) (tC (.int 1))) tNil))) tNext)
 (tIfS (tTest (tOp (rIn K true) (tOp (rIxT K) (tVar 3) (tC (.int 0))) (tOp (rIxL K) (tVar 1) (tOp (rIxT K) (tVar 3) (tC (.int 1)))))) (tDrop (tBM K "list" rAppend (tOp (rIxL K) (tVar 1) (tOp (rIxT K) (tVar 3) (tC (.int 1)))) (tCons (tOp (rIxT K) (tVar 3) (tC (.int 0))) tNil))) tNext)))
 (tRet (tLst (tCons (tVar 1) (tCons (tVar 2) tNil)))))))
def t_law_steps (K : PySem.W.Frag) : TS :=
 (tSeq (tAsg (tLst tNil) (gName 2))
 (tSeq (tFor (iList K (tVar 0)) (gName 3) (tFor (iList K (tOp (rIxL K) (tVar 3) (tOp (rIxT K) (tVar 1) (tC (.int 0))))) (gName 4) (tFor (iList K (tOp (rIxL K) (tVar 3) (tOp (rIxT K) (tVar 1) (tC (.int 1))))) (gName 5) (tIfS (tTest (tOp rNe (tVar 4) (tVar 5))) (tDrop (tBM K "list" rAppend (tVar 2) (tCons (tTup (tCons (tVar 4) (tCons (tVar 5) tNil))) tNil))) tNext))))
 (tRet (tCB (rSortedPO K) (tCons (tVar 2) tNil)))))
/-! ### plain facts -/
theorem nodup_sub {α : Type} [DecidableEq α] : ∀ (xs ys : List α), xs.Nodup → (∀ x ∈ xs, x ∈ ys) → xs.length ≤ ys.length
  | [], _, _, _ => Nat.zero_le _
  | x :: xs, ys, nd, h => by
    have nd' := List.nodup_cons.mp nd
    have hx := h x List.mem_cons_self
    have ih := nodup_sub xs (ys.erase x) nd'.2 fun z m => by
      have hz : z ≠ x := fun e => nd'.1 (by rw [← e]; exact m)
      exact (List.mem_erase_of_ne hz).mpr (h z (List.mem_cons_of_mem _ m))
    rw [List.length_erase_of_mem hx] at ih
    have := List.length_pos_of_mem hx
    rw [List.length_cons]
    omega
theorem nodup_few {xs : List Int} {n : Nat} (nd : xs.Nodup) (h : ∀ x ∈ xs, 0 ≤ x ∧ x < n) : xs.length ≤ n := by
  have := nodup_sub xs ((List.range n).map fun (i : Nat) => (i : Int)) nd fun x m => by
    obtain ⟨h0, h1⟩ := h x m
    exact List.mem_map.mpr ⟨x.toNat, List.mem_range.mpr (by omega), by omega⟩
  rw [List.length_map, List.length_range] at this
  exact this
/-- hs: for each place the second ends of the pairs that begin there -/
structure Sd (P : List (Int × Int)) (hs : List (List Int)) (n : Nat) : Prop where
  len : hs.length = n
  nd : ∀ p : Int, 0 ≤ p → p < n → (gt hs p).Nodup
  mem : ∀ p : Int, 0 ≤ p → p < n → ∀ q, q ∈ gt hs p ↔ (p, q) ∈ P
theorem Sd.nil (n : Nat) : Sd [] (List.replicate n []) n := by
  have e : ∀ p : Int, 0 ≤ p → p < n → gt (List.replicate n ([] : List Int)) p = [] := fun p h0 h1 => by
    have := gt_mem (xs := List.replicate n ([] : List Int)) h0 (by rw [List.length_replicate]; exact h1)
    exact (List.mem_replicate.mp this).2
  refine ⟨List.length_replicate, fun p h0 h1 => ?_, fun p h0 h1 q => ?_⟩
  · rw [e p h0 h1]; exact List.nodup_nil
  · rw [e p h0 h1]
    constructor
    · intro h; cases h
    · intro h; cases h
theorem Sd.same {P : List (Int × Int)} {hs : List (List Int)} {n : Nat} {u l : Int} (h : Sd P hs n) (m : (u, l) ∈ P) : Sd (P ++ [(u, l)]) hs n := by
  refine ⟨h.len, h.nd, fun p h0 h1 q => ?_⟩
  rw [h.mem p h0 h1 q, List.mem_append]
  constructor
  · exact .inl
  · rintro (k | k)
    · exact k
    · rw [List.mem_singleton.mp k]; exact m
theorem Sd.add {P : List (Int × Int)} {hs : List (List Int)} {n : Nat} {u l : Int} (h : Sd P hs n) (u0 : 0 ≤ u) (u1 : u < n) (hl : l ∉ gt hs u) : Sd (P ++ [(u, l)]) (hs.set u.toNat (gt hs u ++ [l])) n := by
  have hlen := h.len
  have hk : u.toNat < hs.length := by omega
  refine ⟨by rw [List.length_set]; exact hlen, fun p h0 h1 => ?_, fun p h0 h1 q => ?_⟩
  · rw [gt_set h0 hk]
    by_cases hp : ((u.toNat : Nat) : Int) = p
    · rw [if_pos hp]
      refine List.nodup_append.mpr ⟨h.nd u u0 u1, List.nodup_cons.mpr ⟨(by intro h; cases h), List.nodup_nil⟩, fun a ha b hb e => ?_⟩
      rw [List.mem_singleton.mp hb] at e
      exact hl (e ▸ ha)
    · rw [if_neg hp]
      exact h.nd p h0 h1
  · rw [gt_set h0 hk, List.mem_append, List.mem_singleton]
    by_cases hp : ((u.toNat : Nat) : Int) = p
    · have e : p = u := by omega
      subst e
      rw [if_pos hp, List.mem_append, List.mem_singleton, h.mem p h0 h1 q]
      constructor
      · rintro (k | k)
        · exact .inl k
        · exact .inr (by rw [k])
      · rintro (k | k)
        · exact .inl k
        · exact .inr (by injection k)
    · rw [if_neg hp, h.mem p h0 h1 q]
      constructor
      · exact .inl
      · rintro (k | k)
        · exact k
        · injection k with k1 k2
          exact absurd (by omega) hp
theorem mem_swap {P : List (Int × Int)} {a b : Int} : (a, b) ∈ P.map Prod.swap ↔ (b, a) ∈ P := by
  rw [List.mem_map]
  constructor
  · rintro ⟨⟨c, d⟩, m, e⟩
    injection e with e1 e2
    rw [← e1, ← e2]
    exact m
  · intro m
    exact ⟨(b, a), m, rfl⟩
theorem Sd.few {P : List (Int × Int)} {hs : List (List Int)} {n : Nat} (h : Sd P hs n) (hP : ∀ s ∈ P, 0 ≤ s.2 ∧ s.2 < n) {p : Int} (h0 : 0 ≤ p) (h1 : p < n) : (gt hs p).length ≤ n :=
  nodup_few (h.nd p h0 h1) fun q m => hP _ ((h.mem p h0 h1 q).mp m)
/-! ### the bag of a script -/
abbrev LM (l : List Int) : D := .mls (l.map D.int)
abbrev LL (l : List Int) : D := .lst (l.map D.int)
def S_law_bag : Spec := fun ads Q => ∃ (t : D) (ns : List Int), ads = [t] ∧ t.isL = some (ns.map D.int) ∧ t.pure = true ∧ ns.length ≤ 16777216 ∧ ∀ bg : D, IsBag bg → Q bg [none]
theorem xs_law_bag {K : PySem.W.Frag} (ads : List D) (Q : D → List (Option D) → Prop) (h : S_law_bag ads Q) :
    XS K [] (t_law_bag K) (ads.map some ++ List.replicate 1 none) { nx := fun e => Q .non (back [] 1 e), rt := fun d e => Q d (back [] 1 e) } := by
  obtain ⟨t, ns, rfl, ht, hp, hz, q⟩ := h
  have hs : sizeLine = 16777216 := sizeLine_eq
  show XS K [] (t_law_bag K) [some t, none] _
  let g : D → D := fun d => match d with | .int i => .int (if i < 0 then -i else i) | d => d
  have hg : (ns.map D.int).map g = (ns.map fun i => if i < 0 then -i else i).map D.int := by
    rw [List.map_map, List.map_map]; rfl
  refine xs_ret (xe_lst (xa_val (xe_frz (xe_lcL_pk (xe_pk (pk_var rfl) hp ⟨ns.map D.int, fun _ => true, g, ht, own_ints ns, by rw [List.length_map]; omega, by decide, show 1 < 2 by decide, fun x hx => pkt_yes, fun x hx _ => ?_, ?_⟩)))))
  · obtain ⟨i, _, rfl⟩ := List.mem_map.mp hx
    exact ⟨by none_booked, rfl⟩
  · rw [List.filter_eq_self.mpr (fun _ _ => rfl), hg]
    refine ⟨by rw [D.noraw]; exact pureL_noraw (own_ints _), ?_⟩
    rw [D.frz, frzL_id (own_ints _)]
    refine xa_pk pk_int rfl (xa_pk pk_int rfl (xa_pk pk_int rfl (xa_pk pk_int rfl (xa_pk pk_int rfl (xa_nil ⟨_, rfl, line6, ?_⟩)))))
    refine q _ ⟨⟨ns.map fun i => if i < 0 then -i else i, 0, 0, 0, 0, 0⟩, ⟨?_, Int.le_refl 0, Int.le_refl 0, Int.le_refl 0, (show (0 : Int) < 1000000007 by decide), Int.le_refl 0, Int.le_refl 0⟩, rfl⟩
    intro c hc
    obtain ⟨i, _, rfl⟩ := List.mem_map.mp hc
    show 0 ≤ if i < 0 then -i else i
    split <;> omega
section
variable {K : PySem.W.Frag} {env : DEnv} {te tl ti : TE} {Q : D → DEnv → Prop} {i : Nat} {bs : List (List Int)} {j x : Int}
/-- [[] for .. in a tuple] -/
theorem xe_empties (h : XE K tl env fun d e => ∃ ds, d = .tup ds ∧ pureL ds = true ∧ ds.length ≤ 16777216 ∧ i < e.length ∧ Q (.mls ((List.replicate ds.length ([] : List Int)).map LM)) (e.set i none)) :
    XE K (tLc (iTup K tl) (gName i) tYes (tLst tNil) [i]) env Q := by
  have hs : sizeLine = 16777216 := sizeLine_eq
  refine xe_lcT (h.imp fun d e ⟨ds, h1, h2, h3, h4, h5⟩ => ⟨ds, fun k acc e1 => acc = (List.replicate k ([] : List Int)).map LM ∧ e1 = e.set i none, h1, h2, ⟨rfl, rfl⟩, ?_, ?_⟩)
  · rintro k y acc e1 hk ⟨rfl, rfl⟩
    have hkl := (List.getElem?_eq_some_iff.mp hk).1
    refine gc_name (List.mem_singleton.mpr rfl) (by rw [List.length_set]; exact h4) (xt_yes ⟨fun _ => xe_lst (xa_nil ⟨[], rfl, by decide, ?_, ?_, ?_⟩), fun z => nomatch z⟩)
    · rw [List.length_map, List.length_replicate]; omega
    · show (List.replicate k ([] : List Int)).map LM ++ [LM []] = _
      rw [List.replicate_succ', List.map_append]
      rfl
    · show ((e.set i none).set i (some y)).set i none = e.set i none
      rw [List.set_set, List.set_set]
  · rintro acc e1 ⟨rfl, rfl⟩
    exact h5
theorem xe_addAt (hi : env[i]? = some (some (.mls (bs.map LM)))) (hj : Pk K ti env (.int j)) (j0 : 0 ≤ j) (j1 : j < bs.length) (hx : Pk K te env (.int x)) (hz : (gt bs j).length < 16777216)
    (q : Q .non (env.set i (some (.mls ((bs.set j.toNat (gt bs j ++ [x])).map LM))))) : XE K (tBM K "list" rAppend (tOp (rIxL K) (tVar i) ti) (tCons te tNil)) env Q := by
  have hs : sizeLine = 16777216 := sizeLine_eq
  refine xe_appendIx (es := (gt bs j).map D.int) hi hj (ixN_pos j0 (by rw [List.length_map]; exact j1)) ?_ hx rfl (by rw [List.length_map]; omega) ?_
  · rw [List.getElem?_map, gt_get j0 j1]; rfl
  · rw [List.map_set] at q
    rw [ints_app]
    exact q
end
/-! ### joints -/
def jD (bs hs : List (List Int)) : List D := List.zipWith (fun x y => D.tup [LL x, LL y]) bs hs
def S_joints : Spec := fun ads Q => ∃ n : Net, ads = [n.dat] ∧ n.Ok ∧ ∀ bs hs, Sd (n.sg.map Prod.swap) bs n.lv.length → Sd n.sg hs n.lv.length → Q (.mls (jD bs hs)) [none]
theorem frz_ints (l : List Int) : (LM l).frz = LL l := by show D.lst (frzL (l.map D.int)) = _; rw [frzL_id (own_ints l)]
theorem noraw_ints (l : List Int) : (LM l).noraw = true := by show norawL (l.map D.int) = true; exact pureL_noraw (own_ints l)
theorem frz_rows : ∀ bs : List (List Int), frzL (bs.map LM) = bs.map LL
  | [] => rfl
  | b :: bs => by
    show (LM b).frz :: frzL (bs.map LM) = LL b :: bs.map LL
    rw [frz_ints, frz_rows bs]
theorem noraw_rows : ∀ bs : List (List Int), norawL (bs.map LM) = true
  | [] => rfl
  | b :: bs => by
    show ((LM b).noraw && norawL (bs.map LM)) = true
    rw [noraw_ints, noraw_rows bs]
    rfl
theorem LL_pure (l : List Int) : (LL l).pure = true := lst_pure (own_ints l)
theorem rows_pure (bs : List (List Int)) : pureL (bs.map LL) = true := pureL_map LL_pure _
theorem xs_joints {K : PySem.W.Frag} (ads : List D) (Q : D → List (Option D) → Prop) (h : S_joints ads Q) :
    XS K [] (t_joints K) (ads.map some ++ List.replicate 7 none) { nx := fun e => Q .non (back [] 1 e), rt := fun d e => Q d (back [] 1 e) } := by
  obtain ⟨n, rfl, hn, q⟩ := h
  have hs : sizeLine = 16777216 := sizeLine_eq
  have hfew := hn.few
  show XS K [] (t_joints K) [some n.dat, none, none, none, none, none, none, none] _
  refine xs_seq (xs_asg (xe_pk (pk_var rfl) n.pure (gx_tup rfl (gxs_cons Kp.rl (gx_name (by decide) (show 1 < 8 by decide) (gxs_cons Kp.rl (gx_name (by decide) (show 2 < 8 by decide) (gxs_nil Kp.rl ?_))))))))
  dsimp only [List.set]
  refine xs_seq (xs_set (xe_empties (xe_pk (pk_var rfl) (tup_pure (own_ints _)) ⟨_, rfl, own_ints _, by rw [List.length_map]; omega, show 7 < 8 by decide, ?_⟩)))
  dsimp only [List.set]
  refine xs_seq (xs_set (xe_empties (xe_pk (pk_var rfl) (tup_pure (own_ints _)) ⟨_, rfl, own_ints _, by rw [List.length_map]; omega, show 7 < 8 by decide, ?_⟩)))
  dsimp only [List.set]
  rw [List.length_map]
  refine xs_cut (fun e => ∃ bs hs : List (List Int), ∃ x5 x6, Sd (n.sg.map Prod.swap) bs n.lv.length ∧ Sd n.sg hs n.lv.length ∧ e = [some n.dat, some (.tup (n.lv.map D.int)), some (.tup (n.sg.map pD)), some (.mls (bs.map LM)), some (.mls (hs.map LM)), x5, x6, none]) ?_ ?_
  · refine xs_forT (xe_pk (pk_var rfl) (tup_pure (own_pairs _)) ⟨n.sg.map pD, fun k e => ∃ bs hs : List (List Int), ∃ x5 x6, Sd ((n.sg.take k).map Prod.swap) bs n.lv.length ∧ Sd (n.sg.take k) hs n.lv.length ∧ e = [some n.dat, some (.tup (n.lv.map D.int)), some (.tup (n.sg.map pD)), some (.mls (bs.map LM)), some (.mls (hs.map LM)), x5, x6, none], rfl, own_pairs _,
      ⟨_, _, _, _, Sd.nil _, Sd.nil _, rfl⟩, ?_, ?_⟩)
    · rintro k x e hx ⟨bs, hs, x5, x6, h1, h2, rfl⟩
      rw [List.getElem?_map] at hx
      cases hg : n.sg[k]? with
      | none => rw [hg] at hx; cases hx
      | some s =>
        rw [hg] at hx
        cases hx
        obtain ⟨u, l⟩ := s
        obtain ⟨u0, u1, l0, l1, _⟩ := hn.seg _ (List.mem_of_getElem? hg)
        dsimp only at u0 u1 l0 l1
        have ht : n.sg.take (k + 1) = n.sg.take k ++ [(u, l)] := by rw [List.take_add_one, hg]; rfl
        have hb := h1.len
        have hh := h2.len
        have hP : ∀ s ∈ n.sg.take k, 0 ≤ s.2 ∧ s.2 < n.lv.length := fun s m => by
          obtain ⟨_, _, h3, h4, _⟩ := hn.seg _ (List.mem_of_mem_take m)
          exact ⟨h3, h4⟩
        have hP2 : ∀ s ∈ (n.sg.take k).map Prod.swap, 0 ≤ s.2 ∧ s.2 < n.lv.length := fun s m => by
          obtain ⟨t, mt, rfl⟩ := List.mem_map.mp m
          obtain ⟨h3, h4, _⟩ := hn.seg _ (List.mem_of_mem_take mt)
          exact ⟨h3, h4⟩
        have z1 := h2.few hP u0 u1
        have z2 := h1.few hP2 l0 l1
        refine gx_tup rfl (gxs_cons Kp.rl (gx_name (by decide) (show 5 < 8 by decide) (gxs_cons Kp.rl (gx_name (by decide) (show 6 < 8 by decide) (gxs_nil Kp.rl ?_)))))
        dsimp only [List.set]
        refine xs_ifp (pkt_test (pk_notInI (xs := gt hs u) (pk_var rfl) (pk_ixL (pk_var rfl) (pk_var rfl) rfl (atI_map u0 (by omega))) rfl)) (fun hc => ?_) (fun hc => xs_next ?_)
        · have hni : l ∉ gt hs u := by simpa using hc
          refine xs_seq (xs_drop (xe_addAt rfl (pk_var rfl) u0 (by omega) (pk_var rfl) (by omega) ?_))
          dsimp only [List.set]
          refine xs_drop (xe_addAt rfl (pk_var rfl) l0 (by omega) (pk_var rfl) (by omega) ?_)
          dsimp only
          rw [ht, List.map_append]
          refine ⟨_, _, _, _, h1.add l0 l1 ?_, h2.add u0 u1 hni, rfl⟩
          rw [h1.mem l l0 l1 u, mem_swap, ← h2.mem u u0 u1 l]
          exact hni
        · have hin : l ∈ gt hs u := by simpa using hc
          have hm := (h2.mem u u0 u1 l).mp hin
          dsimp only
          rw [ht, List.map_append]
          exact ⟨_, _, _, _, h1.same (mem_swap.mpr hm), h2.same hm, rfl⟩
    · rintro e ⟨bs, hs, x5, x6, h1, h2, rfl⟩
      rw [List.length_map, List.take_length] at h1 h2
      exact ⟨bs, hs, _, _, h1, h2, rfl⟩
  rintro e ⟨bs, hs, x5, x6, h1, h2, rfl⟩
  refine xs_frzv 3 rfl (by rw [D.noraw]; exact noraw_rows _) ?_
  refine xs_frzv 4 rfl (by rw [D.noraw]; exact noraw_rows _) ?_
  dsimp only [List.set]
  rw [D.frz, D.frz, frz_rows, frz_rows]
  refine xs_ret (xe_listZip (pk_var rfl) rfl (rows_pure _) (pk_var rfl) rfl (rows_pure _) ?_)
  rw [List.zipWith_map]
  exact q bs hs h1 h2
end DL

set_option autoImplicit false
set_option linter.all false
namespace DL
open PySem L2
/-! ### all pairs of two lists that P lets -/
def crossP (P : Int → Int → Bool) (xs ys : List Int) : List (Int × Int) := xs.flatMap fun c => (ys.filter (P c)).map fun d => (c, d)
theorem crossP_mem {P : Int → Int → Bool} {xs ys : List Int} {c d : Int} : (c, d) ∈ crossP P xs ys ↔ c ∈ xs ∧ d ∈ ys ∧ P c d = true := by
  unfold crossP
  rw [List.mem_flatMap]
  constructor
  · rintro ⟨x, hx, h⟩
    obtain ⟨y, hy, e⟩ := List.mem_map.mp h
    injection e with e1 e2
    subst e1
    subst e2
    exact ⟨hx, (List.mem_filter.mp hy).1, (List.mem_filter.mp hy).2⟩
  · rintro ⟨hx, hy, hp⟩
    exact ⟨c, hx, List.mem_map.mpr ⟨d, List.mem_filter.mpr ⟨hy, hp⟩, rfl⟩⟩
theorem crossP_len (P : Int → Int → Bool) (ys : List Int) : ∀ xs : List Int, (crossP P xs ys).length ≤ xs.length * ys.length
  | [] => by simp [crossP]
  | x :: xs => by
    have ih := crossP_len P ys xs
    have h := List.length_filter_le (P x) ys
    have e : crossP P (x :: xs) ys = ((ys.filter (P x)).map fun d => (x, d)) ++ crossP P xs ys := rfl
    rw [e, List.length_append, List.length_map, List.length_cons, Nat.add_mul]
    omega
theorem crossP_take {P : Int → Int → Bool} {xs ys : List Int} {k : Nat} {x : Int} (h : xs[k]? = some x) : crossP P (xs.take (k + 1)) ys = crossP P (xs.take k) ys ++ (ys.filter (P x)).map fun d => (x, d) := by
  unfold crossP
  rw [List.take_add_one, h, List.flatMap_append]
  simp
theorem crossP_nodup {P : Int → Int → Bool} {ys : List Int} (hy : ys.Nodup) : ∀ {xs : List Int}, xs.Nodup → (crossP P xs ys).Nodup
  | [], _ => by simp [crossP]
  | x :: xs, h => by
    have h' := List.nodup_cons.mp h
    have e : crossP P (x :: xs) ys = ((ys.filter (P x)).map fun d => (x, d)) ++ crossP P xs ys := rfl
    rw [e]
    refine List.nodup_append.mpr ⟨?_, crossP_nodup hy h'.2, ?_⟩
    · refine List.Pairwise.map _ (fun a b hab z => ?_) (List.Pairwise.filter _ hy)
      injection z with _ z
      exact hab z
    · intro a ha b hb z
      subst z
      obtain ⟨d, _, rfl⟩ := List.mem_map.mp ha
      exact h'.1 (crossP_mem.mp hb).1
def lexLt (p q : Int × Int) : Prop := p.1 < q.1 ∨ (p.1 = q.1 ∧ p.2 < q.2)
theorem crossP_sorted {P : Int → Int → Bool} {ys : List Int} (hy : ys.Pairwise (· < ·)) : ∀ {xs : List Int}, xs.Pairwise (· < ·) → (crossP P xs ys).Pairwise lexLt
  | [], _ => by simp [crossP]
  | x :: xs, h => by
    have h' := List.pairwise_cons.mp h
    have e : crossP P (x :: xs) ys = ((ys.filter (P x)).map fun d => (x, d)) ++ crossP P xs ys := rfl
    rw [e]
    refine List.pairwise_append.mpr ⟨?_, crossP_sorted hy h'.2, ?_⟩
    · exact List.Pairwise.map _ (fun a b hab => .inr ⟨rfl, hab⟩) (List.Pairwise.filter _ hy)
    · intro a ha b hb
      obtain ⟨d, _, rfl⟩ := List.mem_map.mp ha
      obtain ⟨c, d'⟩ := b
      exact .inl (h'.1 c (crossP_mem.mp hb).1)
theorem set_same {e : DEnv} {i : Nat} {x : Option D} (h : e[i]? = some x) : e.set i x = e := by
  apply List.ext_getElem?
  intro j
  by_cases hj : i = j
  · subst hj
    rw [List.getElem?_set_self (List.getElem?_eq_some_iff.mp h).1, h]
  · rw [List.getElem?_set_ne hj]
section
variable {K : PySem.W.Frag} {fx : List Nat} {env : DEnv} {E : EndD} {f ic id : Nat} {tx ty : TE} {tt : TT} {P : Int → Int → Bool} {xs ys : List Int} {acc : List (Int × Int)}
/-- for c in xs: for d in ys: if ..: found.append((c, d)) -/
theorem xs_cross (hf : f < env.length) (hic : ic < env.length) (hid : id < env.length) (n1 : f ≠ ic) (n2 : f ≠ id) (n3 : ic ≠ id) (x1 : ic ∉ fx) (x2 : id ∉ fx)
    (h0 : env[f]? = some (some (.mls (acc.map pD)))) (hx : Pk K tx env (LL xs)) (hy : ∀ u v w, Pk K ty (((env.set f u).set ic v).set id w) (LL ys))
    (ht : ∀ u c d, c ∈ xs → d ∈ ys → PkT K tt (((env.set f u).set ic (some (.int c))).set id (some (.int d))) (P c d)) (hz : acc.length + xs.length * ys.length ≤ 16777216)
    (q : ∀ v w, E.nx (((env.set f (some (.mls ((acc ++ crossP P xs ys).map pD)))).set ic v).set id w)) :
    XS K fx (tFor (iList K tx) (gName ic) (tFor (iList K ty) (gName id) (tIfS tt (tDrop (tBM K "list" rAppend (tVar f) (tCons (tTup (tCons (tVar ic) (tCons (tVar id) tNil))) tNil))) tNext))) env E := by
  have hs : sizeLine = 16777216 := sizeLine_eq
  let st : List (Int × Int) → Option D → Option D → DEnv := fun a v w => ((env.set f (some (.mls (a.map pD)))).set ic v).set id w
  have hlen : ∀ a v w, (st a v w).length = env.length := fun a v w => by show (((env.set f _).set ic v).set id w).length = _; rw [List.length_set, List.length_set, List.length_set]
  have gf : ∀ a v w, (st a v w)[f]? = some (some (.mls (a.map pD))) := fun a v w => by
    show (((env.set f _).set ic v).set id w)[f]? = _
    rw [List.getElem?_set_ne (Ne.symm n2), List.getElem?_set_ne (Ne.symm n1), List.getElem?_set_self hf]
  have gc : ∀ a v w, (st a v w)[ic]? = some v := fun a v w => by
    show (((env.set f _).set ic v).set id w)[ic]? = _
    rw [List.getElem?_set_ne (Ne.symm n3), List.getElem?_set_self (by rw [List.length_set]; exact hic)]
  have gd : ∀ a v w, (st a v w)[id]? = some w := fun a v w => by
    show (((env.set f _).set ic v).set id w)[id]? = _
    rw [List.getElem?_set_self (by rw [List.length_set, List.length_set]; exact hid)]
  have sc : ∀ a v w v', (st a v w).set ic v' = st a v' w := fun a v w v' => by
    show ((((env.set f _).set ic v).set id w).set ic v') = ((env.set f _).set ic v').set id w
    rw [List.set_comm _ _ (Ne.symm n3), List.set_set]
  have sd : ∀ a v w w', (st a v w).set id w' = st a v w' := fun a v w w' => by
    show ((((env.set f _).set ic v).set id w).set id w') = ((env.set f _).set ic v).set id w'
    rw [List.set_set]
  have sf : ∀ a v w a', (st a v w).set f (some (.mls (a'.map pD))) = st a' v w := fun a v w a' => by
    show ((((env.set f _).set ic v).set id w).set f _) = ((env.set f _).set ic v).set id w
    rw [List.set_comm _ _ (Ne.symm n2), List.set_comm _ _ (Ne.symm n1), List.set_set]
  have start : ∃ v w, env = st acc v w := by
    refine ⟨env[ic], env[id], ?_⟩
    show env = ((env.set f (some (.mls (acc.map pD)))).set ic env[ic]).set id env[id]
    rw [set_same h0, set_same (List.getElem?_eq_getElem hic), set_same (List.getElem?_eq_getElem hid)]
  refine xs_forL (xe_pk hx (LL_pure xs) ⟨xs.map D.int, fun k e => ∃ v w, e = st (acc ++ crossP P (xs.take k) ys) v w, rfl, own_ints xs, ?_, ?_, ?_⟩)
  · obtain ⟨v, w, e⟩ := start
    refine ⟨v, w, ?_⟩
    have : crossP P (xs.take 0) ys = [] := rfl
    rw [this, List.append_nil]
    exact e
  · rintro k x e hk ⟨v, w, rfl⟩
    rw [List.getElem?_map] at hk
    cases hg : xs[k]? with
    | none => rw [hg] at hk; cases hk
    | some c =>
      rw [hg] at hk
      cases hk
      have hkl := (List.getElem?_eq_some_iff.mp hg).1
      have hcm := List.mem_of_getElem? hg
      refine gx_name x1 (by rw [hlen]; exact hic) ?_
      rw [sc]
      refine xs_forL (xe_pk (hy _ _ _) (LL_pure ys) ⟨ys.map D.int, fun j e => ∃ w, e = st (acc ++ crossP P (xs.take k) ys ++ ((ys.take j).filter (P c)).map fun d => (c, d)) (some (.int c)) w, rfl, own_ints ys, ?_, ?_, ?_⟩)
      · refine ⟨w, ?_⟩
        show _ = st (acc ++ crossP P (xs.take k) ys ++ []) _ _
        rw [List.append_nil]
      · rintro j y e hj ⟨w, rfl⟩
        rw [List.getElem?_map] at hj
        cases hgj : ys[j]? with
        | none => rw [hgj] at hj; cases hj
        | some d =>
          rw [hgj] at hj
          cases hj
          have hjl := (List.getElem?_eq_some_iff.mp hgj).1
          refine gx_name x2 (by rw [hlen]; exact hid) ?_
          rw [sd]
          have hstep : ((ys.take (j + 1)).filter (P c)).map (fun d => (c, d)) = ((ys.take j).filter (P c)).map (fun d => (c, d)) ++ (if P c d then [(c, d)] else []) := by
            rw [List.take_add_one, hgj, List.filter_append, List.map_append]
            cases hp : P c d <;> simp [hp]
          refine xs_ifp (ht _ c d hcm (List.mem_of_getElem? hgj)) (fun hb => ?_) (fun hb => xs_next ?_)
          · refine xs_drop (xe_append (gf _ _ _) rfl (xe_tup (xa_pk (pk_var (gc _ _ _)) rfl (xa_pk (pk_var (gd _ _ _)) rfl (xa_nil ⟨_, rfl, line2, _, gf _ _ _, ?_, ?_⟩)))))
            · rw [List.length_map, List.length_append, List.length_append, List.length_map]
              have h1 := crossP_len P ys (xs.take k)
              rw [List.length_take] at h1
              have h2 := List.length_filter_le (P c) (ys.take j)
              rw [List.length_take] at h2
              have h3 : min k xs.length * ys.length ≤ k * ys.length := Nat.mul_le_mul_right _ (Nat.min_le_left _ _)
              have h4 : (k + 1) * ys.length ≤ xs.length * ys.length := Nat.mul_le_mul_right _ hkl
              rw [Nat.add_mul] at h4
              omega
            · rw [pairs_app, sf]
              refine ⟨some (.int d), ?_⟩
              rw [hstep, hb, if_pos rfl, ← List.append_assoc]
          · refine ⟨some (.int d), ?_⟩
            rw [hstep, hb, if_neg (by decide), List.append_nil]
      · rintro e ⟨w, rfl⟩
        refine ⟨some (.int c), w, ?_⟩
        rw [List.length_map, List.take_length, crossP_take hg, List.append_assoc]
  · rintro e ⟨v, w, rfl⟩
    rw [List.length_map, List.take_length]
    exact q v w
end
end DL

set_option autoImplicit false
set_option linter.all false
namespace DL
open PySem L2
/-! ### the step of two walkers, as the program finds it -/
def Net.Step (n : Net) (p q : Int × Int) : Prop := q.1 ≠ q.2 ∧ (((q.1, p.1) ∈ n.sg ∧ (q.2, p.2) ∈ n.sg) ∨ ((p.1, q.1) ∈ n.sg ∧ (p.2, q.2) ∈ n.sg))
def neP (c d : Int) : Bool := !decide (c = d)
theorem neP_iff {c d : Int} : neP c d = true ↔ c ≠ d := by unfold neP; simp
theorem jD_at {bs hs : List (List Int)} {a : Int} (hl : bs.length = hs.length) (h0 : 0 ≤ a) (h1 : a < bs.length) : atI (jD bs hs) a = some (.tup [LL (gt bs a), LL (gt hs a)]) := by
  unfold atI jD
  rw [List.length_zipWith, ixN_pos h0 (by omega)]
  show (List.zipWith _ bs hs)[a.toNat]? = _
  rw [List.getElem?_zipWith, gt_get h0 h1, gt_get h0 (by omega)]
def S_turned_about : Spec := fun ads Q => ∃ p : Int × Int, ads = [pD p] ∧ Q (pD (p.2, p.1)) [none]
theorem xs_turned_about {K : PySem.W.Frag} (ads : List D) (Q : D → List (Option D) → Prop) (h : S_turned_about ads Q) :
    XS K [] (t_turned_about K) (ads.map some ++ List.replicate 0 none) { nx := fun e => Q .non (back [] 1 e), rt := fun d e => Q d (back [] 1 e) } := by
  obtain ⟨p, rfl, q⟩ := h
  show XS K [] (t_turned_about K) [some (pD p)] _
  exact xs_ret (xe_tup (xa_pk (by none_booked) rfl (xa_pk (by none_booked) rfl (xa_nil ⟨_, rfl, line2, q⟩))))
/-- the pairs found, sorted -/
def S_reached : Spec := fun ads Q => ∃ (n : Net) (t : D) (bs hs : List (List Int)) (p : Int × Int), ads = [t, pD p] ∧ t.isL = some (jD bs hs) ∧ n.Ok ∧ Sd (n.sg.map Prod.swap) bs n.lv.length ∧ Sd n.sg hs n.lv.length ∧
  0 ≤ p.1 ∧ p.1 < n.lv.length ∧ 0 ≤ p.2 ∧ p.2 < n.lv.length ∧ ∀ qs : List (Int × Int), qs.Perm (crossP neP (gt bs p.1) (gt bs p.2) ++ crossP neP (gt hs p.1) (gt hs p.2)) → qs.Pairwise lexLe → Q (.mls (qs.map pD)) [none, none]
theorem Net.Ok.snd {n : Net} (hn : n.Ok) : ∀ s ∈ n.sg, 0 ≤ s.2 ∧ s.2 < n.lv.length := fun s m => by
  obtain ⟨_, _, h3, h4, _⟩ := hn.seg _ m
  exact ⟨h3, h4⟩
theorem Net.Ok.fst {n : Net} (hn : n.Ok) : ∀ s ∈ n.sg.map Prod.swap, 0 ≤ s.2 ∧ s.2 < n.lv.length := fun s m => by
  obtain ⟨t, mt, rfl⟩ := List.mem_map.mp m
  obtain ⟨h3, h4, _⟩ := hn.seg _ mt
  exact ⟨h3, h4⟩
theorem xs_reached {K : PySem.W.Frag} (ads : List D) (Q : D → List (Option D) → Prop) (h : S_reached ads Q) :
    XS K [] (t_reached K) (ads.map some ++ List.replicate 6 none) { nx := fun e => Q .non (back [] 2 e), rt := fun d e => Q d (back [] 2 e) } := by
  obtain ⟨n, t, bs, hs, ⟨a, b⟩, rfl, ht, hn, h1, h2, a0, a1, b0, b1, q⟩ := h
  dsimp only at a0 a1 b0 b1 q
  have hs' : sizeLine = 16777216 := sizeLine_eq
  have hfew := hn.few
  have l1 := h1.len
  have l2 := h2.len
  have ba := h1.few hn.fst a0 a1
  have bb := h1.few hn.fst b0 b1
  have ha := h2.few hn.snd a0 a1
  have hb := h2.few hn.snd b0 b1
  have m1 : (gt bs a).length * (gt bs b).length ≤ 64 * 64 := Nat.mul_le_mul (by omega) (by omega)
  have m2 : (gt hs a).length * (gt hs b).length ≤ 64 * 64 := Nat.mul_le_mul (by omega) (by omega)
  show XS K [] (t_reached K) [some t, some (pD (a, b)), none, none, none, none, none, none] _
  refine xs_seq (xs_asg (xe_pk (pk_var rfl) rfl (gx_tup rfl (gxs_cons Kp.rl (gx_name (by decide) (show 2 < 8 by decide) (gxs_cons Kp.rl (gx_name (by decide) (show 3 < 8 by decide) (gxs_nil Kp.rl ?_))))))))
  dsimp only [List.set]
  refine xs_seq (xs_set (xe_lst (xa_nil ⟨[], rfl, by decide, ?_⟩)))
  dsimp only [List.set]
  let sd : Nat → List (List Int) := fun k => if k = 0 then bs else hs
  refine xs_cut (fun e => ∃ x5 x6 x7, e = [some t, some (pD (a, b)), some (.int a), some (.int b), some (.mls ((crossP neP (gt bs a) (gt bs b) ++ crossP neP (gt hs a) (gt hs b)).map pD)), x5, x6, x7]) ?_ ?_
  · refine xs_forT (xe_tup (xa_pk pk_int rfl (xa_pk pk_int rfl (xa_nil ⟨_, rfl, line2, [.int 0, .int 1], fun k e => ∃ x5 x6 x7, e = [some t, some (pD (a, b)), some (.int a), some (.int b), some (.mls ((if k = 0 then [] else if k = 1 then crossP neP (gt bs a) (gt bs b) else crossP neP (gt bs a) (gt bs b) ++ crossP neP (gt hs a) (gt hs b)).map pD)), x5, x6, x7],
      rfl, rfl, ⟨_, _, _, rfl⟩, ?_, ?_⟩))))
    · rintro k x e hx ⟨x5, x6, x7, rfl⟩
      have hk : k < 2 := (List.getElem?_eq_some_iff.mp hx).1
      have key : ∀ (acc : List (Int × Int)) (side : Int) (xs ys : List Int), acc.length ≤ 64 * 64 → xs.length * ys.length ≤ 64 * 64 →
          (∀ (c d : Int) (e : DEnv), e[0]? = some (some t) → e[2]? = some (some (.int a)) → e[5]? = some (some (.int side)) → Pk K (tOp (rIxT K) (tOp (rIxL K) (tVar 0) (tVar 2)) (tVar 5)) e (LL xs)) →
          (∀ (c d : Int) (e : DEnv), e[0]? = some (some t) → e[3]? = some (some (.int b)) → e[5]? = some (some (.int side)) → Pk K (tOp (rIxT K) (tOp (rIxL K) (tVar 0) (tVar 3)) (tVar 5)) e (LL ys)) →
          ∀ E : EndD, (∀ x6 x7, E.nx [some t, some (pD (a, b)), some (.int a), some (.int b), some (.mls ((acc ++ crossP neP xs ys).map pD)), some (.int side), x6, x7]) →
          XS K [] (tFor (iList K (tOp (rIxT K) (tOp (rIxL K) (tVar 0) (tVar 2)) (tVar 5))) (gName 6) (tFor (iList K (tOp (rIxT K) (tOp (rIxL K) (tVar 0) (tVar 3)) (tVar 5))) (gName 7) (tIfS (tTest (tOp rNe (tVar 6) (tVar 7))) (tDrop (tBM K "list" rAppend (tVar 4) (tCons (tTup (tCons (tVar 6) (tCons (tVar 7) tNil))) tNil))) tNext)))
            [some t, some (pD (a, b)), some (.int a), some (.int b), some (.mls (acc.map pD)), some (.int side), x6, x7] E := by
        intro acc side xs ys hacc hz px py E q
        refine xs_cross (P := neP) (xs := xs) (ys := ys) (acc := acc) (show 4 < 8 by decide) (show 6 < 8 by decide) (show 7 < 8 by decide) (by decide) (by decide) (by decide) (by decide) (by decide) rfl (px 0 0 _ rfl rfl rfl) (fun u v w => py 0 0 _ rfl rfl rfl)
          (fun u c d _ _ => pkt_test (pk_neI (pk_var rfl) (pk_var rfl))) (by omega) fun v w => q v w
      refine gx_name (by decide) (show 5 < 8 by decide) ?_
      dsimp only [List.set]
      have pl : ∀ {e : DEnv} {i : Nat} {z : Int}, e[0]? = some (some t) → e[i]? = some (some (.int z)) → 0 ≤ z → z < n.lv.length → Pk K (tOp (rIxL K) (tVar 0) (tVar i)) e (.tup [LL (gt bs z), LL (gt hs z)]) :=
        fun h0 hi z0 z1 => pk_ixL (pk_var h0) (pk_var hi) ht (jD_at (by omega) z0 (by omega))
      match k, hk with
      | 0, _ =>
        cases hx
        exact key [] 0 (gt bs a) (gt bs b) (by decide) m1 (fun c d e h0 h2 h5 => pk_ixT (pl h0 h2 a0 a1) (pk_var h5) rfl rfl) (fun c d e h0 h2 h5 => pk_ixT (pl h0 h2 b0 b1) (pk_var h5) rfl rfl) _ fun x6 x7 => ⟨_, _, _, rfl⟩
      | 1, _ =>
        cases hx
        have c1 := crossP_len neP (gt bs b) (gt bs a)
        exact key (crossP neP (gt bs a) (gt bs b)) 1 (gt hs a) (gt hs b) (by omega) m2 (fun c d e h0 h2 h5 => pk_ixT (pl h0 h2 a0 a1) (pk_var h5) rfl rfl) (fun c d e h0 h2 h5 => pk_ixT (pl h0 h2 b0 b1) (pk_var h5) rfl rfl) _ fun x6 x7 => ⟨_, _, _, rfl⟩
    · rintro e ⟨x5, x6, x7, rfl⟩
      exact ⟨_, _, _, rfl⟩
  rintro e ⟨x5, x6, x7, rfl⟩
  exact xs_ret (xe_sortP (xe_mov rfl ⟨_, rfl, fun qs hp hw => q qs hp hw⟩))
theorem step_mem {n : Net} {bs hs : List (List Int)} {p : Int × Int} (h1 : Sd (n.sg.map Prod.swap) bs n.lv.length) (h2 : Sd n.sg hs n.lv.length) (a0 : 0 ≤ p.1) (a1 : p.1 < n.lv.length) (b0 : 0 ≤ p.2) (b1 : p.2 < n.lv.length) (q : Int × Int) :
    q ∈ crossP neP (gt bs p.1) (gt bs p.2) ++ crossP neP (gt hs p.1) (gt hs p.2) ↔ n.Step p q := by
  obtain ⟨c, d⟩ := q
  rw [List.mem_append, crossP_mem, crossP_mem, h1.mem _ a0 a1, h1.mem _ b0 b1, h2.mem _ a0 a1, h2.mem _ b0 b1, mem_swap, mem_swap, neP_iff]
  unfold Net.Step
  constructor
  · rintro (⟨x, y, z⟩ | ⟨x, y, z⟩)
    · exact ⟨z, .inl ⟨x, y⟩⟩
    · exact ⟨z, .inr ⟨x, y⟩⟩
  · rintro ⟨z, ⟨x, y⟩ | ⟨x, y⟩⟩
    · exact .inl ⟨x, y, z⟩
    · exact .inr ⟨x, y, z⟩
theorem step_nodup {n : Net} {bs hs : List (List Int)} {p : Int × Int} (hn : n.Ok) (h1 : Sd (n.sg.map Prod.swap) bs n.lv.length) (h2 : Sd n.sg hs n.lv.length) (a0 : 0 ≤ p.1) (a1 : p.1 < n.lv.length) (b0 : 0 ≤ p.2) (b1 : p.2 < n.lv.length) :
    (crossP neP (gt bs p.1) (gt bs p.2) ++ crossP neP (gt hs p.1) (gt hs p.2)).Nodup := by
  refine List.nodup_append.mpr ⟨crossP_nodup (h1.nd _ b0 b1) (h1.nd _ a0 a1), crossP_nodup (h2.nd _ b0 b1) (h2.nd _ a0 a1), ?_⟩
  rintro ⟨c, d⟩ hx y hy e
  subst e
  have k1 := (h1.mem _ a0 a1 c).mp (crossP_mem.mp hx).1
  have k2 := (h2.mem _ a0 a1 c).mp (crossP_mem.mp hy).1
  rw [mem_swap] at k1
  obtain ⟨_, _, _, _, e1⟩ := hn.seg _ k1
  obtain ⟨_, _, _, _, e2⟩ := hn.seg _ k2
  dsimp only at e1 e2
  omega
theorem lexLt_of {qs : List (Int × Int)} (nd : qs.Nodup) (h : qs.Pairwise lexLe) : qs.Pairwise lexLt := by
  induction qs with
  | nil => exact .nil
  | cons x qs ih =>
    have nd' := List.nodup_cons.mp nd
    have h' := List.pairwise_cons.mp h
    refine List.pairwise_cons.mpr ⟨fun y m => ?_, ih nd'.2 h'.2⟩
    have hne : x ≠ y := fun e => nd'.1 (e ▸ m)
    obtain ⟨x1, x2⟩ := x
    obtain ⟨y1, y2⟩ := y
    have hl := h'.1 _ m
    unfold lexLe at hl
    unfold lexLt
    dsimp only at hl ⊢
    by_cases e1 : x1 = y1
    · by_cases e2 : x2 = y2
      · exact absurd (by rw [e1, e2]) hne
      · omega
    · omega
/-- two rows that ascend and have the same items are one -/
theorem lex_uniq : ∀ {xs ys : List (Int × Int)}, xs.Pairwise lexLt → ys.Pairwise lexLt → (∀ x, x ∈ xs ↔ x ∈ ys) → xs = ys
  | [], [], _, _, _ => rfl
  | [], y :: ys, _, _, h => by have := (h y).mpr List.mem_cons_self; cases this
  | x :: xs, [], _, _, h => by have := (h x).mp List.mem_cons_self; cases this
  | x :: xs, y :: ys, hx, hy, h => by
    have hx' := List.pairwise_cons.mp hx
    have hy' := List.pairwise_cons.mp hy
    have irr : ∀ z, ¬ lexLt z z := fun z k => by unfold lexLt at k; omega
    have anti : ∀ u v, lexLt u v → lexLt v u → False := fun u v k1 k2 => by unfold lexLt at k1 k2; omega
    have e : x = y := by
      rcases List.mem_cons.mp ((h x).mp List.mem_cons_self) with e | m1
      · exact e
      · rcases List.mem_cons.mp ((h y).mpr List.mem_cons_self) with e | m2
        · exact e.symm
        · exact (anti _ _ (hy'.1 _ m1) (hx'.1 _ m2)).elim
    subst e
    have ih := lex_uniq hx'.2 hy'.2 fun z => by
      constructor
      · intro m
        rcases List.mem_cons.mp ((h z).mp (List.mem_cons_of_mem _ m)) with e | m'
        · subst e; exact (irr _ (hx'.1 _ m)).elim
        · exact m'
      · intro m
        rcases List.mem_cons.mp ((h z).mpr (List.mem_cons_of_mem _ m)) with e | m'
        · subst e; exact (irr _ (hy'.1 _ m)).elim
        · exact m'
    rw [ih]
end DL

set_option autoImplicit false
set_option linter.all false
namespace DL
open PySem L2
def t_law_whole (K : PySem.W.Frag) : TS :=
 (tRet (tAndV (tIsI K "int" (tVar 0)) (tNotV (tIsI K "bool" (tVar 0)))))
def t_law_same (K : PySem.W.Frag) (S_law_same S_law_whole : Spec) : TS :=
 (tSeq (tIfS (tTest (tOp rIsN2 (tVar 1) (tC .non))) (tRet (tOp rIsN2 (tVar 0) (tC .non))) tNext)
 (tSeq (tIfS (tB (tIsI K "bool" (tVar 1))) (tRet (tAndV (tIsI K "bool" (tVar 0)) (tOp (rEqD K) (tVar 0) (tVar 1)))) tNext)
 (tSeq (tIfS (tB (tIsI K "int" (tVar 1))) (tRet (tAndV (tCall (spOf K S_law_whole) [] E0 (tCons (tVar 0) tNil)) (tOp (rEqD K) (tVar 0) (tVar 1)))) tNext)
 (tSeq (tIfS (tB (tIsI K "str" (tVar 1))) (tRet (tAndV (tIsI K "str" (tVar 0)) (tOp (rEqD K) (tVar 0) (tVar 1)))) tNext)
 (tSeq (tIfS (tOr (tB (tIsI K "tuple" (tVar 1))) (tB (tIsI K "list" (tVar 1)))) (tSeq (tIfS (tAnd (tB (tIsI K "tuple" (tVar 1))) (tNot (tB (tIsI K "tuple" (tVar 0))))) (tRet (tC (.bl false))) tNext)
 (tSeq (tIfS (tAnd (tB (tIsI K "list" (tVar 1))) (tNot (tB (tIsI K "list" (tVar 0))))) (tRet (tC (.bl false))) tNext)
 (tSeq (tIfS (tTest (tOp rNe (tCB (rLen2 K) (tCons (tVar 0) tNil)) (tCB (rLen2 K) (tCons (tVar 1) tNil)))) (tRet (tC (.bl false))) tNext)
 (tSeq (tFor (iRng1 (tCons (tCB (rLen2 K) (tCons (tVar 1) tNil)) tNil)) (gName 2) (tIfS (tNot (tB (tCall (spOf K S_law_same) [] E0 (tCons (tOp (rIxS2 K) (tVar 0) (tVar 2)) (tCons (tOp (rIxS2 K) (tVar 1) (tVar 2)) tNil))))) (tRet (tC (.bl false))) tNext))
 (tRet (tC (.bl true))))))) tNext)
 (tSeq (tIfS (tB (tIsI K "dict" (tVar 1))) (tSeq (tIfS (tOr (tNot (tB (tIsI K "dict" (tVar 0)))) (tTest (tOp rNe (tCB (rLen2 K) (tCons (tVar 0) tNil)) (tCB (rLen2 K) (tCons (tVar 1) tNil))))) (tRet (tC (.bl false))) tNext)
 (tSeq (tFor (iList K (tVar 1)) (gName 3) (tSeq (tIfS (tTest (tOp (rNotInD K) (tVar 3) (tVar 0))) (tRet (tC (.bl false))) tNext)
 (tIfS (tNot (tB (tCall (spOf K S_law_same) [] E0 (tCons (tOp (rIxS2 K) (tVar 0) (tVar 3)) (tCons (tOp (rIxS2 K) (tVar 1) (tVar 3)) tNil))))) (tRet (tC (.bl false))) tNext)))
 (tRet (tC (.bl true))))) tNext)
 (tRet (tC (.bl false)))))))))

section
variable {K : PySem.W.Frag} {env : DEnv} {te ta tb : TE} {Q : D → DEnv → Prop}
theorem xe_andV (h : XE K ta env fun x e1 => ∃ b, x = .bl b ∧ (b = true → XE K tb e1 Q) ∧ (b = false → Q (.bl false) e1)) : XE K (tAndV ta tb) env Q := fun B H σ L I Q' k =>
  h B H σ L I _ fun x e1 v B1 H1 ⟨b, ex, q1, q2⟩ sb1 m1 s1 => by
    subst ex
    obtain ⟨f, o⟩ := s1.here
    cases o.bl_inv
    refine ⟨b, rfl, ?_⟩
    cases b with
    | true => exact iteT (q1 rfl B1 H1 σ L ⟨m1, s1.drop⟩ Q' fun d e2 v2 B2 H2 q sb2 => k d e2 v2 B2 H2 q (sb1.trans sb2))
    | false => exact iteF (k (.bl false) e1 _ B1 H1 (q2 rfl) sb1 m1 s1)
/-! ### kinds -/
mutual
def kD : D → Bool
  | .non => true
  | .bl _ => true
  | .int _ => true
  | .str s => PyData.canLay0 (.str s)
  | .tup ds => kL ds
  | .lst ds => kL ds
  | .mls ds => kL ds
  | _ => false
def kL : List D → Bool
  | [] => true
  | d :: ds => kD d && kL ds
end
theorem kL_get : ∀ {ds : List D} {i : Nat} {d : D}, kL ds = true → ds[i]? = some d → kD d = true
  | [], _, _, _, e => by simp at e
  | d :: ds, 0, _, p, e => by
    simp at e
    subst e
    rw [kL, Bool.and_eq_true] at p
    exact p.1
  | d :: ds, i + 1, _, p, e => by
    rw [kL, Bool.and_eq_true] at p
    exact kL_get p.2 (by simpa using e)
def subT (t T : String) : Bool := t == T || (t == "bool" && T == "int")
theorem kit_tab : ∀ t ∈ ["NoneType", "bool", "int", "str", "tuple", "list"], ∀ T ∈ ["bool", "int", "str", "tuple", "list", "dict"], kitB t T = some (subT t T) := by decide +kernel
def isTy (T : String) (d : D) : Bool := match tyD d with
  | some t => subT t T
  | none => false
theorem pk_isT {T : String} {d : D} (h : Pk K te env d) (hk : kD d = true) (hT : T ∈ ["bool", "int", "str", "tuple", "list", "dict"]) : Pk K (tIsI K T te) env (.bl (isTy T d)) := by
  cases d with
  | non => exact pk_isi h rfl (kit_tab "NoneType" (by decide) T hT)
  | bl b => exact pk_isi h rfl (kit_tab "bool" (by decide) T hT)
  | int i => exact pk_isi h rfl (kit_tab "int" (by decide) T hT)
  | str s => exact pk_isi h rfl (kit_tab "str" (by decide) T hT)
  | tup ds => exact pk_isi h rfl (kit_tab "tuple" (by decide) T hT)
  | lst ds => exact pk_isi h rfl (kit_tab "list" (by decide) T hT)
  | mls ds => exact pk_isi h rfl (kit_tab "list" (by decide) T hT)
  | cst ds => cases hk
  | dct a b => cases hk
  | raw o => cases hk
end
/-- nothing but a whole number -/
def isI : D → Bool
  | .int _ => true
  | _ => false
def S_law_whole : Spec := fun ads Q => ∃ g : D, ads = [g] ∧ kD g = true ∧ Q (.bl (isI g)) [some g]
theorem xs_law_whole {K : PySem.W.Frag} (ads : List D) (Q : D → List (Option D) → Prop) (h : S_law_whole ads Q) :
    XS K [0] (t_law_whole K) (ads.map some ++ List.replicate 0 none) { nx := fun e => Q .non (back [0] 1 e), rt := fun d e => Q d (back [0] 1 e) } := by
  obtain ⟨g, rfl, hk, q⟩ := h
  show XS K [0] (t_law_whole K) [some g] _
  refine xs_ret (xe_pk (pk_andV (pk_isT (pk_var rfl) hk (by decide)) fun _ => pk_notV (pk_isT (pk_var rfl) hk (by decide))) rfl ?_)
  have e : (isTy "int" g && !isTy "bool" g) = isI g := by
    cases g <;> first | rfl | (cases hk; done) | decide
  rw [e]
  exact q
mutual
/-- the one is the other -/
def sameD : D → D → Bool
  | g, .non => g.isN
  | g, .bl b => (match g with | .bl c => c == b | _ => false)
  | g, .int i => (match g with | .int j => j == i | _ => false)
  | g, .str s => (match g with | .str r => r == s | _ => false)
  | g, .tup ds => (match g with | .tup gs => sameL gs ds | _ => false)
  | g, .lst ds => (match g with | .lst gs => sameL gs ds | .mls gs => sameL gs ds | _ => false)
  | g, .mls ds => (match g with | .lst gs => sameL gs ds | .mls gs => sameL gs ds | _ => false)
  | _, _ => false
def sameL : List D → List D → Bool
  | [], [] => true
  | g :: gs, d :: ds => sameD g d && sameL gs ds
  | _, _ => false
end
mutual
def okD : Nat → D → Bool
  | _, .non => true
  | _, .bl _ => true
  | _, .int _ => true
  | _, .str _ => true
  | n + 1, .tup ds => okL n ds && decide (ds.length ≤ 16777216)
  | n + 1, .lst ds => okL n ds && decide (ds.length ≤ 16777216)
  | n + 1, .mls ds => okL n ds && decide (ds.length ≤ 16777216)
  | _, _ => false
def okL : Nat → List D → Bool
  | _, [] => true
  | n, d :: ds => okD n d && okL n ds
end
theorem okL_get : ∀ {n : Nat} {ds : List D} {i : Nat} {d : D}, okL n ds = true → ds[i]? = some d → okD n d = true
  | _, [], _, _, _, e => by simp at e
  | n, d :: ds, 0, _, p, e => by
    simp at e
    subst e
    rw [okL, Bool.and_eq_true] at p
    exact p.1
  | n, d :: ds, i + 1, _, p, e => by
    rw [okL, Bool.and_eq_true] at p
    exact okL_get p.2 (by simpa using e)
def topP : D → Bool
  | .mls ds => pureL ds
  | d => d.pure
def S_same : Nat → Spec
  | 0 => fun _ _ => False
  | n + 1 => fun ads Q => ∃ g d : D, ads = [g, d] ∧ okD n d = true ∧ kD d = true ∧ kD g = true ∧ topP g = true ∧ topP d = true ∧ Q (.bl (sameD g d)) [some g, some d]
/-- a row's items -/
def seqOf : D → Option (List D)
  | .tup ds => some ds
  | .lst ds => some ds
  | .mls ds => some ds
  | _ => none
theorem seq_facts {d : D} {ds : List D} (h : seqOf d = some ds) : d.isS = some ds ∧ (topP d = true → pureL ds = true) ∧ (kD d = true → kL ds = true) := by
  cases d with
  | tup es => cases h; exact ⟨rfl, fun p => (by have p' : (D.tup ds).pure = true := p; rw [D.pure] at p'; exact p'), fun p => by rw [kD] at p; exact p⟩
  | lst es => cases h; exact ⟨rfl, fun p => (by have p' : (D.lst ds).pure = true := p; rw [D.pure] at p'; exact p'), fun p => by rw [kD] at p; exact p⟩
  | mls es => cases h; exact ⟨rfl, fun p => p, fun p => by rw [kD] at p; exact p⟩
  | _ => cases h
theorem pure_top {d : D} (h : d.pure = true) : topP d = true := by
  cases d with
  | mls ds => rw [D.pure] at h; cases h
  | _ => exact h
theorem sameL_take : ∀ {gs ds : List D} {k : Nat} {g d : D}, gs[k]? = some g → ds[k]? = some d → sameL (gs.take (k + 1)) (ds.take (k + 1)) = (sameL (gs.take k) (ds.take k) && sameD g d)
  | [], _, _, _, _, h, _ => by simp at h
  | _ :: _, [], _, _, _, _, h => by simp at h
  | x :: gs, y :: ds, 0, g, d, h1, h2 => by
    simp at h1 h2
    subst h1
    subst h2
    simp [sameL]
  | x :: gs, y :: ds, k + 1, g, d, h1, h2 => by
    show sameL (x :: gs.take (k + 1)) (y :: ds.take (k + 1)) = (sameL (x :: gs.take k) (y :: ds.take k) && sameD g d)
    rw [sameL, sameL, sameL_take (by simpa using h1) (by simpa using h2), Bool.and_assoc]
theorem sameL_len : ∀ {gs ds : List D}, sameL gs ds = true → gs.length = ds.length
  | [], [], _ => rfl
  | g :: gs, d :: ds, h => by
    rw [sameL, Bool.and_eq_true] at h
    rw [List.length_cons, List.length_cons, sameL_len h.2]
  | [], _ :: _, h => by cases h
  | _ :: _, [], h => by cases h
/-- a first part that is another makes the whole another -/
theorem sameL_head : ∀ {gs ds : List D} (k : Nat), sameL (gs.take k) (ds.take k) = false → sameL gs ds = false
  | [], [], k, h => by simp [sameL] at h
  | [], d :: ds, k, h => rfl
  | g :: gs, [], k, h => rfl
  | g :: gs, d :: ds, 0, h => by simp [sameL] at h
  | g :: gs, d :: ds, k + 1, h => by
    have h' : (sameD g d && sameL (gs.take k) (ds.take k)) = false := h
    rw [sameL]
    cases hb : sameD g d with
    | false => rfl
    | true =>
      rw [hb] at h'
      exact sameL_head k h'
section
variable {K : PySem.W.Frag} {fx : List Nat} {env : DEnv} {E : EndD} {tc : TT} {t u : TS}
theorem xs_ifT (h : PkT K tc env true) (k : XS K fx t env E) : XS K fx (tIfS tc t u) env E := xs_ifp h (fun _ => k) fun z => nomatch z
theorem xs_ifF (h : PkT K tc env false) (k : XS K fx u env E) : XS K fx (tIfS tc t u) env E := xs_ifp h (fun z => nomatch z) fun _ => k
end
theorem shaped_flat {d : D} (hf : d.flat = true) (hk : kD d = true) : SeqAt.shaped d.py = true := by
  cases d with
  | non => rfl
  | bl b => rfl
  | int i => rfl
  | str s =>
    have h : PyData.canLay0 (.str s) = true := hk
    show (PyData.canLay0 (.str s) && decide (PyData.depth (.str s) ≤ 64)) = true
    rw [h]
    rfl
  | _ => cases hf
theorem plain_flat {d : D} (hf : d.flat = true) : d.plain = true := by
  cases d <;> first | rfl | cases hf
theorem eqv_flat {g d : D} (hg : g.flat = true) (hd : d.flat = true) : PyData.eqv g.py d.py = eqF g d := by
  cases g <;> cases d <;> first | rfl | (cases hg; done) | (cases hd; done)
section
variable {K : PySem.W.Frag} {env : DEnv} {ta tb : TE}
theorem pk_sameS {T : String} {g d : D} (hg : Pk K ta env g) (hd : Pk K tb env d) (kg : kD g = true) (kd : kD d = true) (hT : T ∈ ["bool", "int", "str", "tuple", "list", "dict"]) (hf : d.flat = true) (hc : isTy T g = true → g.flat = true) :
    Pk K (tAndV (tIsI K T ta) (tOp (rEqD K) ta tb)) env (.bl (isTy T g && eqF g d)) := by
  refine pk_andV (pk_isT hg kg hT) fun hb => ?_
  have fg := hc hb
  rw [← eqv_flat fg hf]
  exact pk_eqD hg hd (plain_flat fg) (plain_flat hf) (shaped_flat fg kg) (shaped_flat hf kd)
end
theorem xs_law_same {K : PySem.W.Frag} (n : Nat) (ads : List D) (Q : D → List (Option D) → Prop) (h : S_same (n + 1) ads Q) :
    XS K [0, 1] (t_law_same K (S_same n) S_law_whole) (ads.map some ++ List.replicate 2 none) { nx := fun e => Q .non (back [0, 1] 2 e), rt := fun d e => Q d (back [0, 1] 2 e) } := by
  obtain ⟨g, d, rfl, hok, hkd, hkg, tg, td, q⟩ := h
  show XS K [0, 1] (t_law_same K (S_same n) S_law_whole) [some g, some d, none, none] _
  -- got's kind against a scalar
  have seqPart : ∀ (gs ds : List D), seqOf g = some gs → seqOf d = some ds → (sameD g d = sameL gs ds) → okD n d = true →
      XS K [0, 1] (tSeq (tIfS (tTest (tOp rNe (tCB (rLen2 K) (tCons (tVar 0) tNil)) (tCB (rLen2 K) (tCons (tVar 1) tNil)))) (tRet (tC (.bl false))) tNext)
         (tSeq (tFor (iRng1 (tCons (tCB (rLen2 K) (tCons (tVar 1) tNil)) tNil)) (gName 2) (tIfS (tNot (tB (tCall (spOf K (S_same n)) [] E0 (tCons (tOp (rIxS2 K) (tVar 0) (tVar 2)) (tCons (tOp (rIxS2 K) (tVar 1) (tVar 2)) tNil))))) (tRet (tC (.bl false))) tNext))
         (tRet (tC (.bl true))))) [some g, some d, none, none]
        ⟨fun e => XS K [0, 1] (tSeq (tIfS (tB (tIsI K "dict" (tVar 1))) (tSeq (tIfS (tOr (tNot (tB (tIsI K "dict" (tVar 0)))) (tTest (tOp rNe (tCB (rLen2 K) (tCons (tVar 0) tNil)) (tCB (rLen2 K) (tCons (tVar 1) tNil))))) (tRet (tC (.bl false))) tNext)
 (tSeq (tFor (iList K (tVar 1)) (gName 3) (tSeq (tIfS (tTest (tOp (rNotInD K) (tVar 3) (tVar 0))) (tRet (tC (.bl false))) tNext)
 (tIfS (tNot (tB (tCall (spOf K (S_same n)) [] E0 (tCons (tOp (rIxS2 K) (tVar 0) (tVar 3)) (tCons (tOp (rIxS2 K) (tVar 1) (tVar 3)) tNil))))) (tRet (tC (.bl false))) tNext)))
 (tRet (tC (.bl true))))) tNext)
 (tRet (tC (.bl false)))) e { nx := fun e => Q .non (back [0, 1] 2 e), rt := fun d e => Q d (back [0, 1] 2 e) }, fun d e => Q d (back [0, 1] 2 e), fun _ => False, fun _ => False⟩ := by
    intro gs ds hg hd hsame hok
    obtain ⟨sg, pg, kg⟩ := seq_facts hg
    obtain ⟨sd, pd, kd⟩ := seq_facts hd
    have pg := pg tg
    have pd := pd td
    have kg := kg hkg
    have kd := kd hkd
    have hn : ∃ m, n = m + 1 ∧ okL m ds = true ∧ ds.length ≤ 16777216 := by
      cases n with
      | zero => cases d <;> first | (cases hd; done) | (cases hok; done)
      | succ m =>
        refine ⟨m, rfl, ?_⟩
        cases d <;> first | (cases hd; done) | (cases hd; rw [okD, Bool.and_eq_true] at hok; exact ⟨hok.1, of_decide_eq_true hok.2⟩)
    obtain ⟨m, rfl, hokl, hlen⟩ := hn
    refine xs_seq (xs_ifp (pkt_test (pk_neI (pk_len (pk_var rfl) sg) (pk_len (pk_var rfl) sd))) (fun hb => xs_ret (xe_pk pk_bl rfl ?_)) fun hb => xs_next ?_)
    · have hne : ¬ gs.length = ds.length := by
        simp only [Bool.not_eq_true', decide_eq_false_iff_not] at hb
        omega
      have e : sameD g d = false := by
        rw [hsame]
        cases z : sameL gs ds with
        | false => rfl
        | true => exact absurd (sameL_len z) hne
      rw [e] at q
      exact q
    · have heq : gs.length = ds.length := by
        simp only [Bool.not_eq_false', decide_eq_true_eq] at hb
        omega
      refine xs_cut (fun e => sameL gs ds = true ∧ ∃ x, e = [some g, some d, x, none]) ?_ ?_
      · refine xs_for1 (xe_pk (pk_len (pk_var rfl) sd) rfl ⟨_, fun k e => sameL (gs.take k) (ds.take k) = true ∧ ∃ x, e = [some g, some d, x, none], rfl, by omega, by omega, ⟨rfl, _, rfl⟩, ?_, ?_⟩)
        · rintro k e hk ⟨hs, x, rfl⟩
          have hk' : k < ds.length := by omega
          refine gx_name (by decide) (show 2 < 4 by decide) ?_
          dsimp only [List.set]
          have eg : gs[k]? = some gs[k] := List.getElem?_eq_getElem (by omega)
          have ed : ds[k]? = some ds[k] := List.getElem?_eq_getElem hk'
          have ag : atI gs (k : Int) = some gs[k] := by
            unfold atI
            rw [ixN_pos (by omega) (by omega)]
            exact eg
          have ad : atI ds (k : Int) = some ds[k] := by
            unfold atI
            rw [ixN_pos (by omega) (by omega)]
            exact ed
          have ppg := pureL_get pg eg
          have ppd := pureL_get pd ed
          refine xs_if (xt_not (xt_B (xe_call (xa_pk (pk_ixS (pk_var rfl) (pk_var rfl) sg ag) ppg (xa_pk (pk_ixS (pk_var rfl) (pk_var rfl) sd ad) ppd (xa_nil ⟨_, _, rfl, gs[k], ds[k], rfl, okL_get hokl ed, kL_get kd ed, kL_get kg eg, pure_top ppg, pure_top ppd, _, rfl, ?_⟩))))))
          have hst := sameL_take eg ed
          rw [hs, Bool.true_and] at hst
          refine ⟨fun hb => xs_ret (xe_pk pk_bl rfl ?_), fun hb => xs_next ⟨?_, _, rfl⟩⟩
          · have e : sameD g d = false := by
              rw [hsame]
              refine sameL_head (k + 1) ?_
              rw [hst]
              simpa using hb
            rw [e] at q
            exact q
          · rw [hst]
            simpa using hb
        · rintro e ⟨hs, x, rfl⟩
          have h1 : gs.take ds.length = gs := List.take_of_length_le (by omega)
          rw [Int.toNat_natCast, h1, List.take_length] at hs
          exact ⟨hs, x, rfl⟩
      · rintro e ⟨hs, x, rfl⟩
        refine xs_ret (xe_pk pk_bl rfl ?_)
        rw [hsame, hs] at q
        exact q
  have kinds : ∀ {T : String}, T ∈ ["bool", "int", "str", "tuple", "list", "dict"] → PkT K (tB (tIsI K T (tVar 1))) [some g, some d, none, none] (isTy T d) := fun hT => pkt_B (pk_isT (pk_var rfl) hkd hT)
  have kinds0 : ∀ {T : String}, T ∈ ["bool", "int", "str", "tuple", "list", "dict"] → PkT K (tB (tIsI K T (tVar 0))) [some g, some d, none, none] (isTy T g) := fun hT => pkt_B (pk_isT (pk_var rfl) hkg hT)
  have isn : PkT K (tTest (tOp rIsN2 (tVar 1) (tC .non))) [some g, some d, none, none] d.isN := pkt_test (pk_isN (pk_var rfl))
  cases d with
  | cst ds => cases hkd
  | dct a b => cases hkd
  | raw o => cases hkd
  | non =>
    refine xs_seq (xs_ifT isn (xs_ret (xe_pk (pk_isN (pk_var rfl)) rfl ?_)))
    rw [sameD] at q
    exact q
  | bl b =>
    refine xs_seq (xs_ifF isn (xs_next ?_))
    have e1 : isTy "bool" (D.bl b) = true := by show subT "bool" "bool" = true; decide
    refine xs_seq (xs_ifT (e1 ▸ kinds (T := "bool") (by decide)) (?_))
    refine xs_ret (xe_pk (pk_sameS (pk_var rfl) (pk_var rfl) hkg hkd (by decide) rfl ?_) rfl ?_)
    · intro h
      cases g <;> first | rfl | (exact absurd h (show ¬ subT "tuple" "bool" = true by decide)) | (exact absurd h (show ¬ subT "list" "bool" = true by decide)) | (cases hkg; done)
    · have e : (isTy "bool" g && eqF g (.bl b)) = sameD g (.bl b) := by
        cases g <;> first | rfl | (cases hkg; done)
      rw [e]
      exact q
  | int i =>
    refine xs_seq (xs_ifF isn (xs_next ?_))
    have e1 : isTy "bool" (D.int i) = false := by show subT "int" "bool" = false; decide
    have e2 : isTy "int" (D.int i) = true := by show subT "int" "int" = true; decide
    refine xs_seq (xs_ifF (e1 ▸ kinds (T := "bool") (by decide)) (xs_next ?_))
    refine xs_seq (xs_ifT (e2 ▸ kinds (T := "int") (by decide)) (?_))
    refine xs_ret (xe_andV (xe_call (xa_bor rfl (xa_nil ⟨_, _, rfl, g, rfl, hkg, _, rfl, fun hb => ?_, fun hb => ?_⟩))))
    · cases g <;> first | (cases hb; done) | skip
      refine xe_pk (pk_eqD (pk_var rfl) (pk_var rfl) rfl rfl rfl rfl) rfl ?_
      exact q
    · have e : sameD g (.int i) = false := by
        cases g <;> first | rfl | (cases hb; done)
      rw [e] at q
      exact q
  | str s =>
    refine xs_seq (xs_ifF isn (xs_next ?_))
    have e1 : isTy "bool" (D.str s) = false := by show subT "str" "bool" = false; decide
    have e2 : isTy "int" (D.str s) = false := by show subT "str" "int" = false; decide
    have e3 : isTy "str" (D.str s) = true := by show subT "str" "str" = true; decide
    refine xs_seq (xs_ifF (e1 ▸ kinds (T := "bool") (by decide)) (xs_next ?_))
    refine xs_seq (xs_ifF (e2 ▸ kinds (T := "int") (by decide)) (xs_next ?_))
    refine xs_seq (xs_ifT (e3 ▸ kinds (T := "str") (by decide)) (?_))
    refine xs_ret (xe_pk (pk_sameS (pk_var rfl) (pk_var rfl) hkg hkd (by decide) rfl ?_) rfl ?_)
    · intro h
      cases g <;> first | rfl | (exact absurd h (show ¬ subT "tuple" "str" = true by decide)) | (exact absurd h (show ¬ subT "list" "str" = true by decide)) | (cases hkg; done)
    · have e : (isTy "str" g && eqF g (.str s)) = sameD g (.str s) := by
        cases g <;> first | rfl | (cases hkg; done)
      rw [e]
      exact q
  | tup ds =>
    refine xs_seq (xs_ifF isn (xs_next ?_))
    have e1 : isTy "bool" (D.tup ds) = false := by show subT "tuple" "bool" = false; decide
    have e2 : isTy "int" (D.tup ds) = false := by show subT "tuple" "int" = false; decide
    have e3 : isTy "str" (D.tup ds) = false := by show subT "tuple" "str" = false; decide
    have e4 : isTy "tuple" (D.tup ds) = true := by show subT "tuple" "tuple" = true; decide
    have e5 : isTy "list" (D.tup ds) = false := by show subT "tuple" "list" = false; decide
    refine xs_seq (xs_ifF (e1 ▸ kinds (T := "bool") (by decide)) (xs_next ?_))
    refine xs_seq (xs_ifF (e2 ▸ kinds (T := "int") (by decide)) (xs_next ?_))
    refine xs_seq (xs_ifF (e3 ▸ kinds (T := "str") (by decide)) (xs_next ?_))
    refine xs_seq (xs_ifT (pkt_or (b := true) (c := false) (e4 ▸ kinds (T := "tuple") (by decide)) (fun z => nomatch z)) (?_))
    cases hg : isTy "tuple" g with
    | false =>
      refine xs_seq (xs_ifT (pkt_and (b := true) (e4 ▸ kinds (T := "tuple") (by decide)) fun _ => pkt_not (b := false) (hg ▸ kinds0 (T := "tuple") (by decide))) (xs_ret (xe_pk pk_bl rfl ?_)))
      have e : sameD g (.tup ds) = false := by
        cases g <;> first | rfl | (exact absurd hg (show ¬ subT "tuple" "tuple" = false by decide))
      rw [e] at q
      exact q
    | true =>
      refine xs_seq (xs_ifF (pkt_and (b := true) (e4 ▸ kinds (T := "tuple") (by decide)) fun _ => pkt_not (b := true) (hg ▸ kinds0 (T := "tuple") (by decide))) (xs_next ?_))
      refine xs_seq (xs_ifF (pkt_and (b := false) (c := false) (e5 ▸ kinds (T := "list") (by decide)) fun z => nomatch z) (xs_next ?_))
      obtain ⟨gs, rfl⟩ : ∃ gs, g = .tup gs := by
        cases g <;> first | exact ⟨_, rfl⟩ | (cases hkg; done) | (exact absurd hg (show ¬ subT "NoneType" "tuple" = true by decide)) | (exact absurd hg (show ¬ subT "bool" "tuple" = true by decide)) | (exact absurd hg (show ¬ subT "int" "tuple" = true by decide)) | (exact absurd hg (show ¬ subT "str" "tuple" = true by decide)) | (exact absurd hg (show ¬ subT "list" "tuple" = true by decide))
      exact seqPart gs ds rfl rfl rfl hok
  | lst ds =>
    refine xs_seq (xs_ifF isn (xs_next ?_))
    have e1 : isTy "bool" (D.lst ds) = false := by show subT "list" "bool" = false; decide
    have e2 : isTy "int" (D.lst ds) = false := by show subT "list" "int" = false; decide
    have e3 : isTy "str" (D.lst ds) = false := by show subT "list" "str" = false; decide
    have e4 : isTy "tuple" (D.lst ds) = false := by show subT "list" "tuple" = false; decide
    have e5 : isTy "list" (D.lst ds) = true := by show subT "list" "list" = true; decide
    refine xs_seq (xs_ifF (e1 ▸ kinds (T := "bool") (by decide)) (xs_next ?_))
    refine xs_seq (xs_ifF (e2 ▸ kinds (T := "int") (by decide)) (xs_next ?_))
    refine xs_seq (xs_ifF (e3 ▸ kinds (T := "str") (by decide)) (xs_next ?_))
    refine xs_seq (xs_ifT (pkt_or (b := false) (c := true) (e4 ▸ kinds (T := "tuple") (by decide)) fun _ => (e5 ▸ kinds (T := "list") (by decide))) (?_))
    refine xs_seq (xs_ifF (pkt_and (b := false) (c := false) (e4 ▸ kinds (T := "tuple") (by decide)) fun z => nomatch z) (xs_next ?_))
    cases hg : isTy "list" g with
    | false =>
      refine xs_seq (xs_ifT (pkt_and (b := true) (e5 ▸ kinds (T := "list") (by decide)) fun _ => pkt_not (b := false) (hg ▸ kinds0 (T := "list") (by decide))) (xs_ret (xe_pk pk_bl rfl ?_)))
      have e : sameD g (.lst ds) = false := by
        cases g <;> first | rfl | (exact absurd hg (show ¬ subT "list" "list" = false by decide))
      rw [e] at q
      exact q
    | true =>
      refine xs_seq (xs_ifF (pkt_and (b := true) (e5 ▸ kinds (T := "list") (by decide)) fun _ => pkt_not (b := true) (hg ▸ kinds0 (T := "list") (by decide))) (xs_next ?_))
      obtain ⟨gs, hgs, hsm⟩ : ∃ gs, seqOf g = some gs ∧ sameD g (.lst ds) = sameL gs ds := by
        cases g <;> first | exact ⟨_, rfl, rfl⟩ | (cases hkg; done) | (exact absurd hg (show ¬ subT "NoneType" "list" = true by decide)) | (exact absurd hg (show ¬ subT "bool" "list" = true by decide)) | (exact absurd hg (show ¬ subT "int" "list" = true by decide)) | (exact absurd hg (show ¬ subT "str" "list" = true by decide)) | (exact absurd hg (show ¬ subT "tuple" "list" = true by decide))
      exact seqPart gs ds hgs rfl hsm hok
  | mls ds =>
    refine xs_seq (xs_ifF isn (xs_next ?_))
    have e1 : isTy "bool" (D.mls ds) = false := by show subT "list" "bool" = false; decide
    have e2 : isTy "int" (D.mls ds) = false := by show subT "list" "int" = false; decide
    have e3 : isTy "str" (D.mls ds) = false := by show subT "list" "str" = false; decide
    have e4 : isTy "tuple" (D.mls ds) = false := by show subT "list" "tuple" = false; decide
    have e5 : isTy "list" (D.mls ds) = true := by show subT "list" "list" = true; decide
    refine xs_seq (xs_ifF (e1 ▸ kinds (T := "bool") (by decide)) (xs_next ?_))
    refine xs_seq (xs_ifF (e2 ▸ kinds (T := "int") (by decide)) (xs_next ?_))
    refine xs_seq (xs_ifF (e3 ▸ kinds (T := "str") (by decide)) (xs_next ?_))
    refine xs_seq (xs_ifT (pkt_or (b := false) (c := true) (e4 ▸ kinds (T := "tuple") (by decide)) fun _ => (e5 ▸ kinds (T := "list") (by decide))) (?_))
    refine xs_seq (xs_ifF (pkt_and (b := false) (c := false) (e4 ▸ kinds (T := "tuple") (by decide)) fun z => nomatch z) (xs_next ?_))
    cases hg : isTy "list" g with
    | false =>
      refine xs_seq (xs_ifT (pkt_and (b := true) (e5 ▸ kinds (T := "list") (by decide)) fun _ => pkt_not (b := false) (hg ▸ kinds0 (T := "list") (by decide))) (xs_ret (xe_pk pk_bl rfl ?_)))
      have e : sameD g (.mls ds) = false := by
        cases g <;> first | rfl | (exact absurd hg (show ¬ subT "list" "list" = false by decide))
      rw [e] at q
      exact q
    | true =>
      refine xs_seq (xs_ifF (pkt_and (b := true) (e5 ▸ kinds (T := "list") (by decide)) fun _ => pkt_not (b := true) (hg ▸ kinds0 (T := "list") (by decide))) (xs_next ?_))
      obtain ⟨gs, hgs, hsm⟩ : ∃ gs, seqOf g = some gs ∧ sameD g (.mls ds) = sameL gs ds := by
        cases g <;> first | exact ⟨_, rfl, rfl⟩ | (cases hkg; done) | (exact absurd hg (show ¬ subT "NoneType" "list" = true by decide)) | (exact absurd hg (show ¬ subT "bool" "list" = true by decide)) | (exact absurd hg (show ¬ subT "int" "list" = true by decide)) | (exact absurd hg (show ¬ subT "str" "list" = true by decide)) | (exact absurd hg (show ¬ subT "tuple" "list" = true by decide))
      exact seqPart gs ds hgs rfl hsm hok
end DL

set_option autoImplicit false
set_option linter.all false
namespace DL
open PySem L2
def t_steps_from (K : PySem.W.Frag) (S_reached S_joints : Spec) : TS :=
 (tRet (tCall (spOf K S_reached) [] E0 (tCons (tCall (spOf K S_joints) [] E0 (tCons (tVar 0) tNil)) (tCons (tVar 1) tNil))))
def t_is_pair (K : PySem.W.Frag) : TS :=
 (tSeq (tAsg (tVar 1) (gTup K 2 (gCons (gName 2) (gCons (gName 3) gNil))))
 (tSeq (tIfS (tOr (tTest (tOp rLt2 (tVar 2) (tC (.int 0)))) (tOr (tTest (tOp rLt2 (tVar 3) (tC (.int 0)))) (tOr (tTest (tOp rGe2 (tVar 2) (tCB (rLen2 K) (tCons (tVar 0) tNil)))) (tTest (tOp rGe2 (tVar 3) (tCB (rLen2 K) (tCons (tVar 0) tNil))))))) (tRet (tC (.bl false))) tNext)
 (tRet (tAndV (tOp rNe (tVar 2) (tVar 3)) (tOp rEq (tOp (rIxT K) (tVar 0) (tVar 2)) (tOp (rIxT K) (tVar 0) (tVar 3)))))))
def t_is_walk (K : PySem.W.Frag) (S_reached S_joints S_is_pair : Spec) : TS :=
 (tSeq (tIfS (tOr (tTest (tOp rEq (tCB (rLen2 K) (tCons (tVar 1) tNil)) (tC (.int 0)))) (tNot (tB (tCB (rAll K) (tCons (tLc (iTup K (tVar 1)) (gName 5) tYes (tCall (spOf K S_is_pair) [] E0 (tCons (tOp (rIxT K) (tVar 0) (tC (.int 0))) (tCons (tVar 5) tNil))) [5]) tNil))))) (tRet (tC (.bl false))) tNext)
 (tSeq (tAsg (tCall (spOf K S_joints) [] E0 (tCons (tVar 0) tNil)) (gName 2))
 (tSeq (tFor (RZ.iZipA K (tCons (tVar 1) (tCons (L2.tSl (rSlA K) (tVar 1) (tPart (tC (.int 1))) tNoPart) tNil))) (gTup K 2 (gCons (gName 3) (gCons (gName 4) gNil))) (tIfS (tTest (tOp (rNotInD K) (tVar 4) (tCall (spOf K S_reached) [] E0 (tCons (tVar 2) (tCons (tVar 3) tNil))))) (tRet (tC (.bl false))) tNext))
 (tRet (tC (.bl true))))))
def t_is_exchange (K : PySem.W.Frag) (S_turned_about S_is_walk : Spec) : TS :=
 (tRet (tAndV (tCall (spOf K S_is_walk) [] E0 (tCons (tVar 0) (tCons (tVar 1) tNil))) (tOp (rEqD K) (tOp (rIxT K) (tVar 1) (tUn rNeg (tC (.int 1)))) (tCall (spOf K S_turned_about) [] E0 (tCons (tOp (rIxT K) (tVar 1) (tC (.int 0))) tNil)))))

theorem take1 {d : D} {e : DEnv} : take [Arg.val d] e = some ([d], e) := rfl
theorem take2 {d d' : D} {e : DEnv} : take [Arg.val d, Arg.val d'] e = some ([d, d'], e) := rfl
section
variable {K : PySem.W.Frag} {env : DEnv} {te ta tb : TE} {Q : D → DEnv → Prop}
theorem xe_joints {n : Net} (h : Pk K te env n.dat) (hn : n.Ok) (q : ∀ bs hs, Sd (n.sg.map Prod.swap) bs n.lv.length → Sd n.sg hs n.lv.length → Q (.mls (jD bs hs)) env) : XE K (tCall (spOf K S_joints) [] E0 (tCons te tNil)) env Q :=
  xe_call (xa_pk h n.pure (xa_nil ⟨_, _, rfl, n, rfl, hn, fun bs hs h1 h2 => q bs hs h1 h2⟩))
theorem jD_pure (bs hs : List (List Int)) : pureL (jD bs hs) = true := by
  refine pureL_all fun d m => ?_
  unfold jD at m
  rw [List.zipWith_eq_zipWith_take_min] at m
  have key : ∀ (xs ys : List (List Int)), ∀ d ∈ List.zipWith (fun x y => D.tup [LL x, LL y]) xs ys, d.pure = true := by
    intro xs
    induction xs with
    | nil => intro ys d m; simp at m
    | cons x xs ih =>
      intro ys d m
      cases ys with
      | nil => simp at m
      | cons y ys =>
        rcases List.mem_cons.mp m with rfl | m
        · show ((LL x).pure && ((LL y).pure && true)) = true
          rw [LL_pure, LL_pure]
          rfl
        · exact ih ys d m
  exact key _ _ d m
theorem xe_reached {n : Net} {bs hs : List (List Int)} {t : D} {p : Int × Int} (h : XE K ta env fun x e => x = t ∧ XE K tb e fun y e2 => y = pD p ∧ t.isL = some (jD bs hs) ∧ n.Ok ∧ Sd (n.sg.map Prod.swap) bs n.lv.length ∧ Sd n.sg hs n.lv.length ∧ 0 ≤ p.1 ∧ p.1 < n.lv.length ∧ 0 ≤ p.2 ∧ p.2 < n.lv.length ∧
    ∀ qs : List (Int × Int), (∀ x, x ∈ qs ↔ n.Step p x) → qs.Pairwise lexLt → Q (.mls (qs.map pD)) e2) : XE K (tCall (spOf K S_reached) [] E0 (tCons ta (tCons tb tNil))) env Q := by
  refine xe_call (xa_val (h.imp fun x e ⟨hx, h2⟩ => xa_val (h2.imp fun y e2 ⟨hy, ht, hn, h3, h4, a0, a1, b0, b1, q⟩ => xa_nil ⟨_, _, rfl, n, t, bs, hs, p, by rw [hx, hy], ht, hn, h3, h4, a0, a1, b0, b1, fun qs hp hw => ?_⟩)))
  have nd := step_nodup hn h3 h4 a0 a1 b0 b1
  refine q qs (fun x => ?_) (lexLt_of (hp.nodup_iff.mpr nd) hw)
  rw [hp.mem_iff]
  exact step_mem h3 h4 a0 a1 b0 b1 x
end
def S_steps_from : Spec := fun ads Q => ∃ (n : Net) (p : Int × Int), ads = [n.dat, pD p] ∧ n.Ok ∧ 0 ≤ p.1 ∧ p.1 < n.lv.length ∧ 0 ≤ p.2 ∧ p.2 < n.lv.length ∧
  ∀ qs : List (Int × Int), (∀ x, x ∈ qs ↔ n.Step p x) → qs.Pairwise lexLt → Q (.mls (qs.map pD)) [none, none]
theorem xs_steps_from {K : PySem.W.Frag} (ads : List D) (Q : D → List (Option D) → Prop) (h : S_steps_from ads Q) :
    XS K [] (t_steps_from K S_reached S_joints) (ads.map some ++ List.replicate 0 none) { nx := fun e => Q .non (back [] 2 e), rt := fun d e => Q d (back [] 2 e) } := by
  obtain ⟨n, p, rfl, hn, a0, a1, b0, b1, q⟩ := h
  show XS K [] (t_steps_from K S_reached S_joints) [some n.dat, some (pD p)] _
  have run : ∀ bs hs, Sd (n.sg.map Prod.swap) bs n.lv.length → Sd n.sg hs n.lv.length → True := fun _ _ _ _ => trivial
  refine xs_ret (xe_call (xa_val (xe_joints (pk_var rfl) hn fun bs hs h3 h4 => xa_pk (pk_var rfl) rfl (xa_nil ⟨_, _, rfl, n, _, bs, hs, p, rfl, rfl, hn, h3, h4, a0, a1, b0, b1, fun qs hp hw => ?_⟩))))
  have nd := step_nodup hn h3 h4 a0 a1 b0 b1
  refine q qs (fun x => ?_) (lexLt_of (hp.nodup_iff.mpr nd) hw)
  rw [hp.mem_iff]
  exact step_mem h3 h4 a0 a1 b0 b1 x
/-- two different places of one level -/
def PairOk (lv : List Int) (p : Int × Int) : Prop := 0 ≤ p.1 ∧ p.1 < lv.length ∧ 0 ≤ p.2 ∧ p.2 < lv.length ∧ p.1 ≠ p.2 ∧ gt lv p.1 = gt lv p.2
def S_is_pair : Spec := fun ads Q => ∃ (lv : List Int) (p : Int × Int), ads = [.tup (lv.map D.int), pD p] ∧ ∀ b : Bool, (b = true ↔ PairOk lv p) → Q (.bl b) [none, none]
theorem xs_is_pair {K : PySem.W.Frag} (ads : List D) (Q : D → List (Option D) → Prop) (h : S_is_pair ads Q) :
    XS K [] (t_is_pair K) (ads.map some ++ List.replicate 2 none) { nx := fun e => Q .non (back [] 2 e), rt := fun d e => Q d (back [] 2 e) } := by
  obtain ⟨lv, ⟨a, b⟩, rfl, q⟩ := h
  show XS K [] (t_is_pair K) [some (.tup (lv.map D.int)), some (pD (a, b)), none, none] _
  refine xs_seq (xs_asg (xe_pk (pk_var rfl) rfl (gx_tup rfl (gxs_cons Kp.rl (gx_name (by decide) (show 2 < 4 by decide) (gxs_cons Kp.rl (gx_name (by decide) (show 3 < 4 by decide) (gxs_nil Kp.rl ?_))))))))
  dsimp only [List.set]
  refine xs_seq (xs_ifp (by none_booked) (fun hb => xs_ret (xe_pk pk_bl rfl (q false ?_))) fun hb => xs_next ?_)
  · simp only [Bool.or_eq_true, decide_eq_true_eq, List.length_map] at hb
    unfold PairOk
    constructor
    · intro z; cases z
    · rintro ⟨h1, h2, h3, h4, _⟩
      dsimp only at h1 h2 h3 h4
      omega
  · simp only [Bool.or_eq_false_iff, decide_eq_false_iff_not, List.length_map] at hb
    obtain ⟨h1, h2, h3, h4⟩ := hb
    refine xs_ret (xe_pk (pk_andV (pk_neI (pk_var rfl) (pk_var rfl)) fun _ => pk_eqI (pk_ixT (pk_var rfl) (pk_var rfl) rfl (atI_map (by omega) (by omega))) (pk_ixT (pk_var rfl) (pk_var rfl) rfl (atI_map (by omega) (by omega)))) rfl (q _ ?_))
    simp only [Bool.and_eq_true, Bool.not_eq_true', decide_eq_false_iff_not, decide_eq_true_eq]
    unfold PairOk
    dsimp only
    constructor
    · rintro ⟨k1, k2⟩
      exact ⟨by omega, by omega, by omega, by omega, k1, k2⟩
    · rintro ⟨_, _, _, _, k1, k2⟩
      exact ⟨k1, k2⟩
/-- each item a step behind the one before -/
def Steps (n : Net) (row : List (Int × Int)) (m : Nat) : Prop := ∀ (i : Nat) (x y : Int × Int), i < m → row[i]? = some x → row[i + 1]? = some y → n.Step x y
def IsWalk (n : Net) (row : List (Int × Int)) : Prop := 0 < row.length ∧ (∀ p ∈ row, PairOk n.lv p) ∧ Steps n row (row.length - 1)
theorem eqv_pD (p q : Int × Int) : PyData.eqv (pD p).py (pD q).py = decide (p = q) := by
  show (p.1 == q.1 && (p.2 == q.2 && true)) = _
  obtain ⟨a, b⟩ := p
  obtain ⟨c, d⟩ := q
  by_cases h1 : a = c
  · by_cases h2 : b = d
    · subst h1; subst h2; simp
    · have : ¬ ((a, b) = (c, d)) := fun z => h2 (by injection z)
      simp [h2]
  · have : ¬ ((a, b) = (c, d)) := fun z => h1 (by injection z)
    simp [h1]
theorem py_pairs (qs : List (Int × Int)) : pyL (qs.map pD) = qs.map fun x => (pD x).py := pyL_map pD qs
theorem any_pD (qs : List (Int × Int)) (p : Int × Int) : ((pyL (qs.map pD)).any fun z => PyData.eqv z (pD p).py) = decide (p ∈ qs) := by
  rw [py_pairs]
  induction qs with
  | nil => rfl
  | cons x qs ih =>
    rw [List.map_cons, List.any_cons, ih, eqv_pD]
    by_cases h : x = p
    · subst h; simp
    · have h' : ¬ p = x := fun e => h e.symm
      simp [h, h']
theorem shaped_pD (p : Int × Int) : SeqAt.shaped (pD p).py = true := rfl
theorem shaped_rows : ∀ qs : List (Int × Int), PyData.canLayAll0 (pyL (qs.map pD)) = true ∧ PyData.depthAll (pyL (qs.map pD)) ≤ 1
  | [] => ⟨rfl, by decide⟩
  | x :: qs => by
    obtain ⟨h1, h2⟩ := shaped_rows qs
    refine ⟨?_, ?_⟩
    · show (PyData.canLay0 (pD x).py && PyData.canLayAll0 (pyL (qs.map pD))) = true
      rw [h1]
      rfl
    · show max (PyData.depth (pD x).py) (PyData.depthAll (pyL (qs.map pD))) ≤ 1
      have : PyData.depth (pD x).py = 1 := rfl
      omega
theorem shaped_list (qs : List (Int × Int)) : SeqAt.shaped (.list (pyL (qs.map pD))) = true := by
  obtain ⟨h1, h2⟩ := shaped_rows qs
  show (PyData.canLayAll0 (pyL (qs.map pD)) && decide (PyData.depthAll (pyL (qs.map pD)) + 1 ≤ 64)) = true
  rw [h1, decide_eq_true (by omega)]
  rfl
theorem plain_rows (qs : List (Int × Int)) : plainL (qs.map pD) = true := plainL_map (fun _ => rfl) qs
def S_is_walk : Spec := fun ads Q => ∃ (n : Net) (row : List (Int × Int)), ads = [n.dat, .tup (row.map pD)] ∧ n.Ok ∧ row.length ≤ 16777216 ∧ ∀ b : Bool, (b = true ↔ IsWalk n row) → Q (.bl b) [none, none]
theorem Net.at0 (n : Net) : atI [D.tup (n.lv.map D.int), .tup (n.sg.map pD)] 0 = some (.tup (n.lv.map D.int)) := rfl
theorem xs_is_walk {K : PySem.W.Frag} (ads : List D) (Q : D → List (Option D) → Prop) (h : S_is_walk ads Q) :
    XS K [] (t_is_walk K S_reached S_joints S_is_pair) (ads.map some ++ List.replicate 4 none) { nx := fun e => Q .non (back [] 2 e), rt := fun d e => Q d (back [] 2 e) } := by
  obtain ⟨n, row, rfl, hn, hz, q⟩ := h
  have hs : sizeLine = 16777216 := sizeLine_eq
  show XS K [] (t_is_walk K S_reached S_joints S_is_pair) [some n.dat, some (.tup (row.map pD)), none, none, none, none] _
  refine xs_cut (fun e => 0 < row.length ∧ (∀ p ∈ row, PairOk n.lv p) ∧ e = [some n.dat, some (.tup (row.map pD)), none, none, none, none]) ?_ ?_
  · refine xs_if (xt_or (xt_pk (pkt_test (pk_eqI (pk_len (pk_var rfl) (ds := row.map pD) rfl) pk_int)) ⟨fun hb => ⟨fun _ => xs_ret (xe_pk pk_bl rfl (q false ?_)), fun z => nomatch z⟩, fun hb => xt_not (xt_B (xe_all (xe_lcT (xe_pk (pk_var rfl) (tup_pure (own_pairs row)) ⟨row.map pD,
      fun k acc e => ∃ bs : List Bool, acc = bs.map D.bl ∧ bs.length = k ∧ (bs.all id = true ↔ ∀ p ∈ row.take k, PairOk n.lv p) ∧ e = [some n.dat, some (.tup (row.map pD)), none, none, none, none], rfl, own_pairs row, ⟨[], rfl, rfl, by simp, rfl⟩, ?_, ?_⟩))))⟩))
    · have h0 : row.length = 0 := by
        have := of_decide_eq_true hb
        rw [List.length_map] at this
        omega
      constructor
      · intro z; cases z
      · rintro ⟨h, _⟩; omega
    · rintro k x acc e hx ⟨bs, rfl, hl, hall, rfl⟩
      rw [List.getElem?_map] at hx
      cases hg : row[k]? with
      | none => rw [hg] at hx; cases hx
      | some p =>
        rw [hg] at hx
        cases hx
        have hkl := (List.getElem?_eq_some_iff.mp hg).1
        refine gc_name (by decide) (show 5 < 6 by decide) (xt_yes ⟨fun _ => xe_call (xa_pk (pk_ixT (pk_var rfl) pk_int rfl n.at0) (tup_pure (own_ints _)) (xa_pk (pk_var rfl) rfl (xa_nil ⟨_, _, rfl, n.lv, p, rfl, fun b hb => ⟨?_, bs ++ [b], ?_, ?_, ?_, ?_⟩⟩))), fun z => nomatch z⟩)
        · rw [List.length_map]; omega
        · rw [List.map_append]; rfl
        · rw [List.length_append, hl]; rfl
        · rw [List.all_append, Bool.and_eq_true, hall, List.take_add_one, hg]
          have e1 : ([b].all id = true) ↔ PairOk n.lv p := by
            rw [← hb]
            simp
          rw [e1]
          constructor
          · rintro ⟨h1, h2⟩ x m
            rcases List.mem_append.mp m with m | m
            · exact h1 x m
            · have m' : x ∈ [p] := m
              rw [List.mem_singleton.mp m']
              exact h2
          · intro h
            exact ⟨fun x m => h x (List.mem_append_left _ m), h p (List.mem_append_right _ (by simp))⟩
        · rfl
    · rintro acc e ⟨bs, rfl, hl, hall, rfl⟩
      rw [List.length_map, List.take_length] at hall
      have h0 : 0 < row.length := by
        have := of_decide_eq_false hb
        rw [List.length_map] at this
        omega
      refine ⟨bs, rfl, _, rfl, fun hb2 => xs_ret (xe_pk pk_bl rfl (q false ?_)), fun hb2 => xs_next ⟨h0, ?_, rfl⟩⟩
      · constructor
        · intro z; cases z
        · rintro ⟨_, h, _⟩
          rw [hall.mpr h] at hb2
          cases hb2
      · refine hall.mp ?_
        simpa using hb2
  rintro e ⟨h0, hpair, rfl⟩
  refine xs_seq (xs_set (xe_frz (xe_joints (pk_var rfl) hn fun bs hs h3 h4 => ⟨by rw [D.noraw]; exact pureL_noraw (jD_pure _ _), ?_⟩)))
  rw [D.frz, frzL_id (jD_pure _ _)]
  dsimp only [List.set]
  refine xs_cut (fun e => Steps n row (row.length - 1) ∧ ∃ x3 x4, e = [some n.dat, some (.tup (row.map pD)), some (.lst (jD bs hs)), x3, x4, none]) ?_ ?_
  · refine xs_forZT (xa_pk (pk_var rfl) (tup_pure (own_pairs row)) (xa_val (xe_slT (xe_pk (pk_var rfl) (tup_pure (own_pairs row)) ⟨_, _, _, rfl, own_pairs row, pko_part pk_int, pko_none, xa_nil ⟨row.map pD, cutD (row.map pD) (some 1) none, fun k e => Steps n row k ∧ ∃ x3 x4, e = [some n.dat, some (.tup (row.map pD)), some (.lst (jD bs hs)), x3, x4, none], rfl, own_pairs row, ?_, ⟨?_, _, _, rfl⟩, ?_, ?_⟩⟩))))
    · rw [cut_from _ (by decide) (by omega)]
      exact own_pairs _
    · intro i x y hi
      omega
    · rintro k x y e hx hy ⟨hst, x3, x4, rfl⟩
      rw [cut_from _ (by decide) (by omega), List.getElem?_map, List.getElem?_drop] at hy
      rw [List.getElem?_map] at hx
      have e1 : (1 : Int).toNat + k = k + 1 := by omega
      rw [e1] at hy
      cases hg : row[k]? with
      | none => rw [hg] at hx; cases hx
      | some p =>
        rw [hg] at hx
        cases hx
        cases hg2 : row[k + 1]? with
        | none => rw [hg2] at hy; cases hy
        | some p2 =>
          rw [hg2] at hy
          cases hy
          obtain ⟨a0, a1, b0, b1, _⟩ := hpair p (List.mem_of_getElem? hg)
          refine gx_tup rfl (gxs_cons Kp.rl (gx_name (by decide) (show 3 < 6 by decide) (gxs_cons Kp.rl (gx_name (by decide) (show 4 < 6 by decide) (gxs_nil Kp.rl ?_)))))
          dsimp only [List.set]
          refine xs_if (xt_test (xe_inD (neg := true) rfl (xe_pk (pk_var rfl) rfl ⟨rfl, shaped_pD p2, xe_reached (n := n) (bs := bs) (hs := hs) (p := p) (xe_pk (pk_var rfl) (lst_pure (jD_pure _ _)) ⟨rfl, xe_pk (pk_var rfl) rfl ⟨rfl, rfl, hn, h3, h4, a0, a1, b0, b1, fun qs hq hw => ⟨qs.map pD, rfl, plain_rows qs, shaped_list qs, _, rfl, ?_⟩⟩⟩)⟩)))
          rw [if_pos rfl, any_pD]
          refine ⟨fun hb => xs_ret (xe_pk pk_bl rfl (q false ?_)), fun hb => xs_next ⟨?_, _, _, rfl⟩⟩
          · have hni : p2 ∉ qs := by simpa using hb
            constructor
            · intro z; cases z
            · rintro ⟨_, _, h⟩
              have hk2 := (List.getElem?_eq_some_iff.mp hg2).1
              exact absurd ((hq p2).mpr (h k p p2 (by omega) hg hg2)) hni
          · have hin : p2 ∈ qs := by simpa using hb
            intro i x y hi hx hy
            by_cases hik : i = k
            · subst hik
              rw [hg] at hx
              rw [hg2] at hy
              cases hx
              cases hy
              exact (hq p2).mp hin
            · exact hst i x y (by omega) hx hy
    · rintro e ⟨hst, x3, x4, rfl⟩
      refine ⟨?_, _, _, rfl⟩
      rw [cut_from _ (by decide) (by omega), List.length_map, List.length_map, List.length_drop] at hst
      have e1 : min row.length (row.length - (1 : Int).toNat) = row.length - 1 := by omega
      rw [e1] at hst
      exact hst
  rintro e ⟨hst, x3, x4, rfl⟩
  refine xs_ret (xe_pk pk_bl rfl (q true ⟨fun _ => ⟨h0, hpair, hst⟩, fun _ => rfl⟩))
def IsExch (n : Net) (row : List (Int × Int)) : Prop := IsWalk n row ∧ gt row (row.length - 1) = ((gt row 0).2, (gt row 0).1)
def S_is_exchange : Spec := fun ads Q => ∃ (n : Net) (row : List (Int × Int)), ads = [n.dat, .tup (row.map pD)] ∧ n.Ok ∧ row.length ≤ 16777216 ∧ ∀ b : Bool, (b = true ↔ IsExch n row) → Q (.bl b) [none, none]
theorem xs_is_exchange {K : PySem.W.Frag} (ads : List D) (Q : D → List (Option D) → Prop) (h : S_is_exchange ads Q) :
    XS K [] (t_is_exchange K S_turned_about S_is_walk) (ads.map some ++ List.replicate 0 none) { nx := fun e => Q .non (back [] 2 e), rt := fun d e => Q d (back [] 2 e) } := by
  obtain ⟨n, row, rfl, hn, hz, q⟩ := h
  show XS K [] (t_is_exchange K S_turned_about S_is_walk) [some n.dat, some (.tup (row.map pD))] _
  refine xs_ret (xe_andV (xe_call (xa_pk (pk_var rfl) n.pure (xa_pk (pk_var rfl) (tup_pure (own_pairs row)) (xa_nil ⟨_, _, rfl, n, row, rfl, hn, hz, fun b hb => ⟨b, rfl, fun hb1 => ?_, fun hb1 => q false ?_⟩⟩)))))
  · have hw := hb.mp hb1
    have h0 : (0 : Int) < row.length := by have := hw.1; omega
    refine xe_eqD (xe_pk (pk_ixT (pk_var rfl) (pk_neg pk_int) rfl (atI_last (by omega))) rfl ⟨rfl, rfl, xe_call (xa_pk (pk_ixT (pk_var rfl) pk_int rfl (atI_map (by decide) h0)) rfl (xa_nil ⟨_, _, rfl, gt row 0, rfl, rfl, rfl, q _ ?_⟩))⟩)
    rw [eqv_pD, decide_eq_true_eq]
    exact ⟨fun h => ⟨hw, h⟩, fun h => h.2⟩
  · constructor
    · intro z; cases z
    · intro h
      have := hb.mpr h.1
      rw [this] at hb1
      cases hb1
end DL

set_option autoImplicit false
set_option linter.all false
namespace DL
open PySem L2
def t_law_pairs (K : PySem.W.Frag) : TS :=
 (tSeq (tAsg (tLst tNil) (gName 1))
 (tSeq (tFor (iRng1 (tCons (tCB (rLen2 K) (tCons (tOp (rIxT K) (tVar 0) (tC (.int 0))) tNil)) tNil)) (gName 2) (tFor (iRng2 (tCons (tOp rAdd2 (tVar 2) (tC (.int 1))) (tCons (tCB (rLen2 K) (tCons (tOp (rIxT K) (tVar 0) (tC (.int 0))) tNil)) tNil))) (gName 3) (tIfS (tTest (tOp rEq (tOp (rIxT K) (tOp (rIxT K) (tVar 0) (tC (.int 0))) (tVar 2)) (tOp (rIxT K) (tOp (rIxT K) (tVar 0) (tC (.int 0))) (tVar 3)))) (tDrop (tBM K "list" rAppend (tVar 1) (tCons (tTup (tCons (tVar 2) (tCons (tVar 3) tNil))) tNil))) tNext)))
 (tRet (tVar 1))))
def t_law_wander (K : PySem.W.Frag) (S_law_draw S_law_pick S_law_steps S_law_near : Spec) : TS :=
 (tSeq (tAsg (tCall (spOf K S_law_near) [] E0 (tCons (tVar 1) tNil)) (gName 4))
 (tSeq (tAsg (tLst (tCons (tVar 2) tNil)) (gName 5))
 (tSeq (tFor (iRng1 (tCons (tCall (spOf K S_law_draw) [] E0 (tCons (tVar 0) (tCons (tOp rAdd2 (tVar 3) (tC (.int 1))) tNil))) tNil)) (gName 6) (tSeq (tAsg (tCall (spOf K S_law_steps) [] E0 (tCons (tVar 4) (tCons (tOp (rIxL K) (tVar 5) (tUn rNeg (tC (.int 1)))) tNil))) (gName 7))
 (tIfS (tTest (tOp rGt2 (tCB (rLen2 K) (tCons (tVar 7) tNil)) (tC (.int 0)))) (tDrop (tBM K "list" rAppend (tVar 5) (tCons (tCall (spOf K S_law_pick) [] E0 (tCons (tVar 0) (tCons (tVar 7) tNil))) tNil))) tNext)))
 (tRet (tCB (rTupOf K) (tCons (tVar 5) tNil))))))

abbrev Valid (n : Net) (p : Int × Int) : Prop := 0 ≤ p.1 ∧ p.1 < n.lv.length ∧ 0 ≤ p.2 ∧ p.2 < n.lv.length
/-! ### near -/
def S_law_near : Spec := fun ads Q => ∃ n : Net, ads = [n.dat] ∧ n.Ok ∧ ∀ bs hs, Sd (n.sg.map Prod.swap) bs n.lv.length → Sd n.sg hs n.lv.length → Q (.mls [.mls (bs.map LM), .mls (hs.map LM)]) [none]
theorem Net.at1 (n : Net) : atI [D.tup (n.lv.map D.int), .tup (n.sg.map pD)] 1 = some (.tup (n.sg.map pD)) := rfl
theorem xs_law_near {K : PySem.W.Frag} (ads : List D) (Q : D → List (Option D) → Prop) (h : S_law_near ads Q) :
    XS K [] (t_law_near K) (ads.map some ++ List.replicate 4 none) { nx := fun e => Q .non (back [] 1 e), rt := fun d e => Q d (back [] 1 e) } := by
  obtain ⟨n, rfl, hn, q⟩ := h
  have hs : sizeLine = 16777216 := sizeLine_eq
  have hfew := hn.few
  show XS K [] (t_law_near K) [some n.dat, none, none, none, none] _
  refine xs_seq (xs_set (xe_empties (xe_pk (pk_ixT (pk_var rfl) pk_int rfl n.at0) (tup_pure (own_ints _)) ⟨_, rfl, own_ints _, by rw [List.length_map]; omega, show 4 < 5 by decide, ?_⟩)))
  dsimp only [List.set]
  refine xs_seq (xs_set (xe_empties (xe_pk (pk_ixT (pk_var rfl) pk_int rfl n.at0) (tup_pure (own_ints _)) ⟨_, rfl, own_ints _, by rw [List.length_map]; omega, show 4 < 5 by decide, ?_⟩)))
  dsimp only [List.set]
  rw [List.length_map]
  refine xs_cut (fun e => ∃ bs hs : List (List Int), ∃ x3, Sd (n.sg.map Prod.swap) bs n.lv.length ∧ Sd n.sg hs n.lv.length ∧ e = [some n.dat, some (.mls (bs.map LM)), some (.mls (hs.map LM)), x3, none]) ?_ ?_
  · refine xs_forT (xe_pk (pk_ixT (pk_var rfl) pk_int rfl n.at1) (tup_pure (own_pairs _)) ⟨n.sg.map pD, fun k e => ∃ bs hs : List (List Int), ∃ x3, Sd ((n.sg.take k).map Prod.swap) bs n.lv.length ∧ Sd (n.sg.take k) hs n.lv.length ∧ e = [some n.dat, some (.mls (bs.map LM)), some (.mls (hs.map LM)), x3, none], rfl, own_pairs _,
      ⟨_, _, _, Sd.nil _, Sd.nil _, rfl⟩, ?_, ?_⟩)
    · rintro k x e hx ⟨bs, hs, x3, h1, h2, rfl⟩
      rw [List.getElem?_map] at hx
      cases hg : n.sg[k]? with
      | none => rw [hg] at hx; cases hx
      | some s =>
        rw [hg] at hx
        cases hx
        obtain ⟨u, l⟩ := s
        obtain ⟨u0, u1, l0, l1, _⟩ := hn.seg _ (List.mem_of_getElem? hg)
        dsimp only at u0 u1 l0 l1
        have ht : n.sg.take (k + 1) = n.sg.take k ++ [(u, l)] := by rw [List.take_add_one, hg]; rfl
        have hb := h1.len
        have hh := h2.len
        have hP : ∀ s ∈ n.sg.take k, 0 ≤ s.2 ∧ s.2 < n.lv.length := fun s m => by
          obtain ⟨_, _, h3, h4, _⟩ := hn.seg _ (List.mem_of_mem_take m)
          exact ⟨h3, h4⟩
        have hP2 : ∀ s ∈ (n.sg.take k).map Prod.swap, 0 ≤ s.2 ∧ s.2 < n.lv.length := fun s m => by
          obtain ⟨t, mt, rfl⟩ := List.mem_map.mp m
          obtain ⟨h3, h4, _⟩ := hn.seg _ (List.mem_of_mem_take mt)
          exact ⟨h3, h4⟩
        have z1 := h2.few hP u0 u1
        have z2 := h1.few hP2 l0 l1
        refine gx_name (by decide) (show 3 < 5 by decide) ?_
        dsimp only [List.set]
        have s0 : ∀ {e : DEnv}, e[3]? = some (some (pD (u, l))) → Pk K (tOp (rIxT K) (tVar 3) (tC (.int 0))) e (.int u) := fun h => pk_ixT (pk_var h) pk_int rfl rfl
        have s1 : ∀ {e : DEnv}, e[3]? = some (some (pD (u, l))) → Pk K (tOp (rIxT K) (tVar 3) (tC (.int 1))) e (.int l) := fun h => pk_ixT (pk_var h) pk_int rfl rfl
        refine xs_cut (fun e => ∃ hs : List (List Int), Sd (n.sg.take (k + 1)) hs n.lv.length ∧ e = [some n.dat, some (.mls (bs.map LM)), some (.mls (hs.map LM)), some (pD (u, l)), none]) ?_ ?_
        · refine xs_ifp (pkt_test (pk_notInI (xs := gt hs u) (s1 rfl) (pk_ixL (pk_var rfl) (s0 rfl) rfl (atI_map u0 (by omega))) rfl)) (fun hc => ?_) (fun hc => xs_next ?_)
          · have hni : l ∉ gt hs u := by simpa using hc
            refine xs_drop (xe_addAt rfl (s0 rfl) u0 (by omega) (s1 rfl) (by omega) ?_)
            exact ⟨_, by rw [ht]; exact h2.add u0 u1 hni, rfl⟩
          · have hin : l ∈ gt hs u := by simpa using hc
            exact ⟨_, by rw [ht]; exact h2.same ((h2.mem u u0 u1 l).mp hin), rfl⟩
        · rintro e ⟨hs, h2, rfl⟩
          refine xs_ifp (pkt_test (pk_notInI (xs := gt bs l) (s0 rfl) (pk_ixL (pk_var rfl) (s1 rfl) rfl (atI_map l0 (by omega))) rfl)) (fun hc => ?_) (fun hc => xs_next ?_)
          · have hni : u ∉ gt bs l := by simpa using hc
            refine xs_drop (xe_addAt rfl (s1 rfl) l0 (by omega) (s0 rfl) (by omega) ?_)
            refine ⟨_, _, _, ?_, h2, rfl⟩
            rw [ht, List.map_append]
            exact h1.add l0 l1 hni
          · have hin : u ∈ gt bs l := by simpa using hc
            refine ⟨_, _, _, ?_, h2, rfl⟩
            rw [ht, List.map_append]
            exact h1.same ((h1.mem l l0 l1 u).mp hin)
    · rintro e ⟨bs, hs, x3, h1, h2, rfl⟩
      rw [List.length_map, List.take_length] at h1 h2
      exact ⟨bs, hs, _, h1, h2, rfl⟩
  rintro e ⟨bs, hs, x3, h1, h2, rfl⟩
  exact xs_ret (xe_lst (xa_val (xe_mov rfl (xa_val (xe_mov rfl (xa_nil ⟨_, rfl, line2, q bs hs h1 h2⟩))))))
/-- .. at rest -/
abbrev ND (bs hs : List (List Int)) : D := .lst [.lst (bs.map LL), .lst (hs.map LL)]
theorem ND_pure (bs hs : List (List Int)) : (ND bs hs).pure = true := by
  show ((D.lst (bs.map LL)).pure && ((D.lst (hs.map LL)).pure && true)) = true
  rw [lst_pure (rows_pure bs), lst_pure (rows_pure hs)]
  rfl
theorem near_frz (bs hs : List (List Int)) : (D.mls [.mls (bs.map LM), .mls (hs.map LM)]).frz = ND bs hs := by
  show D.lst [D.lst (frzL (bs.map LM)), D.lst (frzL (hs.map LM))] = _
  rw [frz_rows, frz_rows]
theorem near_noraw (bs hs : List (List Int)) : (D.mls [.mls (bs.map LM), .mls (hs.map LM)]).noraw = true := by
  show (norawL (bs.map LM) && (norawL (hs.map LM) && true)) = true
  rw [noraw_rows, noraw_rows]
  rfl
/-! ### the steps by near -/
structure Near (n : Net) (bs hs : List (List Int)) : Prop where
  ok : n.Ok
  b : Sd (n.sg.map Prod.swap) bs n.lv.length
  h : Sd n.sg hs n.lv.length
def S_law_steps : Spec := fun ads Q => ∃ (n : Net) (bs hs : List (List Int)) (p : Int × Int), ads = [ND bs hs, pD p] ∧ Near n bs hs ∧ Valid n p ∧ ∀ qs : List (Int × Int), (∀ x ∈ qs, Valid n x) → qs.length ≤ 8192 → Q (.mls (qs.map pD)) [none, none]
theorem xs_law_steps {K : PySem.W.Frag} (ads : List D) (Q : D → List (Option D) → Prop) (h : S_law_steps ads Q) :
    XS K [] (t_law_steps K) (ads.map some ++ List.replicate 4 none) { nx := fun e => Q .non (back [] 2 e), rt := fun d e => Q d (back [] 2 e) } := by
  obtain ⟨n, bs, hs, ⟨a, b⟩, rfl, N, ⟨a0, a1, b0, b1⟩, q⟩ := h
  dsimp only at a0 a1 b0 b1
  have hs' : sizeLine = 16777216 := sizeLine_eq
  have hfew := N.ok.few
  have l1 := N.b.len
  have l2 := N.h.len
  show XS K [] (t_law_steps K) [some (ND bs hs), some (pD (a, b)), none, none, none, none] _
  refine xs_seq (xs_set (xe_lst (xa_nil ⟨[], rfl, by decide, ?_⟩)))
  dsimp only [List.set]
  have good : ∀ (ls : List (List Int)), (∃ P : List (Int × Int), (∀ s ∈ P, 0 ≤ s.2 ∧ s.2 < n.lv.length) ∧ Sd P ls n.lv.length) → ∀ x ∈ crossP neP (gt ls a) (gt ls b), Valid n x := by
    rintro ls ⟨P, hP, h⟩ ⟨c, d⟩ hx
    obtain ⟨h1, h2, _⟩ := crossP_mem.mp hx
    have k1 := hP _ ((h.mem a a0 a1 c).mp h1)
    have k2 := hP _ ((h.mem b b0 b1 d).mp h2)
    exact ⟨k1.1, k1.2, k2.1, k2.2⟩
  have small : ∀ (ls : List (List Int)), (∃ P : List (Int × Int), (∀ s ∈ P, 0 ≤ s.2 ∧ s.2 < n.lv.length) ∧ Sd P ls n.lv.length) → (gt ls a).length * (gt ls b).length ≤ 64 * 64 := by
    rintro ls ⟨P, hP, h⟩
    have ba := h.few hP a0 a1
    have bb := h.few hP b0 b1
    exact Nat.mul_le_mul (by omega) (by omega)
  have Gb : ∃ P : List (Int × Int), (∀ s ∈ P, 0 ≤ s.2 ∧ s.2 < n.lv.length) ∧ Sd P bs n.lv.length := ⟨_, N.ok.fst, N.b⟩
  have Gh : ∃ P : List (Int × Int), (∀ s ∈ P, 0 ≤ s.2 ∧ s.2 < n.lv.length) ∧ Sd P hs n.lv.length := ⟨_, N.ok.snd, N.h⟩
  refine xs_cut (fun e => ∃ qs : List (Int × Int), ∃ x3 x4 x5, (∀ x ∈ qs, Valid n x) ∧ qs.length ≤ 8192 ∧ e = [some (ND bs hs), some (pD (a, b)), some (.mls (qs.map pD)), x3, x4, x5]) ?_ ?_
  · refine xs_forL (xe_pk (pk_var rfl) (ND_pure bs hs) ⟨_, fun k e => ∃ qs : List (Int × Int), ∃ x3 x4 x5, (∀ x ∈ qs, Valid n x) ∧ qs.length ≤ 4096 * k ∧ e = [some (ND bs hs), some (pD (a, b)), some (.mls (qs.map pD)), x3, x4, x5], rfl, ?_, ⟨[], _, _, _, (by intro x m; cases m), by decide, rfl⟩, ?_, ?_⟩)
    · have := ND_pure bs hs
      rw [D.pure] at this
      exact this
    · rintro k x e hx ⟨qs, x3, x4, x5, v, z, rfl⟩
      have hk : k < 2 := (List.getElem?_eq_some_iff.mp hx).1
      refine gx_name (by decide) (show 3 < 6 by decide) ?_
      dsimp only [List.set]
      obtain ⟨ls, rfl, G, hl⟩ : ∃ ls, x = .lst (ls.map LL) ∧ (∃ P : List (Int × Int), (∀ s ∈ P, 0 ≤ s.2 ∧ s.2 < n.lv.length) ∧ Sd P ls n.lv.length) ∧ ls.length = n.lv.length := by
        match k, hk with
        | 0, _ => cases hx; exact ⟨bs, rfl, Gb, l1⟩
        | 1, _ => cases hx; exact ⟨hs, rfl, Gh, l2⟩
      have hsm := small ls G
      have px : ∀ {e : DEnv}, e[3]? = some (some (.lst (ls.map LL))) → e[1]? = some (some (pD (a, b))) → Pk K (tOp (rIxL K) (tVar 3) (tOp (rIxT K) (tVar 1) (tC (.int 0)))) e (LL (gt ls a)) := fun h3 h1 => pk_ixL (pk_var h3) (pk_ixT (pk_var h1) pk_int rfl rfl) rfl (atI_map a0 (by omega))
      have py : ∀ {e : DEnv}, e[3]? = some (some (.lst (ls.map LL))) → e[1]? = some (some (pD (a, b))) → Pk K (tOp (rIxL K) (tVar 3) (tOp (rIxT K) (tVar 1) (tC (.int 1)))) e (LL (gt ls b)) := fun h3 h1 => pk_ixL (pk_var h3) (pk_ixT (pk_var h1) pk_int rfl rfl) rfl (atI_map b0 (by omega))
      refine xs_cross (P := neP) (xs := gt ls a) (ys := gt ls b) (acc := qs) (show 2 < 6 by decide) (show 4 < 6 by decide) (show 5 < 6 by decide) (by decide) (by decide) (by decide) (by decide) (by decide) rfl (px rfl rfl) (fun u v w => py rfl rfl)
          (fun u c d _ _ => pkt_test (pk_neI (pk_var rfl) (pk_var rfl))) (by omega) fun v4 v5 => ?_
      refine ⟨qs ++ crossP neP (gt ls a) (gt ls b), _, _, _, ?_, ?_, rfl⟩
      · intro x m
        rcases List.mem_append.mp m with m | m
        · exact v x m
        · exact good ls G x m
      · have := crossP_len neP (gt ls b) (gt ls a)
        rw [List.length_append]
        omega
    · rintro e ⟨qs, x3, x4, x5, v, z, rfl⟩
      exact ⟨qs, _, _, _, v, z, rfl⟩
  rintro e ⟨qs, x3, x4, x5, v, z, rfl⟩
  refine xs_ret (xe_sortP (xe_mov rfl ⟨_, rfl, fun rs hp hw => q rs (fun x m => v x (hp.mem_iff.mp m)) (by rw [hp.length_eq]; exact z)⟩))
section
variable {K : PySem.W.Frag} {env : DEnv} {te ta tb : TE} {Q : D → DEnv → Prop} {n : Net} {bs hs : List (List Int)} {p : Int × Int}
theorem xe_steps (h1 : Pk K ta env (ND bs hs)) (h2 : Pk K tb env (pD p)) (N : Near n bs hs) (v : Valid n p) (q : ∀ qs : List (Int × Int), (∀ x ∈ qs, Valid n x) → qs.length ≤ 8192 → Q (.mls (qs.map pD)) env) : XE K (tCall (spOf K S_law_steps) [] E0 (tCons ta (tCons tb tNil))) env Q :=
  xe_call (xa_pk h1 (ND_pure _ _) (xa_pk h2 rfl (xa_nil ⟨_, _, rfl, n, bs, hs, p, rfl, N, v, fun qs h3 h4 => q qs h3 h4⟩)))
end
/-! ### the pairs of places of one level -/
def S_law_pairs : Spec := fun ads Q => ∃ n : Net, ads = [n.dat] ∧ n.Ok ∧ ∀ ps : List (Int × Int), (∀ p ∈ ps, PairOk n.lv p) → ps.length ≤ 4096 → Q (.mls (ps.map pD)) [none]
theorem xs_law_pairs {K : PySem.W.Frag} (ads : List D) (Q : D → List (Option D) → Prop) (h : S_law_pairs ads Q) :
    XS K [] (t_law_pairs K) (ads.map some ++ List.replicate 3 none) { nx := fun e => Q .non (back [] 1 e), rt := fun d e => Q d (back [] 1 e) } := by
  obtain ⟨n, rfl, hn, q⟩ := h
  have hs : sizeLine = 16777216 := sizeLine_eq
  have hfew := hn.few
  have plen : ∀ {e : DEnv}, e[0]? = some (some n.dat) → Pk K (tCB (rLen2 K) (tCons (tOp (rIxT K) (tVar 0) (tC (.int 0))) tNil)) e (.int n.lv.length) := fun h => by
    have := pk_len (K := K) (pk_ixT (pk_var h) pk_int rfl n.at0) (ds := n.lv.map D.int) rfl
    rw [List.length_map] at this
    exact this
  have plv : ∀ {e : DEnv} {i : Nat} {z : Int}, e[0]? = some (some n.dat) → e[i]? = some (some (.int z)) → 0 ≤ z → z < n.lv.length → Pk K (tOp (rIxT K) (tOp (rIxT K) (tVar 0) (tC (.int 0))) (tVar i)) e (.int (gt n.lv z)) :=
    fun h hi z0 z1 => pk_ixT (pk_ixT (pk_var h) pk_int rfl n.at0) (pk_var hi) rfl (atI_map z0 z1)
  show XS K [] (t_law_pairs K) [some n.dat, none, none, none] _
  refine xs_seq (xs_set (xe_lst (xa_nil ⟨[], rfl, by decide, ?_⟩)))
  dsimp only [List.set]
  refine xs_cut (fun e => ∃ ps : List (Int × Int), ∃ x2 x3, (∀ p ∈ ps, PairOk n.lv p) ∧ ps.length ≤ 4096 ∧ e = [some n.dat, some (.mls (ps.map pD)), x2, x3]) ?_ ?_
  · refine xs_for1 (xe_pk (plen rfl) rfl ⟨_, fun k e => ∃ ps : List (Int × Int), ∃ x2 x3, (∀ p ∈ ps, PairOk n.lv p) ∧ ps.length ≤ 64 * k ∧ e = [some n.dat, some (.mls (ps.map pD)), x2, x3], rfl, by omega, by omega, ⟨[], _, _, (by intro x m; cases m), by decide, rfl⟩, ?_, ?_⟩)
    · rintro k e hk ⟨ps, x2, x3, v, z, rfl⟩
      refine gx_name (by decide) (show 2 < 4 by decide) ?_
      dsimp only [List.set]
      refine xs_for2 (xe_pk (by none_booked) rfl ⟨_, rfl, xe_pk (plen rfl) rfl ⟨_, fun j e => ∃ ps : List (Int × Int), ∃ x3, (∀ p ∈ ps, PairOk n.lv p) ∧ ps.length ≤ 64 * k + j ∧ e = [some n.dat, some (.mls (ps.map pD)), some (.int k), x3], rfl, by omega, ⟨ps, _, v, by omega, rfl⟩, ?_, ?_⟩⟩)
      · clear v z
        rintro j e hj ⟨ps, x3, v, z, rfl⟩
        refine gx_name (by decide) (show 3 < 4 by decide) ?_
        dsimp only [List.set]
        refine xs_ifp (pkt_test (pk_eqI (plv rfl rfl (by omega) (by omega)) (plv rfl rfl (by omega) (by omega)))) (fun hc => ?_) (fun hc => xs_next ⟨ps, _, v, by omega, rfl⟩)
        have hc' := of_decide_eq_true hc
        refine xs_drop (xe_append rfl rfl (xe_tup (xa_pk (pk_var rfl) rfl (xa_pk (pk_var rfl) rfl (xa_nil ⟨_, rfl, line2, _, rfl, by rw [List.length_map]; omega, ?_⟩)))))
        dsimp only [List.set]
        rw [pairs_app]
        refine ⟨_, _, ?_, by rw [List.length_append]; show ps.length + 1 ≤ _; omega, rfl⟩
        intro p m
        rcases List.mem_append.mp m with m | m
        · exact v p m
        · obtain rfl := List.mem_singleton.mp m
          exact ⟨by dsimp only; omega, by dsimp only; omega, by dsimp only; omega, by dsimp only; omega, by dsimp only; omega, hc'⟩
      · clear v z
        rintro e ⟨ps, x3, v, z, rfl⟩
        exact ⟨ps, _, _, v, by omega, rfl⟩
    · rintro e ⟨ps, x2, x3, v, z, rfl⟩
      exact ⟨ps, _, _, v, by omega, rfl⟩
  rintro e ⟨ps, x2, x3, v, z, rfl⟩
  exact xs_ret (xe_mov rfl (q ps v z))
/-! ### a walk of drawn steps -/
def S_law_wander : Spec := fun ads Q => ∃ (bg : D) (n : Net) (p : Int × Int) (most : Int), ads = [bg, n.dat, pD p, .int most] ∧ IsBag bg ∧ n.Ok ∧ Valid n p ∧ 0 ≤ most ∧ most ≤ 1000 ∧
  ∀ (row : List (Int × Int)) (bg' : D), IsBag bg' → 0 < row.length → row.length ≤ 2000 → (∀ x ∈ row, Valid n x) → Q (.tup (row.map pD)) [some bg', none, none, none]
theorem xs_law_wander {K : PySem.W.Frag} (ads : List D) (Q : D → List (Option D) → Prop) (h : S_law_wander ads Q) :
    XS K [0] (t_law_wander K S_law_draw S_law_pick S_law_steps S_law_near) (ads.map some ++ List.replicate 4 none) { nx := fun e => Q .non (back [0] 4 e), rt := fun d e => Q d (back [0] 4 e) } := by
  obtain ⟨bg, n, p, most, rfl, hb, hn, hp, m0, m1, q⟩ := h
  have hs : sizeLine = 16777216 := sizeLine_eq
  show XS K [0] (t_law_wander K S_law_draw S_law_pick S_law_steps S_law_near) [some bg, some n.dat, some (pD p), some (.int most), none, none, none, none] _
  refine xs_seq (xs_set (xe_frz (xe_call (xa_pk (pk_var rfl) n.pure (xa_nil ⟨_, _, rfl, n, rfl, hn, fun bs hs h1 h2 => ⟨near_noraw _ _, ?_⟩⟩)))))
  rw [near_frz]
  have N : Near n bs hs := ⟨hn, h1, h2⟩
  refine xs_seq (xs_set (xe_lst (xa_pk (pk_var rfl) rfl (xa_nil ⟨_, rfl, line1, ?_⟩))))
  show XS K [0] _ [some bg, some n.dat, some (pD p), some (.int most), some (ND bs hs), some (.mls [pD p]), none, none] _
  refine xs_cut (fun e => ∃ bg, ∃ row : List (Int × Int), ∃ x6 x7, IsBag bg ∧ 0 < row.length ∧ row.length ≤ 2000 ∧ (∀ x ∈ row, Valid n x) ∧ e = [some bg, some n.dat, some (pD p), some (.int most), some (ND bs hs), some (.mls (row.map pD)), x6, x7]) ?_ ?_
  · refine xs_for1 (xe_draw rfl hb (by none_booked) (by omega) (by omega) fun d bg hb d0 d1 => ⟨_, fun k e => ∃ bg, ∃ row : List (Int × Int), ∃ x6 x7, IsBag bg ∧ 0 < row.length ∧ row.length ≤ 1 + k ∧ (∀ x ∈ row, Valid n x) ∧ e = [some bg, some n.dat, some (pD p), some (.int most), some (ND bs hs), some (.mls (row.map pD)), x6, x7], rfl, by omega, by omega,
      ⟨bg, [p], _, _, hb, Nat.zero_lt_one, Nat.le_refl 1, (fun x m => by rw [List.mem_singleton.mp m]; exact hp), rfl⟩, ?_, ?_⟩)
    · clear hb
      rintro k e hk ⟨bg, row, x6, x7, hb, r0, r1, r2, rfl⟩
      refine gx_name (by decide) (show 6 < 8 by decide) ?_
      dsimp only [List.set]
      have hv : Valid n (gt row (row.length - 1)) := r2 _ (gt_mem (by omega) (by omega))
      refine xs_seq (xs_set (xe_frz (xe_steps (n := n) (pk_var rfl) (pk_ixL (pk_var rfl) (pk_neg pk_int) rfl (atI_last r0)) N hv fun qs v z => ⟨by rw [D.noraw]; exact pureL_noraw (own_pairs qs), ?_⟩)))
      rw [D.frz, frzL_id (own_pairs qs)]
      dsimp only [List.set]
      refine xs_ifp (pkt_test (pk_gt (pk_len (pk_var rfl) (ds := qs.map pD) rfl) pk_int)) (fun hc => ?_) (fun hc => xs_next ⟨bg, row, _, _, hb, r0, by omega, r2, rfl⟩)
      have hc' := of_decide_eq_true hc
      rw [List.length_map] at hc'
      refine xs_drop (xe_append rfl rfl (xe_pick rfl (xe_pk (pk_var rfl) (lst_pure (own_pairs qs)) ⟨bg, _, rfl, hb, rfl, own_pairs qs, by rw [List.length_map]; omega, by rw [List.length_map]; omega, fun d bg hb hd => ⟨_, rfl, by rw [List.length_map]; omega, ?_⟩⟩)))
      obtain ⟨y, hy, rfl⟩ := List.mem_map.mp hd
      refine ⟨bg, row ++ [y], _, _, hb, by rw [List.length_append]; omega, by rw [List.length_append]; show row.length + 1 ≤ _; omega, ?_, by rw [List.map_append]; rfl⟩
      intro x m
      rcases List.mem_append.mp m with m | m
      · exact r2 x m
      · rw [List.mem_singleton.mp m]
        exact v y hy
    · clear hb
      rintro e ⟨bg, row, x6, x7, hb, r0, r1, r2, rfl⟩
      exact ⟨bg, row, _, _, hb, r0, by omega, r2, rfl⟩
  clear hb
  rintro e ⟨bg, row, x6, x7, hb, r0, r1, r2, rfl⟩
  exact xs_ret (xe_tupleX (xe_mov rfl ⟨_, rfl, own_pairs row, q row bg hb r0 r1 r2⟩))
end DL

set_option autoImplicit false
set_option linter.all false
namespace DL
open PySem L2
def t_law_joined (K : PySem.W.Frag) : TS :=
 (tSeq (tAsg (tLst tNil) (gName 1))
 (tSeq (tFor (iRng1 (tCons (tCB (rLen2 K) (tCons (tOp (rIxT K) (tVar 0) (tC (.int 0))) tNil)) tNil)) (gName 2) (tSeq (tAsg (tLc (iTup K (tOp (rIxT K) (tVar 0) (tC (.int 1)))) (gName 4) (tTest (tOp (rIn K false) (tVar 2) (tVar 4))) (tOp rSub2 (tOp rAdd2 (tOp (rIxT K) (tVar 4) (tC (.int 0))) (tOp (rIxT K) (tVar 4) (tC (.int 1)))) (tVar 2)) [4]) (gName 3))
 (tDrop (tBM K "list" rAppend (tVar 1) (tCons (tLc (iRng1 (tCons (tCB (rLen2 K) (tCons (tOp (rIxT K) (tVar 0) (tC (.int 0))) tNil)) tNil)) (gName 5) (tTest (tOp (rIn K false) (tVar 5) (tVar 3))) (tVar 5) [5]) tNil)))))
 (tRet (tVar 1))))
def t_law_steps_due (K : PySem.W.Frag) : TS :=
 (tSeq (tAsg (tLst tNil) (gName 3))
 (tSeq (tFor (iList K (tOp (rIxL K) (tVar 1) (tOp (rIxT K) (tVar 2) (tC (.int 0))))) (gName 4) (tFor (iList K (tOp (rIxL K) (tVar 1) (tOp (rIxT K) (tVar 2) (tC (.int 1))))) (gName 5) (tIfS (tAnd (tTest (tOp rNe (tVar 4) (tVar 5))) (tTest (tOp rEq (tOp (rIxT K) (tOp (rIxT K) (tVar 0) (tC (.int 0))) (tVar 4)) (tOp (rIxT K) (tOp (rIxT K) (tVar 0) (tC (.int 0))) (tVar 5))))) (tDrop (tBM K "list" rAppend (tVar 3) (tCons (tTup (tCons (tVar 4) (tCons (tVar 5) tNil))) tNil))) tNext)))
 (tRet (tVar 3))))
def t_law_is_pair (K : PySem.W.Frag) : TS :=
 (tSeq (tFor (iTup K (tVar 1)) (gName 2) (tIfS (tOr (tTest (tOp rLt2 (tVar 2) (tC (.int 0)))) (tTest (tOp rGe2 (tVar 2) (tCB (rLen2 K) (tCons (tOp (rIxT K) (tVar 0) (tC (.int 0))) tNil))))) (tRet (tC (.bl false))) tNext))
 (tRet (tAndV (tOp rNe (tOp (rIxT K) (tVar 1) (tC (.int 0))) (tOp (rIxT K) (tVar 1) (tC (.int 1)))) (tOp rEq (tOp (rIxT K) (tOp (rIxT K) (tVar 0) (tC (.int 0))) (tOp (rIxT K) (tVar 1) (tC (.int 0)))) (tOp (rIxT K) (tOp (rIxT K) (tVar 0) (tC (.int 0))) (tOp (rIxT K) (tVar 1) (tC (.int 1))))))))
def t_law_walk_due (K : PySem.W.Frag) (S_law_steps_due S_law_is_pair : Spec) : TS :=
 (tSeq (tFor (iTup K (tVar 2)) (gName 3) (tIfS (tNot (tB (tCall (spOf K S_law_is_pair) [] E0 (tCons (tVar 0) (tCons (tVar 3) tNil))))) (tRet (tC (.bl false))) tNext))
 (tSeq (tFor (iRng1 (tCons (tOp rSub2 (tCB (rLen2 K) (tCons (tVar 2) tNil)) (tC (.int 1))) tNil)) (gName 4) (tIfS (tTest (tOp (rNotInD K) (tOp (rIxT K) (tVar 2) (tOp rAdd2 (tVar 4) (tC (.int 1)))) (tCall (spOf K S_law_steps_due) [] E0 (tCons (tVar 0) (tCons (tVar 1) (tCons (tOp (rIxT K) (tVar 2) (tVar 4)) tNil)))))) (tRet (tC (.bl false))) tNext))
 (tRet (tOp rGt2 (tCB (rLen2 K) (tCons (tVar 2) tNil)) (tC (.int 0))))))

/-! ### the joined places -/
def unP : D → Int × Int
  | .tup [.int a, .int b] => (a, b)
  | _ => (0, 0)
def ends (n : Net) (p : Int) : List Int := (n.sg.filter fun s => decide (p ∈ [s.1, s.2])).map fun s => s.1 + s.2 - p
def jn (n : Net) (p : Int) : List Int := ((List.range n.lv.length).filter fun (q : Nat) => decide ((q : Int) ∈ ends n p)).map fun (q : Nat) => (q : Int)
def jns (n : Net) : List (List Int) := (List.range n.lv.length).map fun (p : Nat) => jn n (p : Int)
theorem jns_len (n : Net) : (jns n).length = n.lv.length := by unfold jns; rw [List.length_map, List.length_range]
theorem jns_at {n : Net} {p : Int} (h0 : 0 ≤ p) (h1 : p < n.lv.length) : gt (jns n) p = jn n p := by
  have h := gt_get (xs := jns n) h0 (by rw [jns_len]; exact h1)
  unfold jns at h
  rw [List.getElem?_map, List.getElem?_range (by omega)] at h
  have e : ((p.toNat : Nat) : Int) = p := by omega
  have := Option.some.inj h
  dsimp only at this
  rw [e] at this
  unfold jns
  exact this.symm
theorem ends_mem {n : Net} {p q : Int} : q ∈ ends n p ↔ (p, q) ∈ n.sg ∨ (q, p) ∈ n.sg := by
  unfold ends
  rw [List.mem_map]
  constructor
  · rintro ⟨⟨a, b⟩, h, rfl⟩
    obtain ⟨h1, h2⟩ := List.mem_filter.mp h
    have h3 : p ∈ [a, b] := of_decide_eq_true h2
    rcases List.mem_cons.mp h3 with e | h3
    · subst e
      left
      have e2 : p + b - p = b := by omega
      show (p, p + b - p) ∈ n.sg
      rw [e2]
      exact h1
    · have e := List.mem_singleton.mp h3
      subst e
      right
      have e2 : a + p - p = a := by omega
      show (a + p - p, p) ∈ n.sg
      rw [e2]
      exact h1
  · rintro (h | h)
    · exact ⟨(p, q), List.mem_filter.mpr ⟨h, decide_eq_true (by simp)⟩, by dsimp only; omega⟩
    · exact ⟨(q, p), List.mem_filter.mpr ⟨h, decide_eq_true (by simp)⟩, by dsimp only; omega⟩
theorem jn_mem {n : Net} (hn : n.Ok) {p q : Int} : q ∈ jn n p ↔ (p, q) ∈ n.sg ∨ (q, p) ∈ n.sg := by
  rw [← ends_mem]
  unfold jn
  rw [List.mem_map]
  constructor
  · rintro ⟨k, h, rfl⟩
    exact of_decide_eq_true (List.mem_filter.mp h).2
  · intro h
    have hr : 0 ≤ q ∧ q < n.lv.length := by
      rcases ends_mem.mp h with m | m
      · obtain ⟨_, _, h3, h4, _⟩ := hn.seg _ m
        exact ⟨h3, h4⟩
      · obtain ⟨h3, h4, _⟩ := hn.seg _ m
        exact ⟨h3, h4⟩
    have e : ((q.toNat : Nat) : Int) = q := by omega
    exact ⟨q.toNat, List.mem_filter.mpr ⟨List.mem_range.mpr (by omega), decide_eq_true (by rw [e]; exact h)⟩, e⟩
theorem jn_sorted (n : Net) (p : Int) : (jn n p).Pairwise (· < ·) := by
  unfold jn
  exact List.Pairwise.map _ (fun a b h => by omega) (List.Pairwise.filter _ List.pairwise_lt_range)
theorem jn_len (n : Net) (p : Int) : (jn n p).length ≤ n.lv.length := by
  unfold jn
  rw [List.length_map]
  have := List.length_filter_le (fun (q : Nat) => decide ((q : Int) ∈ ends n p)) (List.range n.lv.length)
  rw [List.length_range] at this
  exact this
def S_law_joined : Spec := fun ads Q => ∃ n : Net, ads = [n.dat] ∧ n.Ok ∧ Q (.mls ((jns n).map LL)) [none]
theorem xs_law_joined {K : PySem.W.Frag} (ads : List D) (Q : D → List (Option D) → Prop) (h : S_law_joined ads Q) :
    XS K [] (t_law_joined K) (ads.map some ++ List.replicate 5 none) { nx := fun e => Q .non (back [] 1 e), rt := fun d e => Q d (back [] 1 e) } := by
  obtain ⟨n, rfl, hn, q⟩ := h
  have hs : sizeLine = 16777216 := sizeLine_eq
  have hfew := hn.few
  have hsg := hn.sgs
  have plen : ∀ {e : DEnv}, e[0]? = some (some n.dat) → Pk K (tCB (rLen2 K) (tCons (tOp (rIxT K) (tVar 0) (tC (.int 0))) tNil)) e (.int n.lv.length) := fun h => by
    have := pk_len (K := K) (pk_ixT (pk_var h) pk_int rfl n.at0) (ds := n.lv.map D.int) rfl
    rw [List.length_map] at this
    exact this
  show XS K [] (t_law_joined K) [some n.dat, none, none, none, none, none] _
  refine xs_seq (xs_set (xe_lst (xa_nil ⟨[], rfl, by decide, ?_⟩)))
  dsimp only [List.set]
  refine xs_cut (fun e => ∃ x2 x3, e = [some n.dat, some (.mls ((jns n).map LL)), x2, x3, none, none]) ?_ ?_
  · refine xs_for1 (xe_pk (plen rfl) rfl ⟨_, fun k e => ∃ x2 x3, e = [some n.dat, some (.mls (((List.range k).map fun (p : Nat) => jn n (p : Int)).map LL)), x2, x3, none, none], rfl, by omega, by omega, ⟨_, _, rfl⟩, ?_, ?_⟩)
    · rintro k e hk ⟨x2, x3, rfl⟩
      refine gx_name (by decide) (show 2 < 6 by decide) ?_
      dsimp only [List.set]
      refine xs_seq (xs_set (xe_lcT_pk (xe_pk (pk_ixT (pk_var rfl) pk_int rfl n.at1) (tup_pure (own_pairs _)) ⟨n.sg.map pD, fun d => decide ((k : Int) ∈ [(unP d).1, (unP d).2]), fun d => .int ((unP d).1 + (unP d).2 - k), rfl, own_pairs _, by rw [List.length_map]; omega, by decide, show 4 < 6 by decide, fun x hx => ?_, fun x hx _ => ?_, ?_⟩)))
      · obtain ⟨⟨a, b⟩, _, rfl⟩ := List.mem_map.mp hx
        exact pkt_test (pk_inI (xs := [a, b]) (pk_var rfl) (pk_var rfl) rfl)
      · obtain ⟨⟨a, b⟩, _, rfl⟩ := List.mem_map.mp hx
        exact ⟨pk_sub (pk_add (pk_ixT (pk_var rfl) pk_int rfl rfl) (pk_ixT (pk_var rfl) pk_int rfl rfl)) (pk_var rfl), rfl⟩
      · have e1 : ((n.sg.map pD).filter fun d => decide ((k : Int) ∈ [(unP d).1, (unP d).2])).map (fun d => D.int ((unP d).1 + (unP d).2 - k)) = (ends n k).map D.int := by
          rw [List.filter_map, List.map_map]
          unfold ends
          rw [List.map_map]
          rfl
        rw [e1]
        show XS K [] _ [some n.dat, some (.mls (((List.range k).map fun (p : Nat) => jn n (p : Int)).map LL)), some (.int k), some (.mls ((ends n k).map D.int)), none, none] _
        refine xs_drop (xe_append rfl rfl (xe_frz (xe_lc1_pk (xe_pk (plen rfl) rfl ⟨_, fun q => decide ((q : Int) ∈ ends n k), fun q => .int (q : Int), rfl, by omega, by omega, by decide, show 5 < 6 by decide, fun q hq => pkt_test (pk_inI (pk_var rfl) (pk_var rfl) rfl), fun q hq _ => ⟨pk_var rfl, rfl⟩, ?_⟩))))
        rw [Int.toNat_natCast]
        have e2 : ((List.range n.lv.length).filter fun (q : Nat) => decide ((q : Int) ∈ ends n k)).map (fun (q : Nat) => D.int (q : Int)) = (jn n k).map D.int := by
          unfold jn
          rw [List.map_map]
          rfl
        rw [e2]
        refine ⟨noraw_ints _, ?_⟩
        rw [frz_ints]
        refine ⟨_, rfl, by rw [List.length_map, List.length_map, List.length_range]; omega, ?_⟩
        refine ⟨some (.int k), some (.mls ((ends n k).map D.int)), ?_⟩
        rw [List.range_succ, List.map_append, List.map_append]
        rfl
    · rintro e ⟨x2, x3, rfl⟩
      rw [Int.toNat_natCast]
      exact ⟨_, _, rfl⟩
  rintro e ⟨x2, x3, rfl⟩
  exact xs_ret (xe_mov rfl q)
abbrev JD (n : Net) : D := .lst ((jns n).map LL)
/-- the steps by the joined places -/
def duP (n : Net) (c d : Int) : Bool := neP c d && decide (gt n.lv c = gt n.lv d)
def dueL (n : Net) (p : Int × Int) : List (Int × Int) := crossP (duP n) (jn n p.1) (jn n p.2)
theorem due_sorted (n : Net) (p : Int × Int) : (dueL n p).Pairwise lexLt := crossP_sorted (jn_sorted n _) (jn_sorted n _)
theorem due_mem {n : Net} (hn : n.Ok) {p q : Int × Int} (hp : PairOk n.lv p) : q ∈ dueL n p ↔ n.Step p q := by
  obtain ⟨a, b⟩ := p
  obtain ⟨c, d⟩ := q
  unfold dueL
  rw [crossP_mem, jn_mem hn, jn_mem hn]
  unfold duP Net.Step
  dsimp only
  rw [Bool.and_eq_true, neP_iff, decide_eq_true_eq]
  have hl : gt n.lv a = gt n.lv b := hp.2.2.2.2.2
  constructor
  · rintro ⟨h1, h2, h3, h4⟩
    refine ⟨h3, ?_⟩
    rcases h1 with h1 | h1
    · rcases h2 with h2 | h2
      · exact .inr ⟨h1, h2⟩
      · have e1 := (hn.seg _ h1).2.2.2.2
        have e2 := (hn.seg _ h2).2.2.2.2
        dsimp only at e1 e2
        omega
    · rcases h2 with h2 | h2
      · have e1 := (hn.seg _ h1).2.2.2.2
        have e2 := (hn.seg _ h2).2.2.2.2
        dsimp only at e1 e2
        omega
      · exact .inl ⟨h1, h2⟩
  · rintro ⟨h3, ⟨h1, h2⟩ | ⟨h1, h2⟩⟩
    · refine ⟨.inr h1, .inr h2, h3, ?_⟩
      have e1 := (hn.seg _ h1).2.2.2.2
      have e2 := (hn.seg _ h2).2.2.2.2
      dsimp only at e1 e2
      omega
    · refine ⟨.inl h1, .inl h2, h3, ?_⟩
      have e1 := (hn.seg _ h1).2.2.2.2
      have e2 := (hn.seg _ h2).2.2.2.2
      dsimp only at e1 e2
      omega
def S_law_steps_due : Spec := fun ads Q => ∃ (n : Net) (p : Int × Int), ads = [n.dat, JD n, pD p] ∧ n.Ok ∧ Valid n p ∧ Q (.mls ((dueL n p).map pD)) [none, none, none]
theorem JD_pure (n : Net) : (JD n).pure = true := lst_pure (rows_pure _)
theorem xs_law_steps_due {K : PySem.W.Frag} (ads : List D) (Q : D → List (Option D) → Prop) (h : S_law_steps_due ads Q) :
    XS K [] (t_law_steps_due K) (ads.map some ++ List.replicate 3 none) { nx := fun e => Q .non (back [] 3 e), rt := fun d e => Q d (back [] 3 e) } := by
  obtain ⟨n, ⟨a, b⟩, rfl, hn, ⟨a0, a1, b0, b1⟩, q⟩ := h
  dsimp only at a0 a1 b0 b1
  have hs : sizeLine = 16777216 := sizeLine_eq
  have hfew := hn.few
  have hj := jns_len n
  show XS K [] (t_law_steps_due K) [some n.dat, some (JD n), some (pD (a, b)), none, none, none] _
  refine xs_seq (xs_set (xe_lst (xa_nil ⟨[], rfl, by decide, ?_⟩)))
  dsimp only [List.set]
  have za := jn_len n a
  have zb := jn_len n b
  have hz : (jn n a).length * (jn n b).length ≤ 64 * 64 := Nat.mul_le_mul (by omega) (by omega)
  have px : ∀ {e : DEnv}, e[1]? = some (some (JD n)) → e[2]? = some (some (pD (a, b))) → Pk K (tOp (rIxL K) (tVar 1) (tOp (rIxT K) (tVar 2) (tC (.int 0)))) e (LL (jn n a)) := fun h1 h2 => by
    rw [← jns_at a0 a1]
    exact pk_ixL (pk_var h1) (pk_ixT (pk_var h2) pk_int rfl rfl) rfl (atI_map a0 (by omega))
  have py : ∀ {e : DEnv}, e[1]? = some (some (JD n)) → e[2]? = some (some (pD (a, b))) → Pk K (tOp (rIxL K) (tVar 1) (tOp (rIxT K) (tVar 2) (tC (.int 1)))) e (LL (jn n b)) := fun h1 h2 => by
    rw [← jns_at b0 b1]
    exact pk_ixL (pk_var h1) (pk_ixT (pk_var h2) pk_int rfl rfl) rfl (atI_map b0 (by omega))
  have plv : ∀ {e : DEnv} {i : Nat} {z : Int}, e[0]? = some (some n.dat) → e[i]? = some (some (.int z)) → 0 ≤ z → z < n.lv.length → Pk K (tOp (rIxT K) (tOp (rIxT K) (tVar 0) (tC (.int 0))) (tVar i)) e (.int (gt n.lv z)) :=
    fun h hi z0 z1 => pk_ixT (pk_ixT (pk_var h) pk_int rfl n.at0) (pk_var hi) rfl (atI_map z0 z1)
  have rg : ∀ {p c : Int}, c ∈ jn n p → 0 ≤ c ∧ c < n.lv.length := fun {p c} m => by
    rcases (jn_mem hn).mp m with m | m
    · obtain ⟨_, _, h3, h4, _⟩ := hn.seg _ m
      exact ⟨h3, h4⟩
    · obtain ⟨h3, h4, _⟩ := hn.seg _ m
      exact ⟨h3, h4⟩
  refine xs_cut (fun e => ∃ x4 x5, e = [some n.dat, some (JD n), some (pD (a, b)), some (.mls ((dueL n (a, b)).map pD)), x4, x5]) ?_ ?_
  · refine xs_cross (P := duP n) (xs := jn n a) (ys := jn n b) (acc := []) (show 3 < 6 by decide) (show 4 < 6 by decide) (show 5 < 6 by decide) (by decide) (by decide) (by decide) (by decide) (by decide) rfl (px rfl rfl) (fun u v w => py rfl rfl)
          (fun u c d hc hd => pkt_and (pkt_test (pk_neI (pk_var rfl) (pk_var rfl))) fun _ => pkt_test (pk_eqI (plv rfl rfl (rg hc).1 (rg hc).2) (plv rfl rfl (rg hd).1 (rg hd).2))) (by show 0 + _ ≤ _; omega) fun v4 v5 => ?_
    exact ⟨_, _, rfl⟩
  rintro e ⟨x4, x5, rfl⟩
  exact xs_ret (xe_mov rfl q)
/-! ### the law's words of pairs and walks -/
def S_law_is_pair : Spec := fun ads Q => ∃ (n : Net) (p : Int × Int), ads = [n.dat, pD p] ∧ ∀ b : Bool, (b = true ↔ PairOk n.lv p) → Q (.bl b) [none, none]
theorem xs_law_is_pair {K : PySem.W.Frag} (ads : List D) (Q : D → List (Option D) → Prop) (h : S_law_is_pair ads Q) :
    XS K [] (t_law_is_pair K) (ads.map some ++ List.replicate 1 none) { nx := fun e => Q .non (back [] 2 e), rt := fun d e => Q d (back [] 2 e) } := by
  obtain ⟨n, ⟨a, b⟩, rfl, q⟩ := h
  show XS K [] (t_law_is_pair K) [some n.dat, some (pD (a, b)), none] _
  have plen : ∀ {e : DEnv}, e[0]? = some (some n.dat) → Pk K (tCB (rLen2 K) (tCons (tOp (rIxT K) (tVar 0) (tC (.int 0))) tNil)) e (.int n.lv.length) := fun h => by
    have := pk_len (K := K) (pk_ixT (pk_var h) pk_int rfl n.at0) (ds := n.lv.map D.int) rfl
    rw [List.length_map] at this
    exact this
  refine xs_cut (fun e => 0 ≤ a ∧ a < n.lv.length ∧ 0 ≤ b ∧ b < n.lv.length ∧ ∃ x2, e = [some n.dat, some (pD (a, b)), x2]) ?_ ?_
  · refine xs_forT (xe_pk (pk_var rfl) rfl ⟨[.int a, .int b], fun k e => (0 < k → 0 ≤ a ∧ a < n.lv.length) ∧ (1 < k → 0 ≤ b ∧ b < n.lv.length) ∧ ∃ x2, e = [some n.dat, some (pD (a, b)), x2], rfl, rfl, ⟨by omega, by omega, _, rfl⟩, ?_, ?_⟩)
    · rintro k x e hx ⟨h1, h2, x2, rfl⟩
      have hk : k < 2 := (List.getElem?_eq_some_iff.mp hx).1
      have key : ∀ z : Int, (k = 0 → z = a) → (k = 1 → z = b) → x = .int z → GX K [] (gName 2) x [some n.dat, some (pD (a, b)), x2] fun e2 => XS K [] (tIfS (tOr (tTest (tOp rLt2 (tVar 2) (tC (.int 0)))) (tTest (tOp rGe2 (tVar 2) (tCB (rLen2 K) (tCons (tOp (rIxT K) (tVar 0) (tC (.int 0))) tNil))))) (tRet (tC (.bl false))) tNext) e2
          ⟨fun e => (0 < k + 1 → 0 ≤ a ∧ a < n.lv.length) ∧ (1 < k + 1 → 0 ≤ b ∧ b < n.lv.length) ∧ ∃ x2, e = [some n.dat, some (pD (a, b)), x2], fun d e => Q d (back [] 2 e), fun e => 0 ≤ a ∧ a < n.lv.length ∧ 0 ≤ b ∧ b < n.lv.length ∧ ∃ x2, e = [some n.dat, some (pD (a, b)), x2], fun e => (0 < k + 1 → 0 ≤ a ∧ a < n.lv.length) ∧ (1 < k + 1 → 0 ≤ b ∧ b < n.lv.length) ∧ ∃ x2, e = [some n.dat, some (pD (a, b)), x2]⟩ := by
        rintro z za zb rfl
        refine gx_name (by decide) (show 2 < 3 by decide) ?_
        dsimp only [List.set]
        refine xs_ifp (pkt_or (pkt_test (pk_lt (pk_var rfl) pk_int)) fun _ => pkt_test (pk_ge (pk_var rfl) (plen rfl))) (fun hb => xs_ret (xe_pk pk_bl rfl (q false ?_))) fun hb => xs_next ⟨?_, ?_, _, rfl⟩
        · simp only [Bool.or_eq_true, decide_eq_true_eq] at hb
          constructor
          · intro y; cases y
          · rintro ⟨p1, p2, p3, p4, _⟩
            dsimp only at p1 p2 p3 p4
            by_cases hk0 : k = 0
            · have := za hk0
              omega
            · have := zb (by omega)
              omega
        · simp only [Bool.or_eq_false_iff, decide_eq_false_iff_not] at hb
          intro _
          by_cases hk0 : k = 0
          · have := za hk0
            omega
          · exact h1 (by omega)
        · simp only [Bool.or_eq_false_iff, decide_eq_false_iff_not] at hb
          intro hk1
          have := zb (by omega)
          omega
      match k, hk, hx, key with
      | 0, _, hx, key => exact key a (fun _ => rfl) (fun h => by omega) (by cases hx; rfl)
      | 1, _, hx, key => exact key b (fun h => by omega) (fun _ => rfl) (by cases hx; rfl)
    · rintro e ⟨h1, h2, x2, rfl⟩
      obtain ⟨h3, h4⟩ := h1 (show 0 < 2 by decide)
      obtain ⟨h5, h6⟩ := h2 (show 1 < 2 by decide)
      exact ⟨h3, h4, h5, h6, _, rfl⟩
  rintro e ⟨a0, a1, b0, b1, x2, rfl⟩
  have p0 : ∀ {e : DEnv}, e[1]? = some (some (pD (a, b))) → Pk K (tOp (rIxT K) (tVar 1) (tC (.int 0))) e (.int a) := fun h => pk_ixT (pk_var h) pk_int rfl rfl
  have p1 : ∀ {e : DEnv}, e[1]? = some (some (pD (a, b))) → Pk K (tOp (rIxT K) (tVar 1) (tC (.int 1))) e (.int b) := fun h => pk_ixT (pk_var h) pk_int rfl rfl
  refine xs_ret (xe_pk (pk_andV (pk_neI (p0 rfl) (p1 rfl)) fun _ => pk_eqI (pk_ixT (pk_ixT (pk_var rfl) pk_int rfl n.at0) (p0 rfl) rfl (atI_map a0 a1)) (pk_ixT (pk_ixT (pk_var rfl) pk_int rfl n.at0) (p1 rfl) rfl (atI_map b0 b1))) rfl (q _ ?_))
  simp only [Bool.and_eq_true, Bool.not_eq_true', decide_eq_false_iff_not, decide_eq_true_eq]
  unfold PairOk
  dsimp only
  constructor
  · rintro ⟨k1, k2⟩
    exact ⟨a0, a1, b0, b1, k1, k2⟩
  · rintro ⟨_, _, _, _, k1, k2⟩
    exact ⟨k1, k2⟩
def S_law_walk_due : Spec := fun ads Q => ∃ (n : Net) (row : List (Int × Int)), ads = [n.dat, JD n, .tup (row.map pD)] ∧ n.Ok ∧ row.length ≤ 16777216 ∧ ∀ b : Bool, (b = true ↔ IsWalk n row) → Q (.bl b) [none, none, none]
theorem xs_law_walk_due {K : PySem.W.Frag} (ads : List D) (Q : D → List (Option D) → Prop) (h : S_law_walk_due ads Q) :
    XS K [] (t_law_walk_due K S_law_steps_due S_law_is_pair) (ads.map some ++ List.replicate 2 none) { nx := fun e => Q .non (back [] 3 e), rt := fun d e => Q d (back [] 3 e) } := by
  obtain ⟨n, row, rfl, hn, hz, q⟩ := h
  show XS K [] (t_law_walk_due K S_law_steps_due S_law_is_pair) [some n.dat, some (JD n), some (.tup (row.map pD)), none, none] _
  refine xs_cut (fun e => (∀ p ∈ row, PairOk n.lv p) ∧ ∃ x3, e = [some n.dat, some (JD n), some (.tup (row.map pD)), x3, none]) ?_ ?_
  · refine xs_forT (xe_pk (pk_var rfl) (tup_pure (own_pairs row)) ⟨_, fun k e => (∀ p ∈ row.take k, PairOk n.lv p) ∧ ∃ x3, e = [some n.dat, some (JD n), some (.tup (row.map pD)), x3, none], rfl, own_pairs row, ⟨(by intro p m; cases m), _, rfl⟩, ?_, ?_⟩)
    · rintro k x e hx ⟨h1, x3, rfl⟩
      rw [List.getElem?_map] at hx
      cases hg : row[k]? with
      | none => rw [hg] at hx; cases hx
      | some p =>
        rw [hg] at hx
        cases hx
        refine gx_name (by decide) (show 3 < 5 by decide) ?_
        dsimp only [List.set]
        refine xs_if (xt_not (xt_B (xe_call (xa_pk (pk_var rfl) n.pure (xa_pk (pk_var rfl) rfl (xa_nil ⟨_, _, rfl, n, p, rfl, fun b hb => ⟨b, rfl, fun h => xs_ret (xe_pk pk_bl rfl (q false ?_)), fun h => xs_next ⟨?_, _, rfl⟩⟩⟩))))))
        · have hbf : ¬ PairOk n.lv p := fun z => by
            rw [hb.mpr z] at h
            cases h
          constructor
          · intro z; cases z
          · rintro ⟨_, z, _⟩
            exact absurd (z p (List.mem_of_getElem? hg)) hbf
        · have hbt : b = true := by simpa using h
          intro y m
          rw [List.take_add_one, hg] at m
          rcases List.mem_append.mp m with m | m
          · exact h1 y m
          · have m' : y ∈ [p] := m
            rw [List.mem_singleton.mp m']
            exact hb.mp hbt
    · rintro e ⟨h1, x3, rfl⟩
      rw [List.length_map, List.take_length] at h1
      exact ⟨h1, _, rfl⟩
  rintro e ⟨hp, x3, rfl⟩
  have plen : ∀ {e : DEnv}, e[2]? = some (some (.tup (row.map pD))) → Pk K (tCB (rLen2 K) (tCons (tVar 2) tNil)) e (.int row.length) := fun h => by
    have := pk_len (K := K) (pk_var h) (ds := row.map pD) rfl
    rw [List.length_map] at this
    exact this
  refine xs_cut (fun e => Steps n row (row.length - 1) ∧ ∃ x4, e = [some n.dat, some (JD n), some (.tup (row.map pD)), x3, x4]) ?_ ?_
  · refine xs_for1 (xe_pk (pk_sub (plen rfl) pk_int) rfl ⟨_, fun k e => Steps n row k ∧ ∃ x4, e = [some n.dat, some (JD n), some (.tup (row.map pD)), x3, x4], rfl, by omega, by omega, ⟨(by intro i x y hi; omega), _, rfl⟩, ?_, ?_⟩)
    · rintro k e hk ⟨h1, x4, rfl⟩
      refine gx_name (by decide) (show 4 < 5 by decide) ?_
      dsimp only [List.set]
      have g1 := gt_get (xs := row) (i := (k : Int)) (by omega) (by omega)
      have g2 := gt_get (xs := row) (i := (k : Int) + 1) (by omega) (by omega)
      have hv := hp _ (List.mem_of_getElem? g1)
      refine xs_if (xt_test (xe_inD (neg := true) rfl (xe_pk (pk_ixT (pk_var rfl) (pk_add (pk_var rfl) pk_int) rfl (atI_map (by omega) (by omega))) rfl ⟨rfl, shaped_pD _, xe_call (xa_pk (pk_var rfl) n.pure (xa_pk (pk_var rfl) (JD_pure n) (xa_pk (pk_ixT (pk_var rfl) (pk_var rfl) rfl (atI_map (by omega) (by omega))) rfl
        (xa_nil ⟨_, _, rfl, n, gt row k, rfl, hn, ⟨hv.1, hv.2.1, hv.2.2.1, hv.2.2.2.1⟩, ⟨_, rfl, plain_rows _, shaped_list _, _, rfl, ?_⟩⟩))))⟩)))
      rw [if_pos rfl, any_pD]
      have e1 : ((k : Int) + 1).toNat = k + 1 := by omega
      rw [Int.toNat_natCast] at g1
      rw [e1] at g2
      refine ⟨fun hb => xs_ret (xe_pk pk_bl rfl (q false ?_)), fun hb => xs_next ⟨?_, _, rfl⟩⟩
      · have hni : gt row ((k : Int) + 1) ∉ dueL n (gt row k) := by simpa using hb
        constructor
        · intro z; cases z
        · rintro ⟨_, _, h⟩
          exact absurd ((due_mem hn hv).mpr (h k _ _ (by omega) g1 g2)) hni
      · have hin : gt row ((k : Int) + 1) ∈ dueL n (gt row k) := by simpa using hb
        intro i x y hi hx hy
        by_cases hik : i = k
        · subst hik
          rw [g1] at hx
          rw [g2] at hy
          cases hx
          cases hy
          exact (due_mem hn hv).mp hin
        · exact h1 i x y (by omega) hx hy
    · rintro e ⟨h1, x4, rfl⟩
      have e1 : ((row.length : Int) - 1).toNat = row.length - 1 := by omega
      rw [e1] at h1
      exact ⟨h1, _, rfl⟩
  rintro e ⟨h1, x4, rfl⟩
  refine xs_ret (xe_pk (pk_gt (plen rfl) pk_int) rfl (q _ ?_))
  rw [decide_eq_true_eq]
  constructor
  · intro h
    exact ⟨by omega, hp, h1⟩
  · rintro ⟨h, _⟩
    omega
end DL

set_option autoImplicit false
set_option linter.all false
namespace DL
open PySem L2
def t_law_way (K : PySem.W.Frag) (S_law_steps : Spec) : TS :=
 (tSeq (tAsg (DLd.tDisp1 (tVar 1) (tC .non)) (gName 3))
 (tSeq (tAsg (tLst (tCons (tVar 1) tNil)) (gName 4))
 (tSeq (tFor (iRng1 (tCons (tOp rMul2 (tC (.int 7)) (tCB (rLen2 K) (tCons (tOp (rIxL K) (tVar 0) (tC (.int 0))) tNil))) tNil)) (gName 5) (tIfS (tTest (tOp rLt2 (tVar 5) (tCB (rLen2 K) (tCons (tVar 4) tNil)))) (tFor (iList K (tCall (spOf K S_law_steps) [] E0 (tCons (tVar 0) (tCons (tOp (rIxL K) (tVar 4) (tVar 5)) tNil)))) (gName 6) (tIfS (tB (tDNotIn (tVar 6) (tVar 3))) (tSeq (tAsg (tOp (rIxL K) (tVar 4) (tVar 5)) (gSub (tVar 3) (tVar 6) rSetD))
 (tDrop (tBM K "list" rAppend (tVar 4) (tCons (tVar 6) tNil)))) tNext)) tNext))
 (tSeq (tAsg (tLst tNil) (gName 7))
 (tSeq (tAsg (tVar 2) (gName 8))
 (tSeq (tFor (iRng1 (tCons (tCB (rLen2 K) (tCons (tVar 4) tNil)) tNil)) (gName 5) (tIfS (tB (DLd.tDInM (tVar 8) (tVar 3))) (tSeq (tDrop (tBM K "list" rAppend (tVar 7) (tCons (tVar 8) tNil)))
 (tAsg (tDGet (tVar 3) (tVar 8)) (gName 8))) tNext))
 (tRet (tCB (rTupOf K) (tCons (tRevL K (tVar 7)) tNil)))))))))
def t_law_turned_row (K : PySem.W.Frag) : TS :=
 (tRet (tCB (rTupOf K) (tCons (tLc (iTup K (tVar 0)) (gName 1) tYes (tTup (tCons (tOp (rIxT K) (tVar 1) (tC (.int 1))) (tCons (tOp (rIxT K) (tVar 1) (tC (.int 0))) tNil))) [1]) tNil)))
def t_law_bent_row (K : PySem.W.Frag) (S_law_turned_row S_law_draw S_law_pick : Spec) : TS :=
 (tSeq (tAsg (tCall (spOf K S_law_draw) [] E0 (tCons (tVar 0) (tCons (tCB (rLen2 K) (tCons (tVar 2) tNil)) tNil))) (gName 3))
 (tSeq (tAsg (tCall (spOf K S_law_draw) [] E0 (tCons (tVar 0) (tCons (tC (.int 10)) tNil))) (gName 4))
 (tSeq (tAsg (tOp (rIxT K) (tVar 2) (tVar 3)) (gName 5))
 (tSeq (tIfS (tTest (tOp rEq (tVar 4) (tC (.int 0)))) (tRet (tOp (rCatA K) (L2.tSl (rSlA K) (tVar 2) tNoPart (tPart (tVar 3))) (L2.tSl (rSlA K) (tVar 2) (tPart (tOp rAdd2 (tVar 3) (tC (.int 1)))) tNoPart))) tNext)
 (tSeq (tIfS (tTest (tOp rEq (tVar 4) (tC (.int 1)))) (tRet (tOp (rCatA K) (tOp (rCatA K) (L2.tSl (rSlA K) (tVar 2) tNoPart (tPart (tVar 3))) (tTup (tCons (tVar 5) tNil))) (L2.tSl (rSlA K) (tVar 2) (tPart (tVar 3)) tNoPart))) tNext)
 (tSeq (tIfS (tTest (tOp rEq (tVar 4) (tC (.int 2)))) (tAsg (tTup (tCons (tOp (rIxT K) (tVar 5) (tC (.int 1))) (tCons (tOp (rIxT K) (tVar 5) (tC (.int 0))) tNil))) (gName 5)) tNext)
 (tSeq (tIfS (tTest (tOp rEq (tVar 4) (tC (.int 3)))) (tAsg (tTup (tCons (tOp (rIxT K) (tVar 5) (tC (.int 0))) (tCons (tOp (rIxT K) (tVar 5) (tC (.int 0))) tNil))) (gName 5)) tNext)
 (tSeq (tIfS (tTest (tOp rEq (tVar 4) (tC (.int 4)))) (tAsg (tTup (tCons (tOp (rIxT K) (tVar 5) (tC (.int 0))) (tCons (tOp rAdd2 (tCB (rLen2 K) (tCons (tOp (rIxT K) (tVar 1) (tC (.int 0))) tNil)) (tCall (spOf K S_law_pick) [] E0 (tCons (tVar 0) (tCons (tLst (tCons (tC (.int 0)) (tCons (tC (.int 1)) (tCons (tOp rPow2 (tC (.int 10)) (tC (.int 12))) tNil)))) tNil)))) tNil))) (gName 5)) tNext)
 (tSeq (tIfS (tTest (tOp rEq (tVar 4) (tC (.int 5)))) (tAsg (tTup (tCons (tOp rSub2 (tOp rSub2 (tC (.int 0)) (tC (.int 1))) (tCall (spOf K S_law_draw) [] E0 (tCons (tVar 0) (tCons (tOp rAdd2 (tCB (rLen2 K) (tCons (tOp (rIxT K) (tVar 1) (tC (.int 0))) tNil)) (tC (.int 1))) tNil)))) (tCons (tOp (rIxT K) (tVar 5) (tC (.int 1))) tNil))) (gName 5)) tNext)
 (tSeq (tIfS (tTest (tOp rEq (tVar 4) (tC (.int 6)))) (tAsg (tTup (tCons (tCall (spOf K S_law_draw) [] E0 (tCons (tVar 0) (tCons (tCB (rLen2 K) (tCons (tOp (rIxT K) (tVar 1) (tC (.int 0))) tNil)) tNil))) (tCons (tCall (spOf K S_law_draw) [] E0 (tCons (tVar 0) (tCons (tCB (rLen2 K) (tCons (tOp (rIxT K) (tVar 1) (tC (.int 0))) tNil)) tNil))) tNil))) (gName 5)) tNext)
 (tSeq (tIfS (tTest (tOp rEq (tVar 4) (tC (.int 7)))) (tRet (DLd.tRevT K (tVar 2))) tNext)
 (tSeq (tIfS (tTest (tOp rEq (tVar 4) (tC (.int 8)))) (tRet (tCall (spOf K S_law_turned_row) [] E0 (tCons (tVar 2) tNil))) tNext)
 (tSeq (tIfS (tTest (tOp rEq (tVar 4) (tC (.int 9)))) (tRet (tOp (rCatA K) (tVar 2) (L2.tSl (rSlA K) (tCall (spOf K S_law_turned_row) [] E0 (tCons (tVar 2) tNil)) (tPart (tC (.int 1))) tNoPart))) tNext)
 (tRet (tOp (rCatA K) (tOp (rCatA K) (L2.tSl (rSlA K) (tVar 2) tNoPart (tPart (tVar 3))) (tTup (tCons (tVar 5) tNil))) (L2.tSl (rSlA K) (tVar 2) (tPart (tOp rAdd2 (tVar 3) (tC (.int 1)))) tNoPart))))))))))))))))
def t_law_free_row (K : PySem.W.Frag) (S_law_draw : Spec) : TS :=
 (tSeq (tAsg (tOp rAdd2 (tCB (rLen2 K) (tCons (tOp (rIxT K) (tVar 1) (tC (.int 0))) tNil)) (tC (.int 2))) (gName 2))
 (tRet (tCB (rTupOf K) (tCons (tLc (iRng1 (tCons (tCall (spOf K S_law_draw) [] E0 (tCons (tVar 0) (tCons (tC (.int 5)) tNil))) tNil)) (gName 3) tYes (tTup (tCons (tOp rSub2 (tCall (spOf K S_law_draw) [] E0 (tCons (tVar 0) (tCons (tVar 2) tNil))) (tC (.int 1))) (tCons (tOp rSub2 (tCall (spOf K S_law_draw) [] E0 (tCons (tVar 0) (tCons (tVar 2) tNil))) (tC (.int 1))) tNil))) [3]) tNil))))

/-! ### the shortest way -/
def S_law_way : Spec := fun ads Q => ∃ (n : Net) (bs hs : List (List Int)) (p l : Int × Int), ads = [ND bs hs, pD p, pD l] ∧ Near n bs hs ∧ Valid n p ∧ ∀ row : List (Int × Int), row.length ≤ 4000000 → Q (.tup (row.map pD)) [none, none, none]
/-- None or a pair -/
def NP (d : D) : Prop := d = .non ∨ ∃ p, d = pD p
theorem NP.pure {d : D} (h : NP d) : d.pure = true := by
  rcases h with rfl | ⟨p, rfl⟩
  · rfl
  · rfl
theorem look_mem : ∀ {ks : List (List Key)} {ds : List D} {x : List Key} {d : D}, look ks ds x = some d → d ∈ ds
  | k :: ks, d :: ds, x, y, h => by
    rw [look] at h
    by_cases hk : k = x
    · rw [if_pos hk] at h
      cases h
      exact List.mem_cons_self
    · rw [if_neg hk] at h
      exact List.mem_cons_of_mem _ (look_mem h)
  | [], _, _, _, h => by simp [look] at h
  | _ :: _, [], _, _, h => by simp [look] at h
theorem xs_law_way {K : PySem.W.Frag} (ads : List D) (Q : D → List (Option D) → Prop) (h : S_law_way ads Q) :
    XS K [] (t_law_way K S_law_steps) (ads.map some ++ List.replicate 6 none) { nx := fun e => Q .non (back [] 3 e), rt := fun d e => Q d (back [] 3 e) } := by
  obtain ⟨n, bs, hs, p, l, rfl, N, hp, q⟩ := h
  have hs' : sizeLine = 16777216 := sizeLine_eq
  have hfew := N.ok.few
  have hbl := N.b.len
  show XS K [] (t_law_way K S_law_steps) [some (ND bs hs), some (pD p), some (pD l), none, none, none, none, none, none] _
  refine xs_seq (xs_set (xe_disp1 (pk_var rfl) pk_non rfl ?_))
  refine xs_seq (xs_set (xe_lst (xa_pk (pk_var rfl) rfl (xa_nil ⟨_, rfl, line1, ?_⟩))))
  dsimp only [List.set]
  let J : Nat → List (List Key) → List D → List (Int × Int) → Prop := fun m ks ds qs => ks.length = ds.length ∧ ks.length = qs.length ∧ qs.length ≤ m ∧ (∀ d ∈ ds, NP d) ∧ ∀ x ∈ qs, Valid n x
  refine xs_cut (fun e => ∃ ks ds, ∃ qs : List (Int × Int), ∃ x5 x6, J 4000000 ks ds qs ∧ e = [some (ND bs hs), some (pD p), some (pD l), some (.dct ks ds), some (.mls (qs.map pD)), x5, x6, none, none]) ?_ ?_
  · have hlen0 : ∀ {e : DEnv}, e[0]? = some (some (ND bs hs)) → Pk K (tCB (rLen2 K) (tCons (tOp (rIxL K) (tVar 0) (tC (.int 0))) tNil)) e (.int bs.length) := fun h => by
      have := pk_len (K := K) (pk_ixL (pk_var h) pk_int rfl (show atI [D.lst (bs.map LL), D.lst (hs.map LL)] 0 = some (.lst (bs.map LL)) from rfl)) (ds := bs.map LL) rfl
      rw [List.length_map] at this
      exact this
    refine xs_for1 (xe_pk (pk_mul pk_int (hlen0 rfl) (by got_up)) rfl ⟨_, fun k e => ∃ ks ds, ∃ qs : List (Int × Int), ∃ x5 x6, J (1 + 8192 * k) ks ds qs ∧ e = [some (ND bs hs), some (pD p), some (pD l), some (.dct ks ds), some (.mls (qs.map pD)), x5, x6, none, none], rfl, by omega, by omega,
      ⟨[kP p], [.non], [p], _, _, ⟨rfl, rfl, Nat.le_refl 1, (fun d m => by rw [List.mem_singleton.mp m]; exact .inl rfl), (fun x m => by rw [List.mem_singleton.mp m]; exact hp)⟩, rfl⟩, ?_, ?_⟩)
    · rintro k e hk ⟨ks, ds, qs, x5, x6, ⟨j1, j2, j3, j4, j5⟩, rfl⟩
      have hk7 : k < 448 := by omega
      refine gx_name (by decide) (show 5 < 9 by decide) ?_
      dsimp only [List.set]
      refine xs_ifp (pkt_test (pk_lt (pk_var rfl) (pk_len (pk_var rfl) (ds := qs.map pD) rfl))) (fun hc => ?_) (fun hc => xs_next ⟨ks, ds, qs, _, _, ⟨j1, j2, by omega, j4, j5⟩, rfl⟩)
      have hc' := of_decide_eq_true hc
      rw [List.length_map] at hc'
      have hv : Valid n (gt qs k) := j5 _ (gt_mem (by omega) hc')
      refine xs_forL (xe_steps (n := n) (pk_var rfl) (pk_ixL (pk_var rfl) (pk_var rfl) rfl (atI_map (by omega) hc')) N hv fun ss v z => ⟨ss.map pD, fun j e => ∃ ks ds, ∃ qs2 : List (Int × Int), ∃ x6, J (1 + 8192 * k + j) ks ds qs2 ∧ (k : Int) < qs2.length ∧ e = [some (ND bs hs), some (pD p), some (pD l), some (.dct ks ds), some (.mls (qs2.map pD)), some (.int k), x6, none, none], rfl, own_pairs ss,
        ⟨ks, ds, qs, _, ⟨j1, j2, by omega, j4, j5⟩, hc', rfl⟩, ?_, ?_⟩)
      · clear j1 j2 j3 j4 j5 hv hc hc'
        rintro j x e hx ⟨ks, ds, qs, x6, ⟨j1, j2, j3, j4, j5⟩, hc', rfl⟩
        rw [List.getElem?_map] at hx
        cases hg : ss[j]? with
        | none => rw [hg] at hx; cases hx
        | some o =>
          rw [hg] at hx
          cases hx
          have hjl := (List.getElem?_eq_some_iff.mp hg).1
          refine gx_name (by decide) (show 6 < 9 by decide) ?_
          dsimp only [List.set]
          refine xs_ifp (pkt_B (pk_dNotIn (p := o) (pk_var rfl) rfl)) (fun hb => ?_) (fun hb => xs_next ⟨ks, ds, qs, _, ⟨j1, j2, by omega, j4, j5⟩, hc', rfl⟩)
          have hno : kP o ∉ ks := by
            rw [← look_none j1]
            cases hl : look ks ds (kP o) with
            | none => rfl
            | some d => rw [hl] at hb; cases hb
          refine xs_seq (xs_setD (xe_pk (pk_ixL (pk_var rfl) (pk_var rfl) rfl (atI_map (by omega) hc')) rfl ⟨o, ks, ds, rfl, pk_var rfl, hno, by omega, ?_⟩))
          dsimp only [List.set]
          refine xs_drop (xe_append rfl rfl (xe_pk (pk_var rfl) rfl ⟨_, rfl, by rw [List.length_map]; omega, ?_⟩))
          dsimp only [List.set]
          rw [show qs.map pD ++ [pD o] = (qs ++ [o]).map pD by rw [List.map_append]; rfl]
          refine ⟨_, _, qs ++ [o], _, ⟨by rw [List.length_append, List.length_append, j1]; rfl, by rw [List.length_append, List.length_append, j2]; rfl, by rw [List.length_append]; show qs.length + 1 ≤ _; omega, ?_, ?_⟩, by rw [List.length_append]; show (k : Int) < ((qs.length + 1 : Nat) : Int); omega, rfl⟩
          · intro d m
            rcases List.mem_append.mp m with m | m
            · exact j4 d m
            · rw [List.mem_singleton.mp m]
              exact .inr ⟨_, rfl⟩
          · intro y m
            rcases List.mem_append.mp m with m | m
            · exact j5 y m
            · rw [List.mem_singleton.mp m]
              exact v o (List.mem_of_getElem? hg)
      · clear j1 j2 j3 j4 j5 hv hc hc'
        rintro e ⟨ks, ds, qs, x6, ⟨j1, j2, j3, j4, j5⟩, hc', rfl⟩
        rw [List.length_map] at j3
        exact ⟨ks, ds, qs, _, _, ⟨j1, j2, by omega, j4, j5⟩, rfl⟩
    · rintro e ⟨ks, ds, qs, x5, x6, ⟨j1, j2, j3, j4, j5⟩, rfl⟩
      have : (7 * (bs.length : Int)).toNat ≤ 448 := by omega
      exact ⟨ks, ds, qs, _, _, ⟨j1, j2, by omega, j4, j5⟩, rfl⟩
  rintro e ⟨ks, ds, qs, x5, x6, ⟨j1, j2, j3, j4, j5⟩, rfl⟩
  refine xs_seq (xs_set (xe_lst (xa_nil ⟨[], rfl, by decide, ?_⟩)))
  refine xs_seq (xs_set (xe_pk (pk_var rfl) rfl ?_))
  dsimp only [List.set]
  refine xs_cut (fun e => ∃ row : List (Int × Int), ∃ x5 x8, row.length ≤ 4000000 ∧ e = [some (ND bs hs), some (pD p), some (pD l), some (.dct ks ds), some (.mls (qs.map pD)), x5, x6, some (.mls (row.map pD)), x8]) ?_ ?_
  · refine xs_for1 (xe_pk (pk_len (pk_var rfl) (ds := qs.map pD) rfl) rfl ⟨_, fun k e => ∃ row : List (Int × Int), ∃ x5, ∃ at_ : D, NP at_ ∧ row.length ≤ k ∧ e = [some (ND bs hs), some (pD p), some (pD l), some (.dct ks ds), some (.mls (qs.map pD)), x5, x6, some (.mls (row.map pD)), some at_], rfl, by omega, by rw [List.length_map]; omega,
      ⟨[], _, pD l, .inr ⟨l, rfl⟩, Nat.le_refl 0, rfl⟩, ?_, ?_⟩)
    · rintro k e hk ⟨row, x5, at_, hat, hr, rfl⟩
      rw [List.length_map] at hk
      refine gx_name (by decide) (show 5 < 9 by decide) ?_
      dsimp only [List.set]
      rcases hat with rfl | ⟨o, rfl⟩
      · exact xs_ifF (pkt_B (pk_dInN (pk_var rfl) rfl)) (xs_next ⟨row, _, .non, .inl rfl, by omega, rfl⟩)
      · refine xs_ifp (pkt_B (pk_dInM (p := o) (pk_var rfl) rfl)) (fun hb => ?_) (fun hb => xs_next ⟨row, _, _, .inr ⟨o, rfl⟩, by omega, rfl⟩)
        cases hl : look ks ds (kP o) with
        | none => rw [hl] at hb; cases hb
        | some d =>
          have hd := j4 d (look_mem hl)
          refine xs_seq (xs_drop (xe_append rfl rfl (xe_pk (pk_var rfl) rfl ⟨_, rfl, by rw [List.length_map]; omega, ?_⟩)))
          dsimp only [List.set]
          refine xs_set (xe_pk (pk_dGet (p := o) rfl (pk_var rfl) hl) hd.pure ?_)
          dsimp only [List.set]
          refine ⟨row ++ [o], _, d, hd, by rw [List.length_append]; show row.length + 1 ≤ _; omega, by rw [List.map_append]; rfl⟩
    · rintro e ⟨row, x5, at_, hat, hr, rfl⟩
      rw [Int.toNat_natCast, List.length_map] at hr
      exact ⟨row, _, _, by omega, rfl⟩
  rintro e ⟨row, x5, x8, hr, rfl⟩
  refine xs_ret (xe_tupleX (xe_rev (pk_var rfl) rfl (own_pairs row) ⟨_, rfl, ?_, ?_⟩))
  · rw [← List.map_reverse]; exact own_pairs _
  · rw [← List.map_reverse]
    exact q row.reverse (by rw [List.length_reverse]; exact hr)
/-! ### rows turned and bent -/
def S_law_turned_row : Spec := fun ads Q => ∃ row : List (Int × Int), ads = [.tup (row.map pD)] ∧ row.length ≤ 16000000 ∧ Q (.tup ((row.map Prod.swap).map pD)) [none]
theorem xs_law_turned_row {K : PySem.W.Frag} (ads : List D) (Q : D → List (Option D) → Prop) (h : S_law_turned_row ads Q) :
    XS K [] (t_law_turned_row K) (ads.map some ++ List.replicate 1 none) { nx := fun e => Q .non (back [] 1 e), rt := fun d e => Q d (back [] 1 e) } := by
  obtain ⟨row, rfl, hz, q⟩ := h
  have hs' : sizeLine = 16777216 := sizeLine_eq
  show XS K [] (t_law_turned_row K) [some (.tup (row.map pD)), none] _
  refine xs_ret (xe_tupleX (xe_lcT (xe_pk (pk_var rfl) (tup_pure (own_pairs row)) ⟨row.map pD, fun k acc e => acc = ((row.take k).map Prod.swap).map pD ∧ e = [some (.tup (row.map pD)), none], rfl, own_pairs row, ⟨rfl, rfl⟩, ?_, ?_⟩)))
  · rintro k x acc e hx ⟨rfl, rfl⟩
    rw [List.getElem?_map] at hx
    cases hg : row[k]? with
    | none => rw [hg] at hx; cases hx
    | some p =>
      rw [hg] at hx
      cases hx
      have hkl := (List.getElem?_eq_some_iff.mp hg).1
      refine gc_name (by decide) (show 1 < 2 by decide) (xt_yes ⟨fun _ => xe_tup (xa_pk (pk_ixT (pk_var rfl) pk_int rfl rfl) rfl (xa_pk (pk_ixT (pk_var rfl) pk_int rfl rfl) rfl (xa_nil ⟨_, rfl, line2, ?_, ?_, rfl⟩))), fun z => nomatch z⟩)
      · rw [List.length_map, List.length_map, List.length_take]; omega
      · rw [List.take_add_one, hg, List.map_append, List.map_append]
        rfl
  · rintro acc e ⟨rfl, rfl⟩
    rw [List.length_map, List.take_length]
    exact ⟨_, rfl, own_pairs _, q⟩
def S_law_bent_row : Spec := fun ads Q => ∃ (bg : D) (n : Net) (row : List (Int × Int)), ads = [bg, n.dat, .tup (row.map pD)] ∧ IsBag bg ∧ n.Ok ∧ 0 < n.lv.length ∧ 0 < row.length ∧ row.length ≤ 7000000 ∧
  ∀ (row' : List (Int × Int)) (bg' : D), IsBag bg' → row'.length ≤ 2 * row.length + 1 → Q (.tup (row'.map pD)) [some bg', none, none]
section
variable {K : PySem.W.Frag} {env : DEnv} {te ta tb : TE} {Q : D → DEnv → Prop} {row : List (Int × Int)}
theorem xe_turned (h : Pk K te env (.tup (row.map pD))) (hz : row.length ≤ 16000000) (q : Q (.tup ((row.map Prod.swap).map pD)) env) : XE K (tCall (spOf K S_law_turned_row) [] E0 (tCons te tNil)) env Q :=
  xe_call (xa_pk h (tup_pure (own_pairs row)) (xa_nil ⟨_, _, rfl, row, rfl, hz, q⟩))
theorem xe_headP {k : Int} (h : Pk K te env (.tup (row.map pD))) (hk : Pk K tb env (.int k)) (k0 : 0 ≤ k) (k1 : k ≤ row.length) (q : Q (.tup ((row.take k.toNat).map pD)) env) : XE K (L2.tSl (rSlA K) te tNoPart (tPart tb)) env Q := by
  refine xe_slT (xe_pk h (tup_pure (own_pairs row)) ⟨_, _, _, rfl, own_pairs row, pko_none, pko_part hk, ?_⟩)
  rw [cut_to _ k0 k1]
  exact q
theorem xe_tailP {k : Int} (h : Pk K te env (.tup (row.map pD))) (hk : Pk K tb env (.int k)) (k0 : 0 ≤ k) (k1 : k ≤ row.length) (q : Q (.tup ((row.drop k.toNat).map pD)) env) : XE K (L2.tSl (rSlA K) te (tPart tb) tNoPart) env Q := by
  refine xe_slT (xe_pk h (tup_pure (own_pairs row)) ⟨_, _, _, rfl, own_pairs row, pko_part hk, pko_none, ?_⟩)
  rw [cut_from _ k0 k1]
  exact q
theorem xe_catP (h : XE K ta env fun x e1 => ∃ r1 : List (Int × Int), x = .tup (r1.map pD) ∧ XE K tb e1 fun y e2 => ∃ r2 : List (Int × Int), y = .tup (r2.map pD) ∧ r1.length + r2.length ≤ 16777216 ∧ Q (.tup ((r1 ++ r2).map pD)) e2) : XE K (tOp (rCatA K) ta tb) env Q := by
  have hs' : sizeLine = 16777216 := sizeLine_eq
  refine xe_catT (h.imp fun x e1 ⟨r1, h1, h2⟩ => ⟨_, h1, own_pairs r1, h2.imp fun y e2 ⟨r2, h3, h4, h5⟩ => ⟨_, h3, own_pairs r2, by rw [List.length_map, List.length_map]; omega, ?_⟩⟩)
  rw [← List.map_append]
  exact h5
end
theorem xs_law_bent_row {K : PySem.W.Frag} (ads : List D) (Q : D → List (Option D) → Prop) (h : S_law_bent_row ads Q) :
    XS K [0] (t_law_bent_row K S_law_turned_row S_law_draw S_law_pick) (ads.map some ++ List.replicate 3 none) { nx := fun e => Q .non (back [0] 3 e), rt := fun d e => Q d (back [0] 3 e) } := by
  obtain ⟨bg, n, row, rfl, hb, hn, n0, r0, r1, q⟩ := h
  have hs' : sizeLine = 16777216 := sizeLine_eq
  have hfew := hn.few
  show XS K [0] (t_law_bent_row K S_law_turned_row S_law_draw S_law_pick) [some bg, some n.dat, some (.tup (row.map pD)), none, none, none] _
  have plen : ∀ {e : DEnv}, e[2]? = some (some (.tup (row.map pD))) → Pk K (tCB (rLen2 K) (tCons (tVar 2) tNil)) e (.int row.length) := fun h => by
    have := pk_len (K := K) (pk_var h) (ds := row.map pD) rfl
    rw [List.length_map] at this
    exact this
  have plv : ∀ {e : DEnv}, e[1]? = some (some n.dat) → Pk K (tCB (rLen2 K) (tCons (tOp (rIxT K) (tVar 1) (tC (.int 0))) tNil)) e (.int n.lv.length) := fun h => by
    have := pk_len (K := K) (pk_ixT (pk_var h) pk_int rfl n.at0) (ds := n.lv.map D.int) rfl
    rw [List.length_map] at this
    exact this
  refine xs_seq (xs_set (xe_draw rfl hb (plen rfl) (by omega) (by omega) fun k bg hb k0 k1 => ?_))
  refine xs_seq (xs_set (xe_draw rfl hb (by none_booked) (by decide) (by decide) fun kind bg hb kk0 kk1 => ?_))
  dsimp only [List.set]
  refine xs_seq (xs_set (xe_pk (pk_ixT (pk_var rfl) (pk_var rfl) rfl (atI_map k0 k1)) rfl ?_))
  dsimp only [List.set]
  have p5a : ∀ {e : DEnv} {p : Int × Int}, e[5]? = some (some (pD p)) → Pk K (tOp (rIxT K) (tVar 5) (tC (.int 0))) e (.int p.1) := fun h => pk_ixT (pk_var h) pk_int rfl rfl
  have p5b : ∀ {e : DEnv} {p : Int × Int}, e[5]? = some (some (pD p)) → Pk K (tOp (rIxT K) (tVar 5) (tC (.int 1))) e (.int p.2) := fun h => pk_ixT (pk_var h) pk_int rfl rfl
  generalize gt row k = p0
  refine xs_seq (xs_ifp (by none_booked) (fun _ => xs_ret ?_) fun _ => xs_next ?_)
  · refine xe_catP (xe_headP (pk_var rfl) (pk_var rfl) k0 (by omega) ⟨_, rfl, xe_tailP (pk_var rfl) (by none_booked) (by omega) (by omega) ⟨_, rfl, ?_, ?_⟩⟩)
    · rw [List.length_take, List.length_drop]; omega
    · exact q _ bg hb (by rw [List.length_append, List.length_take, List.length_drop]; omega)
  have one : ∀ (p : Int × Int) (k' : Int) (tk : TE) (bg : D), IsBag bg → 0 ≤ k' → k' ≤ row.length → (∀ e : DEnv, e[3]? = some (some (.int k)) → Pk K tk e (.int k')) →
      XS K [0] (tRet (tOp (rCatA K) (tOp (rCatA K) (L2.tSl (rSlA K) (tVar 2) tNoPart (tPart (tVar 3))) (tTup (tCons (tVar 5) tNil))) (L2.tSl (rSlA K) (tVar 2) (tPart tk) tNoPart))) [some bg, some n.dat, some (.tup (row.map pD)), some (.int k), some (.int kind), some (pD p)]
        { nx := fun _ => False, rt := fun d e => Q d (back [0] 3 e) } := by
    intro p k' tk bg hb h0 h1 htk
    refine xs_ret (xe_catP (xe_catP (xe_headP (pk_var rfl) (pk_var rfl) k0 (by omega) ⟨_, rfl, xe_tup (xa_pk (pk_var rfl) rfl (xa_nil ⟨_, rfl, line1, [p], rfl, ?_, _, rfl, xe_tailP (pk_var rfl) (htk _ rfl) h0 h1 ⟨_, rfl, ?_, ?_⟩⟩))⟩)))
    · rw [List.length_take]; show _ + 1 ≤ _; omega
    · rw [List.length_append, List.length_take, List.length_drop]; show _ + 1 + _ ≤ _; omega
    · exact q _ bg hb (by rw [List.length_append, List.length_append, List.length_take, List.length_drop]; show _ + 1 + _ ≤ _; omega)
  refine xs_seq (xs_ifp (by none_booked) (fun _ => ?_) fun _ => xs_next ?_)
  · exact (one p0 k (tVar 3) bg hb k0 (by omega) (fun e h => pk_var h)).imp (fun _ h => h.elim) (fun _ _ h => h) (fun _ h => h) fun _ h => h
  have cutF : ∀ (p : Int × Int) (bg : D), IsBag bg → ∃ (bg' : D) (p' : Int × Int), IsBag bg' ∧ [some bg, some n.dat, some (D.tup (row.map pD)), some (.int k), some (.int kind), some (pD p)] = [some bg', some n.dat, some (.tup (row.map pD)), some (.int k), some (.int kind), some (pD p')] := fun p bg hb => ⟨bg, p, hb, rfl⟩
  let M : DEnv → Prop := fun e => ∃ (bg' : D) (p' : Int × Int), IsBag bg' ∧ e = [some bg', some n.dat, some (.tup (row.map pD)), some (.int k), some (.int kind), some (pD p')]
  refine xs_cut M ?_ ?_
  · refine xs_ifp (by none_booked) (fun _ => ?_) fun _ => xs_next (cutF p0 bg hb)
    exact xs_set (xe_tup (xa_pk (p5b rfl) rfl (xa_pk (p5a rfl) rfl (xa_nil ⟨_, rfl, line2, cutF (p0.2, p0.1) bg hb⟩))))
  clear hb
  rintro e ⟨bg, p, hb, rfl⟩
  refine xs_cut M ?_ ?_
  · refine xs_ifp (by none_booked) (fun _ => ?_) fun _ => xs_next (cutF p bg hb)
    exact xs_set (xe_tup (xa_pk (p5a rfl) rfl (xa_pk (p5a rfl) rfl (xa_nil ⟨_, rfl, line2, cutF (p.1, p.1) bg hb⟩))))
  clear hb p
  rintro e ⟨bg, p, hb, rfl⟩
  refine xs_cut M ?_ ?_
  · refine xs_ifp (by none_booked) (fun _ => ?_) fun _ => xs_next (cutF p bg hb)
    refine xs_set (xe_tup (xa_pk (p5a rfl) rfl (xa_val (xe_add (xe_pk (plv rfl) rfl ⟨_, rfl, xe_pick rfl (xe_lst (xa_pk pk_int rfl (xa_pk pk_int rfl (xa_pk (pk_pow pk_int pk_int (by got_up)) rfl (xa_nil ⟨_, rfl, (by rw [sizeLine_eq]; exact (by decide : 3 ≤ 16777216)), bg, _, rfl, hb, rfl, rfl, (show 0 < 3 by decide), (show 3 < 1073741824 by decide), fun d bg hb hd => ?_⟩)))))⟩)))))
    have hd' : ∃ i, d = .int i := by
      rcases List.mem_cons.mp hd with e | hd
      · exact ⟨_, e⟩
      · rcases List.mem_cons.mp hd with e | hd
        · exact ⟨_, e⟩
        · exact ⟨_, List.mem_singleton.mp hd⟩
    obtain ⟨i, rfl⟩ := hd'
    exact ⟨i, rfl, xa_nil ⟨_, rfl, line2, cutF (p.1, (n.lv.length : Int) + i) bg hb⟩⟩
  clear hb p
  rintro e ⟨bg, p, hb, rfl⟩
  refine xs_cut M ?_ ?_
  · refine xs_ifp (by none_booked) (fun _ => ?_) fun _ => xs_next (cutF p bg hb)
    refine xs_set (xe_tup (xa_val (xe_sub (xe_pk (by none_booked) rfl ⟨_, rfl, xe_draw rfl hb (pk_add (plv rfl) pk_int) (by omega) (by omega) fun d bg hb d0 d1 => ⟨_, rfl, xa_pk (p5b rfl) rfl (xa_nil ⟨_, rfl, line2, cutF (_, p.2) bg hb⟩)⟩⟩))))
  clear hb p
  rintro e ⟨bg, p, hb, rfl⟩
  refine xs_cut M ?_ ?_
  · refine xs_ifp (by none_booked) (fun _ => ?_) fun _ => xs_next (cutF p bg hb)
    refine xs_set (xe_tup (xa_val (xe_draw rfl hb (plv rfl) (by omega) (by omega) fun d bg hb d0 d1 => xa_val (xe_draw rfl hb (plv rfl) (by omega) (by omega) fun d2 bg hb d20 d21 => xa_nil ⟨_, rfl, line2, cutF (d, d2) bg hb⟩))))
  clear hb p
  rintro e ⟨bg, p, hb, rfl⟩
  refine xs_seq (xs_ifp (by none_booked) (fun _ => xs_ret (xe_revT (pk_var rfl) (own_pairs row) ?_)) fun _ => xs_next ?_)
  · rw [← List.map_reverse]
    exact q _ bg hb (by rw [List.length_reverse]; omega)
  refine xs_seq (xs_ifp (by none_booked) (fun _ => xs_ret (xe_turned (pk_var rfl) (by omega) ?_)) fun _ => xs_next ?_)
  · exact q _ bg hb (by rw [List.length_map]; omega)
  refine xs_seq (xs_ifp (by none_booked) (fun _ => xs_ret (xe_catP (xe_pk (pk_var rfl) (tup_pure (own_pairs row)) ⟨row, rfl, xe_slT (xe_turned (pk_var rfl) (by omega) ⟨_, _, _, rfl, own_pairs _, pko_part pk_int, pko_none, ?_⟩)⟩))) fun _ => xs_next ?_)
  · rw [cut_from _ (by decide) (by rw [List.length_map]; omega)]
    exact ⟨_, rfl, by rw [List.length_drop, List.length_map]; omega, q _ bg hb (by rw [List.length_append, List.length_drop, List.length_map]; omega)⟩
  exact (one p (k + 1) _ bg hb (by omega) (by omega) (fun e h => pk_add (pk_var h) pk_int)).imp (fun _ h => h.elim) (fun _ _ h => h) (fun _ h => h) fun _ h => h
/-! ### rows of any pairs -/
def S_law_free_row : Spec := fun ads Q => ∃ (bg : D) (n : Net), ads = [bg, n.dat] ∧ IsBag bg ∧ n.Ok ∧ ∀ (row : List (Int × Int)) (bg' : D), IsBag bg' → row.length ≤ 5 → Q (.tup (row.map pD)) [some bg', none]
theorem xs_law_free_row {K : PySem.W.Frag} (ads : List D) (Q : D → List (Option D) → Prop) (h : S_law_free_row ads Q) :
    XS K [0] (t_law_free_row K S_law_draw) (ads.map some ++ List.replicate 2 none) { nx := fun e => Q .non (back [0] 2 e), rt := fun d e => Q d (back [0] 2 e) } := by
  obtain ⟨bg, n, rfl, hb, hn, q⟩ := h
  have hs' : sizeLine = 16777216 := sizeLine_eq
  have hfew := hn.few
  have plv : ∀ {e : DEnv}, e[1]? = some (some n.dat) → Pk K (tCB (rLen2 K) (tCons (tOp (rIxT K) (tVar 1) (tC (.int 0))) tNil)) e (.int n.lv.length) := fun h => by
    have := pk_len (K := K) (pk_ixT (pk_var h) pk_int rfl n.at0) (ds := n.lv.map D.int) rfl
    rw [List.length_map] at this
    exact this
  show XS K [0] (t_law_free_row K S_law_draw) [some bg, some n.dat, none, none] _
  refine xs_seq (xs_set (xe_pk (pk_add (plv rfl) pk_int) rfl ?_))
  dsimp only [List.set]
  refine xs_ret (xe_tupleX (xe_lc1 (xe_draw rfl hb (by none_booked) (by decide) (by decide) fun m bg hb m0 m1 => ⟨_, fun k acc e => ∃ bg, ∃ row : List (Int × Int), IsBag bg ∧ row.length = k ∧ acc = row.map pD ∧ e = [some bg, some n.dat, some (.int (n.lv.length + 2)), none], rfl, by omega, by omega,
    ⟨bg, [], hb, rfl, rfl, rfl⟩, ?_, ?_⟩)))
  · clear hb
    rintro k acc e hk ⟨bg, row, hb, hr, rfl, rfl⟩
    refine gc_name (by decide) (show 3 < 4 by decide) (xt_yes ⟨fun _ => xe_tup (xa_val (xe_sub (xe_draw rfl hb (pk_var rfl) (by omega) (by omega) fun d bg hb d0 d1 => ⟨_, rfl, xe_pk pk_int rfl ⟨_, rfl, xa_val (xe_sub (xe_draw rfl hb (pk_var rfl) (by omega) (by omega) fun d2 bg hb d20 d21 => ⟨_, rfl, xe_pk pk_int rfl ⟨_, rfl,
      xa_nil ⟨_, rfl, line2, ?_, ?_⟩⟩⟩))⟩⟩))), fun z => nomatch z⟩)
    · rw [List.length_map]; omega
    · refine ⟨bg, row ++ [(d - 1, d2 - 1)], hb, by rw [List.length_append, hr]; rfl, by rw [List.map_append]; rfl, rfl⟩
  · clear hb
    rintro acc e ⟨bg, row, hb, hr, rfl, rfl⟩
    exact ⟨_, rfl, own_pairs row, q row bg hb (by omega)⟩
end DL

set_option autoImplicit false
set_option linter.all false
namespace DL
open PySem L2
def t_law_steps_told (K : PySem.W.Frag) (S_law_same S_steps_from S_law_steps_due : Spec) : TS :=
 (tSeq (tAsg (tCall (spOf K S_law_steps_due) [] E0 (tCons (tVar 0) (tCons (tVar 1) (tCons (tVar 2) tNil)))) (gName 3))
 (tSeq (tAsg (tCall (spOf K S_steps_from) [] E0 (tCons (tVar 0) (tCons (tVar 2) tNil))) (gName 4))
 (tSeq (tIfS (tNot (tB (tCall (spOf K S_law_same) [] E0 (tCons (tVar 4) (tCons (tVar 3) tNil))))) (tRet (tC (.bl false))) tNext)
 (tSeq (tDrop (tBM K "list" rAppend (tVar 4) (tCons (tTup (tCons (tC (.int 0)) (tCons (tC (.int 0)) tNil))) tNil)))
 (tRet (tCall (spOf K S_law_same) [] E0 (tCons (tCall (spOf K S_steps_from) [] E0 (tCons (tVar 0) (tCons (tVar 2) tNil))) (tCons (tVar 3) tNil))))))))
def t_law_row_told (K : PySem.W.Frag) (S_law_same S_is_exchange S_is_walk S_law_walk_due : Spec) : TS :=
 (tSeq (tAsg (tCall (spOf K S_law_walk_due) [] E0 (tCons (tVar 0) (tCons (tVar 1) (tCons (tVar 2) tNil)))) (gName 3))
 (tSeq (tIfS (tNot (tB (tCall (spOf K S_law_same) [] E0 (tCons (tCall (spOf K S_is_walk) [] E0 (tCons (tVar 0) (tCons (tVar 2) tNil))) (tCons (tVar 3) tNil))))) (tRet (tC (.bl false))) tNext)
 (tRet (tCall (spOf K S_law_same) [] E0 (tCons (tCall (spOf K S_is_exchange) [] E0 (tCons (tVar 0) (tCons (tVar 2) tNil))) (tCons (tAndV (tVar 3) (tOp (rEqD K) (tOp (rIxT K) (tVar 2) (tC (.int 0))) (tTup (tCons (tOp (rIxT K) (tOp (rIxT K) (tVar 2) (tUn rNeg (tC (.int 1)))) (tC (.int 1))) (tCons (tOp (rIxT K) (tOp (rIxT K) (tVar 2) (tUn rNeg (tC (.int 1)))) (tC (.int 0))) tNil))))) tNil))))))
def t_law (K : PySem.W.Frag) (S_law_row_told S_law_free_row S_law_bent_row S_law_way S_law_wander S_law_pick S_law_steps_told S_law_draw S_law_pairs S_law_near S_law_joined S_law_some_net S_law_bag : Spec) : TS :=
 (tSeq (tAsg (tCall (spOf K S_law_bag) [] E0 (tCons (tVar 0) tNil)) (gName 1))
 (tSeq (tAsg (tCall (spOf K S_law_some_net) [] E0 (tCons (tVar 1) tNil)) (gName 2))
 (tSeq (tAsg (tCall (spOf K S_law_joined) [] E0 (tCons (tVar 2) tNil)) (gName 3))
 (tSeq (tAsg (tCall (spOf K S_law_near) [] E0 (tCons (tVar 2) tNil)) (gName 4))
 (tSeq (tAsg (tCall (spOf K S_law_pairs) [] E0 (tCons (tVar 2) tNil)) (gName 5))
 (tSeq (tAsg (tLst (tCons (tTup tNil) (tCons (tTup (tCons (tTup (tCons (tC (.int 0)) (tCons (tC (.int 0)) tNil))) tNil)) (tCons (tTup (tCons (tTup (tCons (tC (.int 0)) (tCons (tCB (rLen2 K) (tCons (tOp (rIxT K) (tVar 2) (tC (.int 0))) tNil)) tNil))) tNil)) (tCons (tTup (tCons (tTup (tCons (tUn rNeg (tC (.int 1))) (tCons (tC (.int 0)) tNil))) tNil)) tNil))))) (gName 6))
 (tSeq (tAsg (tC (.int 0)) (gName 7))
 (tSeq (tIfS (tTest (tOp rGt2 (tCB (rLen2 K) (tCons (tVar 5) tNil)) (tC (.int 0)))) (tAsg (tOp rAdd2 (tC (.int 1)) (tCall (spOf K S_law_draw) [] E0 (tCons (tVar 1) (tCons (tC (.int 3)) tNil)))) (gName 7)) tNext)
 (tSeq (tFor (iRng1 (tCons (tVar 7) tNil)) (gName 8) (tSeq (tAsg (tCall (spOf K S_law_pick) [] E0 (tCons (tVar 1) (tCons (tVar 5) tNil))) (gName 9))
 (tSeq (tIfS (tTest (tOp rEq (tCall (spOf K S_law_draw) [] E0 (tCons (tVar 1) (tCons (tC (.int 2)) tNil))) (tC (.int 0)))) (tAsg (tTup (tCons (tOp (rIxT K) (tVar 9) (tC (.int 1))) (tCons (tOp (rIxT K) (tVar 9) (tC (.int 0))) tNil))) (gName 9)) tNext)
 (tSeq (tIfS (tNot (tB (tCall (spOf K S_law_steps_told) [] E0 (tCons (tVar 2) (tCons (tVar 3) (tCons (tVar 9) tNil)))))) (tRet (tC (.bl false))) tNext)
 (tSeq (tAsg (tCall (spOf K S_law_wander) [] E0 (tCons (tVar 1) (tCons (tVar 2) (tCons (tVar 9) (tCons (tCall (spOf K S_law_pick) [] E0 (tCons (tVar 1) (tCons (tLst (tCons (tC (.int 4)) (tCons (tC (.int 4)) (tCons (tC (.int 4)) (tCons (tC (.int 40)) tNil))))) tNil))) tNil))))) (gName 10))
 (tSeq (tDrop (tBM K "list" rAppend (tVar 6) (tCons (tVar 10) tNil)))
 (tSeq (tDrop (tBM K "list" rAppend (tVar 6) (tCons (tCall (spOf K S_law_bent_row) [] E0 (tCons (tVar 1) (tCons (tVar 2) (tCons (tVar 10) tNil)))) tNil)))
 (tSeq (tAsg (tCall (spOf K S_law_way) [] E0 (tCons (tVar 4) (tCons (tVar 9) (tCons (tTup (tCons (tOp (rIxT K) (tVar 9) (tC (.int 1))) (tCons (tOp (rIxT K) (tVar 9) (tC (.int 0))) tNil))) tNil)))) (gName 11))
 (tIfS (tTest (tOp rGt2 (tCB (rLen2 K) (tCons (tVar 11) tNil)) (tC (.int 0)))) (tSeq (tDrop (tBM K "list" rAppend (tVar 6) (tCons (tVar 11) tNil)))
 (tDrop (tBM K "list" rAppend (tVar 6) (tCons (tCall (spOf K S_law_bent_row) [] E0 (tCons (tVar 1) (tCons (tVar 2) (tCons (tVar 11) tNil)))) tNil)))) tNext)))))))))
 (tSeq (tDrop (tBM K "list" rAppend (tVar 6) (tCons (tCall (spOf K S_law_free_row) [] E0 (tCons (tVar 1) (tCons (tVar 2) tNil))) tNil)))
 (tSeq (tFor (iList K (tVar 6)) (gName 12) (tIfS (tNot (tB (tCall (spOf K S_law_row_told) [] E0 (tCons (tVar 2) (tCons (tVar 3) (tCons (tVar 12) tNil)))))) (tRet (tC (.bl false))) tNext))
 (tRet (tC (.bl true))))))))))))))

theorem same_rows : ∀ qs : List (Int × Int), sameL (qs.map pD) (qs.map pD) = true
  | [] => rfl
  | x :: qs => by
    show (sameD (pD x) (pD x) && sameL (qs.map pD) (qs.map pD)) = true
    rw [same_rows qs, Bool.and_true]
    show ((x.1 == x.1) && ((x.2 == x.2) && true)) = true
    simp
theorem ok_rows : ∀ qs : List (Int × Int), okL 1 (qs.map pD) = true ∧ kL (qs.map pD) = true
  | [] => ⟨rfl, rfl⟩
  | x :: qs => by
    obtain ⟨h1, h2⟩ := ok_rows qs
    refine ⟨?_, ?_⟩
    · show (okD 1 (pD x) && okL 1 (qs.map pD)) = true
      rw [h1]
      rfl
    · show (kD (pD x) && kL (qs.map pD)) = true
      rw [h2]
      rfl
theorem ok_list {qs : List (Int × Int)} (h : qs.length ≤ 16777216) : okD 2 (.mls (qs.map pD)) = true := by
  show (okL 1 (qs.map pD) && decide ((qs.map pD).length ≤ 16777216)) = true
  rw [(ok_rows qs).1, List.length_map, decide_eq_true h]
  rfl
def S_law_steps_told : Spec := fun ads Q => ∃ (n : Net) (p : Int × Int), ads = [n.dat, JD n, pD p] ∧ n.Ok ∧ PairOk n.lv p ∧ Q (.bl true) [none, none, none]
theorem xs_law_steps_told {K : PySem.W.Frag} (ads : List D) (Q : D → List (Option D) → Prop) (h : S_law_steps_told ads Q) :
    XS K [] (t_law_steps_told K (S_same 3) S_steps_from S_law_steps_due) (ads.map some ++ List.replicate 2 none) { nx := fun e => Q .non (back [] 3 e), rt := fun d e => Q d (back [] 3 e) } := by
  obtain ⟨n, p, rfl, hn, hp, q⟩ := h
  have hs' : sizeLine = 16777216 := sizeLine_eq
  have hfew := hn.few
  have hv : Valid n p := ⟨hp.1, hp.2.1, hp.2.2.1, hp.2.2.2.1⟩
  have hdl : (dueL n p).length ≤ 64 * 64 := by
    have h1 := crossP_len (duP n) (jn n p.2) (jn n p.1)
    have h2 := jn_len n p.1
    have h3 := jn_len n p.2
    exact Nat.le_trans h1 (Nat.mul_le_mul (by omega) (by omega))
  show XS K [] (t_law_steps_told K (S_same 3) S_steps_from S_law_steps_due) [some n.dat, some (JD n), some (pD p), none, none] _
  refine xs_seq (xs_set (xe_call (xa_pk (pk_var rfl) n.pure (xa_pk (pk_var rfl) (JD_pure n) (xa_pk (pk_var rfl) rfl (xa_nil ⟨_, _, rfl, n, p, rfl, hn, hv, ?_⟩))))))
  refine xs_seq (xs_set (xe_call (xa_pk (pk_var rfl) n.pure (xa_pk (pk_var rfl) rfl (xa_nil ⟨_, _, rfl, n, p, rfl, hn, hv.1, hv.2.1, hv.2.2.1, hv.2.2.2, fun qs h1 h2 => ?_⟩)))))
  have e1 : qs = dueL n p := lex_uniq h2 (due_sorted n p) fun x => (h1 x).trans (due_mem hn hp).symm
  subst e1
  show XS K [] _ [some n.dat, some (JD n), some (pD p), some (.mls ((dueL n p).map pD)), some (.mls ((dueL n p).map pD))] _
  have same : sameD (.mls ((dueL n p).map pD)) (.mls ((dueL n p).map pD)) = true := same_rows _
  refine xs_seq (xs_if (xt_not (xt_B (xe_call (xa_bor rfl (xa_bor rfl (xa_nil ⟨_, _, rfl, _, _, rfl, ok_list (by omega), (ok_rows _).2, (ok_rows _).2, own_pairs _, own_pairs _, _, rfl, ?_⟩)))))))
  rw [same]
  refine ⟨fun z => (nomatch z), fun _ => xs_next ?_⟩
  show XS K [] _ [some n.dat, some (JD n), some (pD p), some (.mls ((dueL n p).map pD)), some (.mls ((dueL n p).map pD))] _
  refine xs_seq (xs_drop (xe_append rfl rfl (xe_tup (xa_pk pk_int rfl (xa_pk pk_int rfl (xa_nil ⟨_, rfl, line2, _, rfl, by rw [List.length_map]; omega, ?_⟩))))))
  refine xs_ret (xe_call (xa_val (xe_call (xa_pk (pk_var rfl) n.pure (xa_pk (pk_var rfl) rfl (xa_nil ⟨_, _, rfl, n, p, rfl, hn, hv.1, hv.2.1, hv.2.2.1, hv.2.2.2, fun qs h1 h2 => xa_bor rfl (xa_nil ⟨_, _, rfl, .mls (qs.map pD), .mls ((dueL n p).map pD), rfl, ok_list (by omega), (ok_rows _).2, (ok_rows _).2, own_pairs _, own_pairs _, ?_⟩)⟩))))))
  have e1 : qs = dueL n p := lex_uniq h2 (due_sorted n p) fun x => (h1 x).trans (due_mem hn hp).symm
  subst e1
  rw [same]
  exact q
def S_law_row_told : Spec := fun ads Q => ∃ (n : Net) (row : List (Int × Int)), ads = [n.dat, JD n, .tup (row.map pD)] ∧ n.Ok ∧ row.length ≤ 16777216 ∧ Q (.bl true) [none, none, none]
theorem same_bl (a b : Bool) : sameD (.bl a) (.bl b) = (a == b) := rfl
theorem xs_law_row_told {K : PySem.W.Frag} (ads : List D) (Q : D → List (Option D) → Prop) (h : S_law_row_told ads Q) :
    XS K [] (t_law_row_told K (S_same 3) S_is_exchange S_is_walk S_law_walk_due) (ads.map some ++ List.replicate 1 none) { nx := fun e => Q .non (back [] 3 e), rt := fun d e => Q d (back [] 3 e) } := by
  obtain ⟨n, row, rfl, hn, hz, q⟩ := h
  have hs' : sizeLine = 16777216 := sizeLine_eq
  show XS K [] (t_law_row_told K (S_same 3) S_is_exchange S_is_walk S_law_walk_due) [some n.dat, some (JD n), some (.tup (row.map pD)), none] _
  refine xs_seq (xs_set (xe_call (xa_pk (pk_var rfl) n.pure (xa_pk (pk_var rfl) (JD_pure n) (xa_pk (pk_var rfl) (tup_pure (own_pairs row)) (xa_nil ⟨_, _, rfl, n, row, rfl, hn, hz, fun b hb => ?_⟩))))))
  show XS K [] _ [some n.dat, some (JD n), some (.tup (row.map pD)), some (.bl b)] _
  refine xs_seq (xs_if (xt_not (xt_B (xe_call (xa_val (xe_call (xa_pk (pk_var rfl) n.pure (xa_pk (pk_var rfl) (tup_pure (own_pairs row)) (xa_nil ⟨_, _, rfl, n, row, rfl, hn, hz, fun b1 hb1 => xa_pk (pk_var rfl) rfl (xa_nil ⟨_, _, rfl, .bl b1, .bl b, rfl, rfl, rfl, rfl, rfl, rfl, _, rfl, ?_⟩)⟩)))))))))
  have e : b1 = b := by
    cases b1 <;> cases b <;> first | rfl | (exfalso; have z := hb1.trans hb.symm; simp at z)
  subst e
  rw [same_bl, beq_self_eq_true]
  refine ⟨fun z => (nomatch z), fun _ => xs_next ?_⟩
  show XS K [] _ [some n.dat, some (JD n), some (.tup (row.map pD)), some (.bl b1)] _
  refine xs_ret (xe_call (xa_val (xe_call (xa_pk (pk_var rfl) n.pure (xa_pk (pk_var rfl) (tup_pure (own_pairs row)) (xa_nil ⟨_, _, rfl, n, row, rfl, hn, hz, fun b2 hb2 => xa_val (xe_andV (xe_pk (pk_var rfl) rfl ⟨b1, rfl, fun ht => ?_, fun hf => xa_nil ⟨_, _, rfl, .bl b2, .bl false, rfl, rfl, rfl, rfl, rfl, rfl, ?_⟩⟩))⟩))))))
  · have hw := hb.mp ht
    have h0 : (0 : Int) < row.length := by have := hw.1; omega
    have pl : ∀ {e : DEnv}, e[2]? = some (some (.tup (row.map pD))) → Pk K (tOp (rIxT K) (tVar 2) (tUn rNeg (tC (.int 1)))) e (pD (gt row (row.length - 1))) := fun h => pk_ixT (pk_var h) (pk_neg pk_int) rfl (atI_last (by omega))
    refine xe_eqD (xe_pk (pk_ixT (pk_var rfl) pk_int rfl (atI_map (by decide) h0)) rfl ⟨rfl, rfl, xe_tup (xa_pk (pk_ixT (pl rfl) pk_int rfl rfl) rfl (xa_pk (pk_ixT (pl rfl) pk_int rfl rfl) rfl (xa_nil ⟨_, rfl, line2, rfl, rfl, ?_⟩)))⟩)
    have ev : PyData.eqv (pD (gt row 0)).py (D.tup [.int (gt row (row.length - 1)).2, .int (gt row (row.length - 1)).1]).py = decide (gt row 0 = ((gt row (row.length - 1)).2, (gt row (row.length - 1)).1)) := eqv_pD (gt row 0) ((gt row (row.length - 1)).2, (gt row (row.length - 1)).1)
    refine xa_nil ⟨_, _, rfl, .bl b2, .bl _, rfl, rfl, rfl, rfl, rfl, rfl, ?_⟩
    rw [same_bl]
    show Q (.bl (b2 == PyData.eqv (pD (gt row 0)).py (D.tup [.int (gt row (row.length - 1)).2, .int (gt row (row.length - 1)).1]).py)) _
    rw [ev]
    have e2 : b2 = decide (gt row 0 = ((gt row (row.length - 1)).2, (gt row (row.length - 1)).1)) := by
      have iff : b2 = true ↔ gt row 0 = ((gt row (row.length - 1)).2, (gt row (row.length - 1)).1) := by
        rw [hb2]
        unfold IsExch
        constructor
        · rintro ⟨_, h⟩
          rw [h]
        · intro h
          refine ⟨hw, ?_⟩
          rw [h]
      cases b2 with
      | true => exact (decide_eq_true (iff.mp rfl)).symm
      | false =>
        refine (decide_eq_false fun z => ?_).symm
        have := iff.mpr z
        cases this
    rw [e2, beq_self_eq_true]
    exact q
  · have e2 : b2 = false := by
      cases b2 with
      | false => rfl
      | true =>
        have := hb.mpr (hb2.mp rfl).1
        rw [this] at hf
        cases hf
    subst e2
    exact q
/-! ### the law -/
abbrev rD (row : List (Int × Int)) : D := .tup (row.map pD)
theorem rD_pure (row : List (Int × Int)) : (rD row).pure = true := tup_pure (own_pairs row)
def S_law : Spec := fun ads Q => ∃ (t : D) (ns : List Int), ads = [t] ∧ t.isL = some (ns.map D.int) ∧ t.pure = true ∧ ns.length ≤ 16777216 ∧ Q (.bl true) [none]
theorem PairOk.swap {lv : List Int} {p : Int × Int} (h : PairOk lv p) : PairOk lv (p.2, p.1) := ⟨h.2.2.1, h.2.2.2.1, h.1, h.2.1, Ne.symm h.2.2.2.2.1, h.2.2.2.2.2.symm⟩
theorem PairOk.valid {n : Net} {p : Int × Int} (h : PairOk n.lv p) : Valid n p := ⟨h.1, h.2.1, h.2.2.1, h.2.2.2.1⟩
theorem xs_law {K : PySem.W.Frag} (ads : List D) (Q : D → List (Option D) → Prop) (h : S_law ads Q) :
    XS K [] (t_law K S_law_row_told S_law_free_row S_law_bent_row S_law_way S_law_wander S_law_pick S_law_steps_told S_law_draw S_law_pairs S_law_near S_law_joined S_gen S_law_bag) (ads.map some ++ List.replicate 12 none) { nx := fun e => Q .non (back [] 1 e), rt := fun d e => Q d (back [] 1 e) } := by
  obtain ⟨t, ns, rfl, ht, hp, hz, q⟩ := h
  have hs' : sizeLine = 16777216 := sizeLine_eq
  show XS K [] (t_law K S_law_row_told S_law_free_row S_law_bent_row S_law_way S_law_wander S_law_pick S_law_steps_told S_law_draw S_law_pairs S_law_near S_law_joined S_gen S_law_bag) [some t, none, none, none, none, none, none, none, none, none, none, none, none] _
  refine xs_seq (xs_set (xe_call (xa_pk (pk_var rfl) hp (xa_nil ⟨_, _, rfl, t, ns, rfl, ht, hp, hz, fun bg hb => ?_⟩))))
  refine xs_seq (xs_set (xe_gen rfl hb fun n bg hb hn => ?_))
  have hfew := hn.few
  refine xs_seq (xs_set (xe_frz (xe_call (xa_pk (pk_var rfl) n.pure (xa_nil ⟨_, _, rfl, n, rfl, hn, by rw [D.noraw]; exact pureL_noraw (rows_pure _), ?_⟩)))))
  rw [D.frz, frzL_id (rows_pure _)]
  refine xs_seq (xs_set (xe_frz (xe_call (xa_pk (pk_var rfl) n.pure (xa_nil ⟨_, _, rfl, n, rfl, hn, fun bs hs h1 h2 => ⟨near_noraw _ _, ?_⟩⟩)))))
  rw [near_frz]
  have N : Near n bs hs := ⟨hn, h1, h2⟩
  refine xs_seq (xs_set (xe_frz (xe_call (xa_pk (pk_var rfl) n.pure (xa_nil ⟨_, _, rfl, n, rfl, hn, fun ps hps hpz => ⟨by rw [D.noraw]; exact pureL_noraw (own_pairs _), ?_⟩⟩)))))
  rw [D.frz, frzL_id (own_pairs _)]
  show XS K [] _ [some t, some bg, some n.dat, some (JD n), some (ND bs hs), some (.lst (ps.map pD)), none, none, none, none, none, none, none] _
  have plv : ∀ {e : DEnv}, e[2]? = some (some n.dat) → Pk K (tCB (rLen2 K) (tCons (tOp (rIxT K) (tVar 2) (tC (.int 0))) tNil)) e (.int n.lv.length) := fun h => by
    have := pk_len (K := K) (pk_ixT (pk_var h) pk_int rfl n.at0) (ds := n.lv.map D.int) rfl
    rw [List.length_map] at this
    exact this
  refine xs_cut (fun e => ∃ rows : List (List (Int × Int)), rows.length = 4 ∧ (∀ r ∈ rows, r.length ≤ 16000000) ∧ e = [some t, some bg, some n.dat, some (JD n), some (ND bs hs), some (.lst (ps.map pD)), some (.mls (rows.map rD)), none, none, none, none, none, none]) ?_ ?_
  · refine xs_set (xe_lst (xa_val (xe_tup (xa_nil ⟨[], rfl, by decide, ?_⟩))))
    refine xa_val (xe_tup (xa_val (xe_tup (xa_pk pk_int rfl (xa_pk pk_int rfl (xa_nil ⟨_, rfl, line2, xa_nil ⟨_, rfl, line1, ?_⟩⟩))))))
    refine xa_val (xe_tup (xa_val (xe_tup (xa_pk pk_int rfl (xa_pk (plv rfl) rfl (xa_nil ⟨_, rfl, line2, xa_nil ⟨_, rfl, line1, ?_⟩⟩))))))
    refine xa_val (xe_tup (xa_val (xe_tup (xa_pk (pk_neg pk_int) rfl (xa_pk pk_int rfl (xa_nil ⟨_, rfl, line2, xa_nil ⟨_, rfl, line1, ?_⟩⟩))))))
    refine xa_nil ⟨_, rfl, (by rw [sizeLine_eq]; exact (by decide : 4 ≤ 16777216)), ?_⟩
    refine ⟨[[], [(0, 0)], [(0, n.lv.length)], [(-1, 0)]], rfl, ?_, rfl⟩
    intro r m
    rcases List.mem_cons.mp m with rfl | m
    · exact Nat.zero_le _
    · rcases List.mem_cons.mp m with rfl | m
      · exact (by decide : 1 ≤ 16000000)
      · rcases List.mem_cons.mp m with rfl | m
        · exact (by decide : 1 ≤ 16000000)
        · rw [List.mem_singleton.mp m]
          exact (by decide : 1 ≤ 16000000)
  rintro e ⟨rows, hr4, hrz, rfl⟩
  refine xs_seq (xs_set (xe_pk pk_int rfl ?_))
  dsimp only [List.set]
  refine xs_cut (fun e => ∃ bg, ∃ many : Int, IsBag bg ∧ 0 ≤ many ∧ many ≤ 3 ∧ (0 < many → 0 < ps.length) ∧ e = [some t, some bg, some n.dat, some (JD n), some (ND bs hs), some (.lst (ps.map pD)), some (.mls (rows.map rD)), some (.int many), none, none, none, none, none]) ?_ ?_
  · refine xs_ifp (pkt_test (pk_gt (pk_len (pk_var rfl) (ds := ps.map pD) rfl) pk_int)) (fun hc => ?_) fun _ => xs_next ⟨bg, 0, hb, by decide, by decide, (fun z => absurd z (by decide)), rfl⟩
    have hc' := of_decide_eq_true hc
    rw [List.length_map] at hc'
    refine xs_set (xe_add (xe_pk pk_int rfl ⟨_, rfl, xe_draw rfl hb (by none_booked) (by decide) (by decide) fun d bg hb d0 d1 => ⟨_, rfl, ?_⟩⟩))
    exact ⟨bg, 1 + d, hb, by omega, by omega, fun _ => by omega, rfl⟩
  clear hb
  rintro e ⟨bg, many, hb, m0, m3, hmp, rfl⟩
  refine xs_cut (fun e => ∃ bg, ∃ rows : List (List (Int × Int)), ∃ x8 x9 x10 x11, IsBag bg ∧ rows.length ≤ 16 ∧ (∀ r ∈ rows, r.length ≤ 16000000) ∧ e = [some t, some bg, some n.dat, some (JD n), some (ND bs hs), some (.lst (ps.map pD)), some (.mls (rows.map rD)), some (.int many), x8, x9, x10, x11, none]) ?_ ?_
  · refine xs_for1 (xe_pk (pk_var rfl) rfl ⟨many, fun k e => ∃ bg, ∃ rows : List (List (Int × Int)), ∃ x8 x9 x10 x11, IsBag bg ∧ rows.length ≤ 4 + 4 * k ∧ (∀ r ∈ rows, r.length ≤ 16000000) ∧ e = [some t, some bg, some n.dat, some (JD n), some (ND bs hs), some (.lst (ps.map pD)), some (.mls (rows.map rD)), some (.int many), x8, x9, x10, x11, none], rfl, by omega, by omega,
      ⟨bg, rows, _, _, _, _, hb, by omega, hrz, rfl⟩, ?_, ?_⟩)
    · clear hb hr4 hrz
      rintro k e hk ⟨bg, rows, x8, x9, x10, x11, hb, hr, hrz, rfl⟩
      refine gx_name (by decide) (show 8 < 13 by decide) ?_
      dsimp only [List.set]
      refine xs_seq (xs_set (xe_pick rfl (xe_pk (pk_var rfl) (lst_pure (own_pairs ps)) ⟨bg, _, rfl, hb, rfl, own_pairs ps, by rw [List.length_map]; exact hmp (by omega), by rw [List.length_map]; omega, fun d bg hb hd => ?_⟩)))
      obtain ⟨p, hpm, rfl⟩ := List.mem_map.mp hd
      have hpo := hps p hpm
      dsimp only [List.set]
      refine xs_cut (fun e => ∃ bg, ∃ p : Int × Int, IsBag bg ∧ PairOk n.lv p ∧ e = [some t, some bg, some n.dat, some (JD n), some (ND bs hs), some (.lst (ps.map pD)), some (.mls (rows.map rD)), some (.int many), some (.int k), some (pD p), x10, x11, none]) ?_ ?_
      · refine xs_if (xt_test (xe_eqI (xe_draw rfl hb (by none_booked) (by decide) (by decide) fun z bg hb z0 z1 => ⟨z, rfl, xe_pk pk_int rfl ⟨_, rfl, _, rfl, ?_⟩⟩)))
        refine ⟨fun _ => ?_, fun _ => xs_next ⟨bg, p, hb, hpo, rfl⟩⟩
        exact xs_set (xe_tup (xa_pk (pk_ixT (pk_var rfl) pk_int rfl rfl) rfl (xa_pk (pk_ixT (pk_var rfl) pk_int rfl rfl) rfl (xa_nil ⟨_, rfl, line2, bg, (p.2, p.1), hb, hpo.swap, rfl⟩))))
      clear hb hpo hpm hd p
      rintro e ⟨bg, p, hb, hpo, rfl⟩
      have hv := hpo.valid
      have n0 : 0 < n.lv.length := by have := hv.1; have := hv.2.1; omega
      refine xs_seq (xs_if (xt_not (xt_B (xe_call (xa_pk (pk_var rfl) n.pure (xa_pk (pk_var rfl) (JD_pure n) (xa_pk (pk_var rfl) rfl (xa_nil ⟨_, _, rfl, n, p, rfl, hn, hpo, true, rfl, ⟨fun z => (nomatch z), fun _ => xs_next ?_⟩⟩))))))))
      refine xs_seq (xs_set (xe_call (xa_bor rfl (xa_pk (pk_var rfl) n.pure (xa_pk (pk_var rfl) rfl (xa_val (xe_pick rfl (xe_lst (xa_pk pk_int rfl (xa_pk pk_int rfl (xa_pk pk_int rfl (xa_pk pk_int rfl (xa_nil ⟨_, rfl, (by rw [sizeLine_eq]; exact (by decide : 4 ≤ 16777216)), bg, _, rfl, hb, rfl, rfl, (show 0 < 4 by decide), (show 4 < 1073741824 by decide), fun d bg hb hd => ?_⟩)))))))))))))
      have hd' : ∃ i : Int, d = .int i ∧ 0 ≤ i ∧ i ≤ 1000 := by
        rcases List.mem_cons.mp hd with e | hd
        · exact ⟨_, e, by decide, by decide⟩
        · rcases List.mem_cons.mp hd with e | hd
          · exact ⟨_, e, by decide, by decide⟩
          · rcases List.mem_cons.mp hd with e | hd
            · exact ⟨_, e, by decide, by decide⟩
            · exact ⟨_, List.mem_singleton.mp hd, by decide, by decide⟩
      obtain ⟨i, rfl, i0, i1⟩ := hd'
      refine xa_nil ⟨_, _, rfl, bg, n, p, i, rfl, hb, hn, hv, i0, i1, fun row bg hb w0 w1 w2 => ?_⟩
      show XS K [] _ [some t, some bg, some n.dat, some (JD n), some (ND bs hs), some (.lst (ps.map pD)), some (.mls (rows.map rD)), some (.int many), some (.int k), some (pD p), some (rD row), x11, none] _
      have addR : ∀ (rows : List (List (Int × Int))) (row : List (Int × Int)), rows.map rD ++ [rD row] = (rows ++ [row]).map rD := fun rows row => by rw [List.map_append]; rfl
      have okR : ∀ {rows : List (List (Int × Int))} {row : List (Int × Int)}, (∀ r ∈ rows, r.length ≤ 16000000) → row.length ≤ 16000000 → ∀ r ∈ rows ++ [row], r.length ≤ 16000000 := fun {rows row} h h2 r m => by
        rcases List.mem_append.mp m with m | m
        · exact h r m
        · rw [List.mem_singleton.mp m]; exact h2
      refine xs_seq (xs_drop (xe_append rfl rfl (xe_pk (pk_var rfl) (rD_pure row) ⟨_, rfl, by rw [List.length_map]; omega, ?_⟩)))
      dsimp only [List.set]
      rw [addR]
      refine xs_seq (xs_drop (xe_append rfl rfl (xe_call (xa_bor rfl (xa_pk (pk_var rfl) n.pure (xa_pk (pk_var rfl) (rD_pure row) (xa_nil ⟨_, _, rfl, bg, n, row, rfl, hb, hn, n0, w0, by omega, fun row2 bg hb z2 => ⟨_, rfl, by rw [List.length_map, List.length_append]; show rows.length + 1 < _; omega, ?_⟩⟩)))))))
      show XS K [] _ [some t, some bg, some n.dat, some (JD n), some (ND bs hs), some (.lst (ps.map pD)), some (.mls ((rows ++ [row]).map rD ++ [rD row2])), some (.int many), some (.int k), some (pD p), some (rD row), x11, none] _
      rw [addR]
      refine xs_seq (xs_set (xe_call (xa_pk (pk_var rfl) (ND_pure _ _) (xa_pk (pk_var rfl) rfl (xa_val (xe_tup (xa_pk (pk_ixT (pk_var rfl) pk_int rfl rfl) rfl (xa_pk (pk_ixT (pk_var rfl) pk_int rfl rfl) rfl (xa_nil ⟨_, rfl, line2, xa_nil ⟨_, _, rfl, n, bs, hs, p, (p.2, p.1), rfl, N, hv, fun way wz => ?_⟩⟩)))))))))
      show XS K [] _ [some t, some bg, some n.dat, some (JD n), some (ND bs hs), some (.lst (ps.map pD)), some (.mls ((rows ++ [row] ++ [row2]).map rD)), some (.int many), some (.int k), some (pD p), some (rD row), some (rD way), none] _
      have hrz2 := okR (okR hrz (row := row) (by omega)) (row := row2) (by omega)
      have hl2 : (rows ++ [row] ++ [row2]).length = rows.length + 2 := by rw [List.length_append, List.length_append]; rfl
      refine xs_ifp (pkt_test (pk_gt (pk_len (pk_var rfl) (ds := way.map pD) rfl) pk_int)) (fun hc => ?_) fun _ => xs_next ⟨bg, _, _, _, _, _, hb, by omega, hrz2, rfl⟩
      have hc' := of_decide_eq_true hc
      rw [List.length_map] at hc'
      generalize rows ++ [row] ++ [row2] = rows2 at hrz2 hl2
      refine xs_seq (xs_drop (xe_append rfl rfl (xe_pk (pk_var rfl) (rD_pure way) ⟨_, rfl, by rw [List.length_map]; omega, ?_⟩)))
      dsimp only [List.set]
      rw [addR]
      refine xs_drop (xe_append rfl rfl (xe_call (xa_bor rfl (xa_pk (pk_var rfl) n.pure (xa_pk (pk_var rfl) (rD_pure way) (xa_nil ⟨_, _, rfl, bg, n, way, rfl, hb, hn, n0, by omega, by omega, fun row4 bg hb z4 => ⟨_, rfl, by rw [List.length_map, List.length_append]; show rows2.length + 1 < _; omega, ?_⟩⟩))))))
      refine ⟨bg, rows2 ++ [way] ++ [row4], some (.int k), some (pD p), some (rD row), some (rD way), hb, ?_, okR (okR hrz2 (row := way) (by omega)) (row := row4) (by omega), ?_⟩
      · rw [List.length_append, List.length_append]
        show rows2.length + 1 + 1 ≤ _
        omega
      · rw [← addR (rows2 ++ [way]) row4]
        rfl
    · clear hb hr4 hrz
      rintro e ⟨bg, rows, x8, x9, x10, x11, hb, hr, hrz, rfl⟩
      exact ⟨bg, rows, _, _, _, _, hb, by omega, hrz, rfl⟩
  clear hb hr4 hrz
  rintro e ⟨bg, rows, x8, x9, x10, x11, hb, hr, hrz, rfl⟩
  refine xs_seq (xs_drop (xe_append rfl rfl (xe_call (xa_bor rfl (xa_pk (pk_var rfl) n.pure (xa_nil ⟨_, _, rfl, bg, n, rfl, hb, hn, fun row bg hb z => ⟨_, rfl, by rw [List.length_map]; omega, ?_⟩⟩))))))
  show XS K [] _ [some t, some bg, some n.dat, some (JD n), some (ND bs hs), some (.lst (ps.map pD)), some (.mls (rows.map rD ++ [rD row])), some (.int many), x8, x9, x10, x11, none] _
  have addR : rows.map rD ++ [rD row] = (rows ++ [row]).map rD := by rw [List.map_append]; rfl
  rw [addR]
  have okR : ∀ r ∈ rows ++ [row], r.length ≤ 16000000 := fun r m => by
    rcases List.mem_append.mp m with m | m
    · exact hrz r m
    · rw [List.mem_singleton.mp m]; omega
  generalize rows ++ [row] = rows2 at okR
  refine xs_cut (fun e => True) ?_ ?_
  · refine xs_forL (xe_mov rfl ⟨_, fun k e => ∃ x12, e = [some t, some bg, some n.dat, some (JD n), some (ND bs hs), some (.lst (ps.map pD)), none, some (.int many), x8, x9, x10, x11, x12], rfl, pureL_map rD_pure rows2, ⟨_, rfl⟩, ?_, fun _ _ => trivial⟩)
    rintro k x e hx ⟨x12, rfl⟩
    obtain ⟨r, hrm, rfl⟩ := List.mem_map.mp (List.mem_of_getElem? hx)
    have hrl := okR r hrm
    refine gx_name (by decide) (show 12 < 13 by decide) ?_
    dsimp only [List.set]
    refine xs_if (xt_not (xt_B (xe_call (xa_pk (pk_var rfl) n.pure (xa_pk (pk_var rfl) (JD_pure n) (xa_pk (pk_var rfl) (rD_pure r) (xa_nil ⟨_, _, rfl, n, r, rfl, hn, by omega, true, rfl, ⟨fun z => (nomatch z), fun _ => xs_next ⟨_, rfl⟩⟩⟩)))))))
  · rintro e _
    exact xs_ret (xe_pk pk_bl rfl q)
end DL

set_option autoImplicit false
set_option linter.all false
namespace DL
open PySem PySem.Spec PyProof.Rows L2
/-- a def that keeps its word -/
def HasFn (P : Program) (w : World) (K : PySem.W.Frag) (mg : Str → Option Value) (base : Heap) (k : Nat) (x : Str) (ps : List Str) (S : Spec) : Prop :=
  ∃ (f : Addr) (fd : FuncData), mg x = some (.ref f) ∧ PySem.W.keepIn K (.ref f) = true ∧ Binds K fd ps [] ∧ FnOk P w K mg base CX0 k f fd ps (spOf K S)
theorem hu_of {k : Nat} {A : Around} (r : Room k A) : A.units + 1 < cLine := by have := r.un; omega
theorem hd_of {k : Nat} {A : Around} (r : Room k A) : A.units + 64 < cLine := by have := r.un; omega
theorem he_of {k : Nat} {A : Around} (r : Room k A) : A.units + 65 < cLine := by have := r.un; omega
theorem has_of {P : Program} {w : World} {K : PySem.W.Frag} {mg : Str → Option Value} {base : Heap} {k : Nat} {x qual : Str} {ps : List Str} {S : Spec} {st : Stmt} {f : Addr} {fd : FuncData} (F : Fun K x qual st f fd) (m : mg x = some (.ref f)) (b : Binds K fd ps []) (G : FnOk P w K mg base CX0 k f fd ps (spOf K S)) : HasFn P w K mg base k x ps S :=
  ⟨f, fd, m, F.kp, b, G⟩
theorem HasFn.none {P : Program} {w : World} {K : PySem.W.Frag} {mg : Str → Option Value} {base : Heap} {k : Nat} {x qual : Str} {ps : List Str} {st : Stmt} {f : Addr} {fd : FuncData} (F : Fun K x qual st f fd) (m : mg x = some (.ref f)) (b : Binds K fd ps []) : HasFn P w K mg base k x ps fun _ _ => False :=
  ⟨f, fd, m, F.kp, b, ⟨fun vs H Q E h => by obtain ⟨_, _, _, _, _, _, h, _⟩ := h; exact h.elim, fun A outer s H args us vs Q E _ _ _ _ h => by obtain ⟨_, _, _, _, _, _, h, _⟩ := h; exact h.elim⟩⟩
end DL

set_option autoImplicit false
set_option linter.all false
set_option maxRecDepth 100000
namespace DL
open PySem PySem.Spec PyProof.Rows L2
def topS (i : Nat) : Stmt := PySem.Challenge.pw_drawnlayers_k52_steps_and_walks.main.body.getD i (.Pass ⟨0, 0, 0, 0⟩)
structure BI (mg : Str → Option Value) : Prop where
  list_ : mg "list" = none
  zip_ : mg "zip" = none
  sorted_ : mg "sorted" = none
  all_ : mg "all" = none
  len_ : mg "len" = none
  abs_ : mg "abs" = none
  int_ : mg "int" = none
  range_ : mg "range" = none
  isinstance_ : mg "isinstance" = none
  bool_ : mg "bool" = none
  dict_ : mg "dict" = none
  tuple_ : mg "tuple" = none
  str_ : mg "str" = none
  min_ : mg "min" = none
abbrev s_joints : Stmt := topS 1
theorem sc_joints : FnScope ["net", "levels", "segments", "before", "behind", "upper", "lower", "_"] ["net"] (defScope s_joints) := ⟨rfl, rfl, rfl, by decide +kernel, rfl, by decide +kernel, by decide +kernel⟩
theorem pss_joints {P : Program} {w : World} {K : PySem.W.Frag} {mg : Str → Option Value} {base : Heap} {f : Addr} {k : Nat} (bi : BI mg) 
  (cdv : Value) (A : Around) (outer : List PySem.Env) (s : Shared) (H : Hp) (E : XK) (hr : Room k (A.deeper (envOfC "joints" (defScope s_joints) s.heap.objs.size f cdv))) :
  PSs (cxOf CX0 P w K mg base ["net", "levels", "segments", "before", "behind", "upper", "lower", "_"] "joints" (defScope s_joints) f cdv A outer s H E).nox (defBody s_joints) (t_joints K) := by
  have nd := sc_joints.nd
  exact (pss_cons (ps_asg (pv 0) (pg_tup (by rfl) (pgs_cons (pg_name (i := 1) nd rfl (Or.inl rfl)) (pgs_cons (pg_name (i := 2) nd rfl (Or.inl rfl)) pgs_nil))))
 (pss_cons (ps_setLc (i := 3) (own := [("_", 7)]) (wi := (iTup K (tVar 1))) (g := (gName 7)) (tt := tYes) (te := (tLst tNil)) rfl nd rfl rfl (sw_true rfl rfl rfl (by decide +kernel)) (pi_tup (pv 1)) (blkOk_by (own := [("_", 7)]) (by show blkC ["net", "levels", "segments", "before", "behind", "upper", "lower", "_"] (defScope s_joints) _ [("_", 7)] = true; decide +kernel)) (fun _ _ _ _ _ => (pg_name (i := 7) nd rfl (Or.inl rfl))) (fun _ _ _ _ _ => pts_nil) (fun _ _ _ _ _ => (pe_lst pa_nil)))
 (pss_cons (ps_setLc (i := 4) (own := [("_", 7)]) (wi := (iTup K (tVar 1))) (g := (gName 7)) (tt := tYes) (te := (tLst tNil)) rfl nd rfl rfl (sw_true rfl rfl rfl (by decide +kernel)) (pi_tup (pv 1)) (blkOk_by (own := [("_", 7)]) (by show blkC ["net", "levels", "segments", "before", "behind", "upper", "lower", "_"] (defScope s_joints) _ [("_", 7)] = true; decide +kernel)) (fun _ _ _ _ _ => (pg_name (i := 7) nd rfl (Or.inl rfl))) (fun _ _ _ _ _ => pts_nil) (fun _ _ _ _ _ => (pe_lst pa_nil)))
 (pss_cons (ps_for PassesOwn.never rfl (pi_tup (pv 2)) (pg_tup (by rfl) (pgs_cons (pg_name (i := 5) nd rfl (Or.inl rfl)) (pgs_cons (pg_name (i := 6) nd rfl (Or.inl rfl)) pgs_nil))) (pss_one (ps_if (pt_cmpR op_notIn_seq (pv 6) (pe_ix ix_list (pv 4) (pv 5) (fun _ _ => rfl)) rfl) (pss_cons (ps_expr (pe_bm PySem.F.plainAttrs_list PySem.F.slot_list_append PySem.F.type_list_append mt_append (pe_ix ix_list (pv 4) (pv 5) (fun _ _ => rfl)) (pa_cons (pv 6) pa_nil)))
 (pss_one (ps_expr (pe_bm PySem.F.plainAttrs_list PySem.F.slot_list_append PySem.F.type_list_append mt_append (pe_ix ix_list (pv 3) (pv 6) (fun _ _ => rfl)) (pa_cons (pv 5) pa_nil))))) pss_nil)))
 (pss_one (ps_ret (Lzp.pe_listZip (by rfl) bi.list_ (by rfl) bi.zip_ (pa_cons (pv 3) (pa_cons (pv 4) pa_nil)))))))))
abbrev s_turned_about : Stmt := topS 2
theorem sc_turned_about : FnScope ["pair"] ["pair"] (defScope s_turned_about) := ⟨rfl, rfl, rfl, by decide +kernel, rfl, by decide +kernel, by decide +kernel⟩
theorem pss_turned_about {P : Program} {w : World} {K : PySem.W.Frag} {mg : Str → Option Value} {base : Heap} {f : Addr} {k : Nat} (bi : BI mg) 
  (cdv : Value) (A : Around) (outer : List PySem.Env) (s : Shared) (H : Hp) (E : XK) (hr : Room k (A.deeper (envOfC "turned_about" (defScope s_turned_about) s.heap.objs.size f cdv))) :
  PSs (cxOf CX0 P w K mg base ["pair"] "turned_about" (defScope s_turned_about) f cdv A outer s H E).nox (defBody s_turned_about) (t_turned_about K) := by
  have nd := sc_turned_about.nd
  exact (pss_one (ps_ret (pe_tup (pa_cons (pe_ix ix_tup (pv 0) pe_int (fun _ _ => rfl)) (pa_cons (pe_ix ix_tup (pv 0) pe_int (fun _ _ => rfl)) pa_nil)))))
abbrev s_reached : Stmt := topS 3
theorem sc_reached : FnScope ["joined", "pair", "a", "b", "found", "side", "c", "d"] ["joined", "pair"] (defScope s_reached) := ⟨rfl, rfl, rfl, by decide +kernel, rfl, by decide +kernel, by decide +kernel⟩
theorem pss_reached {P : Program} {w : World} {K : PySem.W.Frag} {mg : Str → Option Value} {base : Heap} {f : Addr} {k : Nat} (bi : BI mg) 
  (cdv : Value) (A : Around) (outer : List PySem.Env) (s : Shared) (H : Hp) (E : XK) (hr : Room k (A.deeper (envOfC "reached" (defScope s_reached) s.heap.objs.size f cdv))) :
  PSs (cxOf CX0 P w K mg base ["joined", "pair", "a", "b", "found", "side", "c", "d"] "reached" (defScope s_reached) f cdv A outer s H E).nox (defBody s_reached) (t_reached K) := by
  have nd := sc_reached.nd
  exact (pss_cons (ps_asg (pv 1) (pg_tup (by rfl) (pgs_cons (pg_name (i := 2) nd rfl (Or.inl rfl)) (pgs_cons (pg_name (i := 3) nd rfl (Or.inl rfl)) pgs_nil))))
 (pss_cons (ps_set (i := 4) nd rfl (Or.inl rfl) (pe_lst pa_nil))
 (pss_cons (ps_for PassesOwn.never rfl (pi_tup (pe_tup (pa_cons pe_int (pa_cons pe_int pa_nil)))) (pg_name (i := 5) nd rfl (Or.inl rfl)) (pss_one (ps_for PassesOwn.never rfl (pi_list (pe_ix ix_tup (pe_ix ix_list (pv 0) (pv 2) (fun _ _ => rfl)) (pv 5) (fun _ _ => rfl))) (pg_name (i := 6) nd rfl (Or.inl rfl)) (pss_one (ps_for PassesOwn.never rfl (pi_list (pe_ix ix_tup (pe_ix ix_list (pv 0) (pv 3) (fun _ _ => rfl)) (pv 5) (fun _ _ => rfl))) (pg_name (i := 7) nd rfl (Or.inl rfl)) (pss_one (ps_if (pt_cmpR op_ne (pv 6) (pv 7) (nomark _)) (pss_one (ps_expr (pe_bm PySem.F.plainAttrs_list PySem.F.slot_list_append PySem.F.type_list_append mt_append (pv 4) (pa_cons (pe_tup (pa_cons (pv 6) (pa_cons (pv 7) pa_nil))) pa_nil)))) pss_nil)))))))
 (pss_one (ps_ret (pe_callB cr_sortedPO (by rfl) bi.sorted_ (by decide +kernel) (pa_cons (pv 4) pa_nil)))))))
abbrev s_steps_from : Stmt := topS 5
theorem sc_steps_from : FnScope ["net", "pair"] ["net", "pair"] (defScope s_steps_from) := ⟨rfl, rfl, rfl, by decide +kernel, rfl, by decide +kernel, by decide +kernel⟩
theorem pss_steps_from {P : Program} {w : World} {K : PySem.W.Frag} {mg : Str → Option Value} {base : Heap} {f : Addr} {k : Nat} (bi : BI mg) {S_reached : Spec} {k_reached : Nat} (l_reached : k_reached ≤ k) (h_reached : HasFn P w K mg base k_reached "reached" ["joined", "pair"] S_reached) {S_joints : Spec} {k_joints : Nat} (l_joints : k_joints ≤ k) (h_joints : HasFn P w K mg base k_joints "joints" ["net"] S_joints)
  (cdv : Value) (A : Around) (outer : List PySem.Env) (s : Shared) (H : Hp) (E : XK) (hr : Room k (A.deeper (envOfC "steps_from" (defScope s_steps_from) s.heap.objs.size f cdv))) :
  PSs (cxOf CX0 P w K mg base ["net", "pair"] "steps_from" (defScope s_steps_from) f cdv A outer s H E).nox (defBody s_steps_from) (t_steps_from K S_reached S_joints) := by
  obtain ⟨f_reached, fd_reached, m_reached, kp_reached, b_reached, G_reached⟩ := h_reached
  obtain ⟨f_joints, fd_joints, m_joints, kp_joints, b_joints, G_joints⟩ := h_joints
  have nd := sc_steps_from.nd
  exact (pss_one (ps_ret (pe_call G_reached (hr.mono l_reached) (by rfl) m_reached kp_reached b_reached .nil pass0 (pa_cons (pe_call G_joints (hr.mono l_joints) (by rfl) m_joints kp_joints b_joints .nil pass0 (pa_cons (pv 0) pa_nil)) (pa_cons (pv 1) pa_nil)))))
abbrev s_is_pair : Stmt := topS 8
theorem sc_is_pair : FnScope ["levels", "pair", "a", "b"] ["levels", "pair"] (defScope s_is_pair) := ⟨rfl, rfl, rfl, by decide +kernel, rfl, by decide +kernel, by decide +kernel⟩
theorem pss_is_pair {P : Program} {w : World} {K : PySem.W.Frag} {mg : Str → Option Value} {base : Heap} {f : Addr} {k : Nat} (bi : BI mg) 
  (cdv : Value) (A : Around) (outer : List PySem.Env) (s : Shared) (H : Hp) (E : XK) (hr : Room k (A.deeper (envOfC "_is_pair" (defScope s_is_pair) s.heap.objs.size f cdv))) :
  PSs (cxOf CX0 P w K mg base ["levels", "pair", "a", "b"] "_is_pair" (defScope s_is_pair) f cdv A outer s H E).nox (defBody s_is_pair) (t_is_pair K) := by
  have nd := sc_is_pair.nd
  exact (pss_cons (ps_asg (pv 1) (pg_tup (by rfl) (pgs_cons (pg_name (i := 2) nd rfl (Or.inl rfl)) (pgs_cons (pg_name (i := 3) nd rfl (Or.inl rfl)) pgs_nil))))
 (pss_cons (ps_if (PW.pt (pw_or (pt_cmpR op_lt (pv 2) pe_int (nomark _)) (pw_or (pt_cmpR op_lt (pv 3) pe_int (nomark _)) (pw_or (pt_cmpR op_ge (pv 2) (pe_callB call_len_seq (by rfl) bi.len_ PySem.boot_len (pa_cons (pv 0) pa_nil)) (nomark _)) (pw_or1 (pt_cmpR op_ge (pv 3) (pe_callB call_len_seq (by rfl) bi.len_ PySem.boot_len (pa_cons (pv 0) pa_nil)) (nomark _))))))) (pss_one (ps_ret pe_bl)) pss_nil)
 (pss_one (ps_ret (pe_and (pe_cmpR op_ne (pv 2) (pv 3) (nomark _)) (pe_one (pe_cmpR op_eq (pe_ix ix_tup (pv 0) (pv 2) (fun _ _ => rfl)) (pe_ix ix_tup (pv 0) (pv 3) (fun _ _ => rfl)) (nomark _))))))))
abbrev s_is_walk : Stmt := topS 6
theorem sc_is_walk : FnScope ["net", "walk", "joined", "first", "second", "pair"] ["net", "walk"] (defScope s_is_walk) := ⟨rfl, rfl, rfl, by decide +kernel, rfl, by decide +kernel, by decide +kernel⟩
theorem pss_is_walk {P : Program} {w : World} {K : PySem.W.Frag} {mg : Str → Option Value} {base : Heap} {f : Addr} {k : Nat} (bi : BI mg) {S_reached : Spec} {k_reached : Nat} (l_reached : k_reached ≤ k) (h_reached : HasFn P w K mg base k_reached "reached" ["joined", "pair"] S_reached) {S_joints : Spec} {k_joints : Nat} (l_joints : k_joints ≤ k) (h_joints : HasFn P w K mg base k_joints "joints" ["net"] S_joints) {S_is_pair : Spec} {k_is_pair : Nat} (l_is_pair : k_is_pair ≤ k) (h_is_pair : HasFn P w K mg base k_is_pair "_is_pair" ["levels", "pair"] S_is_pair)
  (cdv : Value) (A : Around) (outer : List PySem.Env) (s : Shared) (H : Hp) (E : XK) (hr : Room k (A.deeper (envOfC "is_walk" (defScope s_is_walk) s.heap.objs.size f cdv))) :
  PSs (cxOf CX0 P w K mg base ["net", "walk", "joined", "first", "second", "pair"] "is_walk" (defScope s_is_walk) f cdv A outer s H E).nox (defBody s_is_walk) (t_is_walk K S_reached S_joints S_is_pair) := by
  obtain ⟨f_reached, fd_reached, m_reached, kp_reached, b_reached, G_reached⟩ := h_reached
  obtain ⟨f_joints, fd_joints, m_joints, kp_joints, b_joints, G_joints⟩ := h_joints
  obtain ⟨f_is_pair, fd_is_pair, m_is_pair, kp_is_pair, b_is_pair, G_is_pair⟩ := h_is_pair
  have nd := sc_is_walk.nd
  exact (pss_cons (ps_if (PW.pt (pw_or (pt_cmpR op_eq (pe_callB call_len_seq (by rfl) bi.len_ PySem.boot_len (pa_cons (pv 1) pa_nil)) pe_int (nomark _)) (pw_or1 (pt_not (pt_val (pe_callB (cr_all rfl) (by rfl) bi.all_ (by decide +kernel) (pa_cons (pe_lc (own := [("pair", 5)]) (wi := (iTup K (tVar 1))) (g := (gName 5)) (tt := tYes) (te := (tCall (spOf K S_is_pair) [] E0 (tCons (tOp (rIxT K) (tVar 0) (tC (.int 0))) (tCons (tVar 5) tNil)))) rfl nd (pi_tup (pv 1)) (blkOk_by (own := [("pair", 5)]) (by show blkC ["net", "walk", "joined", "first", "second", "pair"] (defScope s_is_walk) _ [("pair", 5)] = true; decide +kernel)) (fun _ _ _ _ _ => (pg_name (i := 5) nd rfl (Or.inl rfl))) (fun _ _ _ _ _ => pts_nil) (fun _ _ _ _ _ => (pe_call G_is_pair (hr.mono l_is_pair) (by rfl) m_is_pair kp_is_pair b_is_pair .nil pass0 (pa_cons (pe_ix ix_tup (pv 0) pe_int (fun _ _ => rfl)) (pa_cons (pv 5) pa_nil))))) pa_nil))))))) (pss_one (ps_ret pe_bl)) pss_nil)
 (pss_cons (ps_set (i := 2) nd rfl (Or.inl rfl) (pe_call G_joints (hr.mono l_joints) (by rfl) m_joints kp_joints b_joints .nil pass0 (pa_cons (pv 0) pa_nil)))
 (pss_cons (ps_for PassesOwn.never rfl (RZ.pi_zipA (by rfl) bi.zip_ (pa_cons (pv 1) (pa_cons (pe_slice sl_tupA (pv 1) (po_some pe_int) po_none) pa_nil))) (pg_tup (by rfl) (pgs_cons (pg_name (i := 3) nd rfl (Or.inl rfl)) (pgs_cons (pg_name (i := 4) nd rfl (Or.inl rfl)) pgs_nil))) (pss_one (ps_if (pt_cmpR (op_notInD (he_of hr)) (pv 4) (pe_call G_reached (hr.mono l_reached) (by rfl) m_reached kp_reached b_reached .nil pass0 (pa_cons (pv 2) (pa_cons (pv 3) pa_nil))) rfl) (pss_one (ps_ret pe_bl)) pss_nil)))
 (pss_one (ps_ret pe_bl)))))
abbrev s_is_exchange : Stmt := topS 7
theorem sc_is_exchange : FnScope ["net", "walk"] ["net", "walk"] (defScope s_is_exchange) := ⟨rfl, rfl, rfl, by decide +kernel, rfl, by decide +kernel, by decide +kernel⟩
theorem pss_is_exchange {P : Program} {w : World} {K : PySem.W.Frag} {mg : Str → Option Value} {base : Heap} {f : Addr} {k : Nat} (bi : BI mg) {S_turned_about : Spec} {k_turned_about : Nat} (l_turned_about : k_turned_about ≤ k) (h_turned_about : HasFn P w K mg base k_turned_about "turned_about" ["pair"] S_turned_about) {S_is_walk : Spec} {k_is_walk : Nat} (l_is_walk : k_is_walk ≤ k) (h_is_walk : HasFn P w K mg base k_is_walk "is_walk" ["net", "walk"] S_is_walk)
  (cdv : Value) (A : Around) (outer : List PySem.Env) (s : Shared) (H : Hp) (E : XK) (hr : Room k (A.deeper (envOfC "is_exchange" (defScope s_is_exchange) s.heap.objs.size f cdv))) :
  PSs (cxOf CX0 P w K mg base ["net", "walk"] "is_exchange" (defScope s_is_exchange) f cdv A outer s H E).nox (defBody s_is_exchange) (t_is_exchange K S_turned_about S_is_walk) := by
  obtain ⟨f_turned_about, fd_turned_about, m_turned_about, kp_turned_about, b_turned_about, G_turned_about⟩ := h_turned_about
  obtain ⟨f_is_walk, fd_is_walk, m_is_walk, kp_is_walk, b_is_walk, G_is_walk⟩ := h_is_walk
  have nd := sc_is_exchange.nd
  exact (pss_one (ps_ret (pe_and (pe_call G_is_walk (hr.mono l_is_walk) (by rfl) m_is_walk kp_is_walk b_is_walk .nil pass0 (pa_cons (pv 0) (pa_cons (pv 1) pa_nil))) (pe_one (pe_cmpR (op_eqD (hd_of hr)) (pe_ix ix_tup (pv 1) (pe_un un_neg pe_int) (fun _ _ => rfl)) (pe_call G_turned_about (hr.mono l_turned_about) (by rfl) m_turned_about kp_turned_about b_turned_about .nil pass0 (pa_cons (pe_ix ix_tup (pv 1) pe_int (fun _ _ => rfl)) pa_nil)) (nomark _))))))
abbrev s_law_bag : Stmt := topS 10
theorem sc_law_bag : FnScope ["script", "cell"] ["script"] (defScope s_law_bag) := ⟨rfl, rfl, rfl, by decide +kernel, rfl, by decide +kernel, by decide +kernel⟩
theorem pss_law_bag {P : Program} {w : World} {K : PySem.W.Frag} {mg : Str → Option Value} {base : Heap} {f : Addr} {k : Nat} (bi : BI mg) 
  (cdv : Value) (A : Around) (outer : List PySem.Env) (s : Shared) (H : Hp) (E : XK) (hr : Room k (A.deeper (envOfC "_law_bag" (defScope s_law_bag) s.heap.objs.size f cdv))) :
  PSs (cxOf CX0 P w K mg base ["script", "cell"] "_law_bag" (defScope s_law_bag) f cdv A outer s H E).nox (defBody s_law_bag) (t_law_bag K) := by
  have nd := sc_law_bag.nd
  exact (pss_one (ps_ret (pe_lst (pa_cons (pe_lc (own := [("cell", 1)]) (wi := (iList K (tVar 0))) (g := (gName 1)) (tt := tYes) (te := (tCB rAbs (tCons (tCB rInt1 (tCons (tVar 1) tNil)) tNil))) rfl nd (pi_list (pv 0)) (blkOk_by (own := [("cell", 1)]) (by show blkC ["script", "cell"] (defScope s_law_bag) _ [("cell", 1)] = true; decide +kernel)) (fun _ _ _ _ _ => (pg_name (i := 1) nd rfl (Or.inl rfl))) (fun _ _ _ _ _ => pts_nil) (fun _ _ _ _ _ => (pe_callB call_abs (by rfl) bi.abs_ (by decide +kernel) (pa_cons (pe_callTy call_int1 (by rfl) bi.int_ (by decide +kernel) (pa_cons (pv 1) pa_nil)) pa_nil)))) (pa_cons pe_int (pa_cons pe_int (pa_cons pe_int (pa_cons pe_int (pa_cons pe_int pa_nil)))))))))
abbrev s_law_draw : Stmt := topS 11
theorem sc_law_draw : FnScope ["bag", "many", "cell", "drawn", "first", "second", "third"] ["bag", "many"] (defScope s_law_draw) := ⟨rfl, rfl, rfl, by decide +kernel, rfl, by decide +kernel, by decide +kernel⟩
theorem pss_law_draw {P : Program} {w : World} {K : PySem.W.Frag} {mg : Str → Option Value} {base : Heap} {f : Addr} {k : Nat} (bi : BI mg) 
  (cdv : Value) (A : Around) (outer : List PySem.Env) (s : Shared) (H : Hp) (E : XK) (hr : Room k (A.deeper (envOfC "_law_draw" (defScope s_law_draw) s.heap.objs.size f cdv))) :
  PSs (cxOf CX0 P w K mg base ["bag", "many", "cell", "drawn", "first", "second", "third"] "_law_draw" (defScope s_law_draw) f cdv A outer s H E).nox (defBody s_law_draw) (t_law_draw K) := by
  have nd := sc_law_draw.nd
  exact (pss_cons (ps_if (PW.pt (pw_and (pt_cmpR op_eq (pe_ix ix_list (pv 0) pe_int (fun _ _ => rfl)) pe_int (nomark _)) (pw_and (pt_cmpR op_eq (pe_ix ix_list (pv 0) pe_int (fun _ _ => rfl)) pe_int (nomark _)) (pw_and1 (pt_cmpR op_lt (pe_ix ix_list (pv 0) pe_int (fun _ _ => rfl)) (pe_callB call_len_seq (by rfl) bi.len_ PySem.boot_len (pa_cons (pe_ix ix_list (pv 0) pe_int (fun _ _ => rfl)) pa_nil)) (nomark _)))))) (pss_cons (ps_set (i := 2) nd rfl (Or.inl rfl) (pe_ix (ix_list.or ix_tup) (pe_ix ix_list (pv 0) pe_int (fun _ _ => rfl)) (pe_ix ix_list (pv 0) pe_int (fun _ _ => rfl)) (fun _ _ => rfl)))
 (pss_cons (ps_asg (pe_op op_add (pe_ix ix_list (pv 0) pe_int (fun _ _ => rfl)) pe_int) (pg_sub (pv 0) pe_int set_list))
 (pss_one (ps_if (pt_cmpR op_ge (pv 2) (pe_op op_pow pe_int pe_int) (nomark _)) (pss_one (ps_asg (pv 2) (pg_sub (pv 0) pe_int set_list))) (pss_cons (ps_asg (pe_op op_mod (pe_callTy call_int1 (by rfl) bi.int_ (by decide +kernel) (pa_cons (pe_op op_add (pe_op op_mul (pe_ix ix_list (pv 0) pe_int (fun _ _ => rfl)) pe_int) (pv 2)) pa_nil)) pe_int) (pg_sub (pv 0) pe_int set_list))
 (pss_one (ps_asg pe_int (pg_sub (pv 0) pe_int set_list)))))))) pss_nil)
 (pss_cons (ps_if (pt_cmpR op_gt (pe_ix ix_list (pv 0) pe_int (fun _ _ => rfl)) pe_int (nomark _)) (pss_cons (ps_set (i := 3) nd rfl (Or.inl rfl) (pe_op op_mod (pe_callTy call_int1 (by rfl) bi.int_ (by decide +kernel) (pa_cons (pe_ix ix_list (pv 0) pe_int (fun _ _ => rfl)) pa_nil)) (pv 1)))
 (pss_cons (ps_asg (pe_op op_fdiv (pe_ix ix_list (pv 0) pe_int (fun _ _ => rfl)) (pv 1)) (pg_sub (pv 0) pe_int set_list))
 (pss_one (ps_ret (pv 3))))) pss_nil)
 (pss_cons (ps_asg (pe_op op_add (pe_ix ix_list (pv 0) pe_int (fun _ _ => rfl)) pe_int) (pg_sub (pv 0) pe_int set_list))
 (pss_cons (ps_if (pt_cmpR op_gt (pe_ix ix_list (pv 0) pe_int (fun _ _ => rfl)) pe_int (nomark _)) (pss_one (ps_asg (pe_op op_sub (pe_ix ix_list (pv 0) pe_int (fun _ _ => rfl)) pe_int) (pg_sub (pv 0) pe_int set_list))) pss_nil)
 (pss_cons (ps_set (i := 4) nd rfl (Or.inl rfl) (pe_op op_mod (pe_callTy call_int1 (by rfl) bi.int_ (by decide +kernel) (pa_cons (pe_op op_add (pe_op op_add (pe_op op_mul (pe_ix ix_list (pv 0) pe_int (fun _ _ => rfl)) pe_int) (pe_op op_mul (pe_ix ix_list (pv 0) pe_int (fun _ _ => rfl)) pe_int)) pe_int) pa_nil)) pe_int))
 (pss_cons (ps_set (i := 5) nd rfl (Or.inl rfl) (pe_op op_mod (pe_callTy call_int1 (by rfl) bi.int_ (by decide +kernel) (pa_cons (pe_op op_add (pe_op op_add (pe_op op_mul (pv 4) (pv 4)) (pe_op op_mul (pe_ix ix_list (pv 0) pe_int (fun _ _ => rfl)) pe_int)) pe_int) pa_nil)) pe_int))
 (pss_cons (ps_set (i := 6) nd rfl (Or.inl rfl) (pe_op op_mod (pe_callTy call_int1 (by rfl) bi.int_ (by decide +kernel) (pa_cons (pe_op op_add (pe_op op_mul (pv 5) (pv 5)) (pe_op op_fdiv (pv 5) pe_int)) pa_nil)) pe_int))
 (pss_one (ps_ret (pe_op op_mod (pe_callTy call_int1 (by rfl) bi.int_ (by decide +kernel) (pa_cons (pe_op op_fdiv (pv 6) pe_int) pa_nil)) (pv 1)))))))))))
abbrev s_law_pick : Stmt := topS 12
theorem sc_law_pick : FnScope ["bag", "things"] ["bag", "things"] (defScope s_law_pick) := ⟨rfl, rfl, rfl, by decide +kernel, rfl, by decide +kernel, by decide +kernel⟩
theorem pss_law_pick {P : Program} {w : World} {K : PySem.W.Frag} {mg : Str → Option Value} {base : Heap} {f : Addr} {k : Nat} (bi : BI mg) {S_law_draw : Spec} {k_law_draw : Nat} (l_law_draw : k_law_draw ≤ k) (h_law_draw : HasFn P w K mg base k_law_draw "_law_draw" ["bag", "many"] S_law_draw)
  (cdv : Value) (A : Around) (outer : List PySem.Env) (s : Shared) (H : Hp) (E : XK) (hr : Room k (A.deeper (envOfC "_law_pick" (defScope s_law_pick) s.heap.objs.size f cdv))) :
  PSs (cxOf CX0 P w K mg base ["bag", "things"] "_law_pick" (defScope s_law_pick) f cdv A outer s H E).nox (defBody s_law_pick) (t_law_pick K S_law_draw) := by
  obtain ⟨f_law_draw, fd_law_draw, m_law_draw, kp_law_draw, b_law_draw, G_law_draw⟩ := h_law_draw
  have nd := sc_law_pick.nd
  exact (pss_one (ps_ret (pe_ix ix_list (pv 1) (pe_call G_law_draw (hr.mono l_law_draw) (by rfl) m_law_draw kp_law_draw b_law_draw .nil pass0 (pa_cons (pv 0) (pa_cons (pe_callB call_len_seq (by rfl) bi.len_ PySem.boot_len (pa_cons (pv 1) pa_nil)) pa_nil))) (fun _ _ => rfl))))
abbrev s_law_shuffle : Stmt := topS 13
theorem sc_law_shuffle : FnScope ["bag", "things", "rest", "mixed", "k"] ["bag", "things"] (defScope s_law_shuffle) := ⟨rfl, rfl, rfl, by decide +kernel, rfl, by decide +kernel, by decide +kernel⟩
theorem pss_law_shuffle {P : Program} {w : World} {K : PySem.W.Frag} {mg : Str → Option Value} {base : Heap} {f : Addr} {k : Nat} (bi : BI mg) {S_law_draw : Spec} {k_law_draw : Nat} (l_law_draw : k_law_draw ≤ k) (h_law_draw : HasFn P w K mg base k_law_draw "_law_draw" ["bag", "many"] S_law_draw)
  (cdv : Value) (A : Around) (outer : List PySem.Env) (s : Shared) (H : Hp) (E : XK) (hr : Room k (A.deeper (envOfC "_law_shuffle" (defScope s_law_shuffle) s.heap.objs.size f cdv))) :
  PSs (cxOf CX0 P w K mg base ["bag", "things", "rest", "mixed", "k"] "_law_shuffle" (defScope s_law_shuffle) f cdv A outer s H E).nox (defBody s_law_shuffle) (t_law_shuffle K S_law_draw) := by
  obtain ⟨f_law_draw, fd_law_draw, m_law_draw, kp_law_draw, b_law_draw, G_law_draw⟩ := h_law_draw
  have nd := sc_law_shuffle.nd
  exact (pss_cons (ps_set (i := 2) nd rfl (Or.inl rfl) (pe_callTy call_list_of (by rfl) bi.list_ (by decide +kernel) (pa_cons (pv 1) pa_nil)))
 (pss_cons (ps_set (i := 3) nd rfl (Or.inl rfl) (pe_lst pa_nil))
 (pss_cons (ps_for PassesOwn.never rfl (pi_range1 (by rfl) bi.range_ (pa_cons (pe_callB call_len_seq (by rfl) bi.len_ PySem.boot_len (pa_cons (pv 1) pa_nil)) pa_nil)) (pg_name (i := 4) nd rfl (Or.inl rfl)) (pss_one (ps_expr (pe_bm PySem.F.plainAttrs_list PySem.F.slot_list_append PySem.F.type_list_append mt_append (pv 3) (pa_cons (pe_bm PySem.F.plainAttrs_list PySem.F.slot_list_pop PySem.F.type_list_pop mt_popAt (pv 2) (pa_cons (pe_call G_law_draw (hr.mono l_law_draw) (by rfl) m_law_draw kp_law_draw b_law_draw .nil pass0 (pa_cons (pv 0) (pa_cons (pe_callB call_len_seq (by rfl) bi.len_ PySem.boot_len (pa_cons (pv 2) pa_nil)) pa_nil))) pa_nil)) pa_nil)))))
 (pss_one (ps_ret (pv 3))))))
abbrev s_law_whole : Stmt := topS 14
theorem sc_law_whole : FnScope ["got"] ["got"] (defScope s_law_whole) := ⟨rfl, rfl, rfl, by decide +kernel, rfl, by decide +kernel, by decide +kernel⟩
theorem pss_law_whole {P : Program} {w : World} {K : PySem.W.Frag} {mg : Str → Option Value} {base : Heap} {f : Addr} {k : Nat} (bi : BI mg) 
  (cdv : Value) (A : Around) (outer : List PySem.Env) (s : Shared) (H : Hp) (E : XK) (hr : Room k (A.deeper (envOfC "_law_whole" (defScope s_law_whole) s.heap.objs.size f cdv))) :
  PSs (cxOf CX0 P w K mg base ["got"] "_law_whole" (defScope s_law_whole) f cdv A outer s H E).nox (defBody s_law_whole) (t_law_whole K) := by
  have nd := sc_law_whole.nd
  exact (pss_one (ps_ret (pe_and (pe_callB call_isi (by rfl) bi.isinstance_ (by decide +kernel) (pa_cons (pv 0) (pa_cons (pe_bltn (v := .ty "int") (by rfl) bi.int_ (by decide +kernel) rfl) pa_nil))) (pe_one (pe_not (pe_callB call_isi (by rfl) bi.isinstance_ (by decide +kernel) (pa_cons (pv 0) (pa_cons (pe_bltn (v := .ty "bool") (by rfl) bi.bool_ (by decide +kernel) rfl) pa_nil))))))))
abbrev s_law_same : Stmt := topS 15
theorem sc_law_same : FnScope ["got", "due", "k", "key"] ["got", "due"] (defScope s_law_same) := ⟨rfl, rfl, rfl, by decide +kernel, rfl, by decide +kernel, by decide +kernel⟩
theorem pss_law_same {P : Program} {w : World} {K : PySem.W.Frag} {mg : Str → Option Value} {base : Heap} {f : Addr} {k : Nat} (bi : BI mg) {S_law_same : Spec} {k_law_same : Nat} (l_law_same : k_law_same ≤ k) (h_law_same : HasFn P w K mg base k_law_same "_law_same" ["got", "due"] S_law_same) {S_law_whole : Spec} {k_law_whole : Nat} (l_law_whole : k_law_whole ≤ k) (h_law_whole : HasFn P w K mg base k_law_whole "_law_whole" ["got"] S_law_whole)
  (cdv : Value) (A : Around) (outer : List PySem.Env) (s : Shared) (H : Hp) (E : XK) (hr : Room k (A.deeper (envOfC "_law_same" (defScope s_law_same) s.heap.objs.size f cdv))) :
  PSs (cxOf CX0 P w K mg base ["got", "due", "k", "key"] "_law_same" (defScope s_law_same) f cdv A outer s H E).nox (defBody s_law_same) (t_law_same K S_law_same S_law_whole) := by
  obtain ⟨f_law_same, fd_law_same, m_law_same, kp_law_same, b_law_same, G_law_same⟩ := h_law_same
  obtain ⟨f_law_whole, fd_law_whole, m_law_whole, kp_law_whole, b_law_whole, G_law_whole⟩ := h_law_whole
  have nd := sc_law_same.nd
  exact (pss_cons (ps_if (pt_cmpR op_isN (pv 1) pe_non (nomark _)) (pss_one (ps_ret (pe_cmpR op_isN (pv 0) pe_non (nomark _)))) pss_nil)
 (pss_cons (ps_if (pt_val (pe_callB call_isi (by rfl) bi.isinstance_ (by decide +kernel) (pa_cons (pv 1) (pa_cons (pe_bltn (v := .ty "bool") (by rfl) bi.bool_ (by decide +kernel) rfl) pa_nil)))) (pss_one (ps_ret (pe_and (pe_callB call_isi (by rfl) bi.isinstance_ (by decide +kernel) (pa_cons (pv 0) (pa_cons (pe_bltn (v := .ty "bool") (by rfl) bi.bool_ (by decide +kernel) rfl) pa_nil))) (pe_one (pe_cmpR (op_eqD (hd_of hr)) (pv 0) (pv 1) (nomark _)))))) pss_nil)
 (pss_cons (ps_if (pt_val (pe_callB call_isi (by rfl) bi.isinstance_ (by decide +kernel) (pa_cons (pv 1) (pa_cons (pe_bltn (v := .ty "int") (by rfl) bi.int_ (by decide +kernel) rfl) pa_nil)))) (pss_one (ps_ret (pe_and (pe_call G_law_whole (hr.mono l_law_whole) (by rfl) m_law_whole kp_law_whole b_law_whole .nil pass0 (pa_cons (pv 0) pa_nil)) (pe_one (pe_cmpR (op_eqD (hd_of hr)) (pv 0) (pv 1) (nomark _)))))) pss_nil)
 (pss_cons (ps_if (pt_val (pe_callB call_isi (by rfl) bi.isinstance_ (by decide +kernel) (pa_cons (pv 1) (pa_cons (pe_bltn (v := .ty "str") (by rfl) bi.str_ (by decide +kernel) rfl) pa_nil)))) (pss_one (ps_ret (pe_and (pe_callB call_isi (by rfl) bi.isinstance_ (by decide +kernel) (pa_cons (pv 0) (pa_cons (pe_bltn (v := .ty "str") (by rfl) bi.str_ (by decide +kernel) rfl) pa_nil))) (pe_one (pe_cmpR (op_eqD (hd_of hr)) (pv 0) (pv 1) (nomark _)))))) pss_nil)
 (pss_cons (ps_if (PW.pt (pw_or (pt_val (pe_callB call_isi (by rfl) bi.isinstance_ (by decide +kernel) (pa_cons (pv 1) (pa_cons (pe_bltn (v := .ty "tuple") (by rfl) bi.tuple_ (by decide +kernel) rfl) pa_nil)))) (pw_or1 (pt_val (pe_callB call_isi (by rfl) bi.isinstance_ (by decide +kernel) (pa_cons (pv 1) (pa_cons (pe_bltn (v := .ty "list") (by rfl) bi.list_ (by decide +kernel) rfl) pa_nil))))))) (pss_cons (ps_if (PW.pt (pw_and (pt_val (pe_callB call_isi (by rfl) bi.isinstance_ (by decide +kernel) (pa_cons (pv 1) (pa_cons (pe_bltn (v := .ty "tuple") (by rfl) bi.tuple_ (by decide +kernel) rfl) pa_nil)))) (pw_and1 (pt_not (pt_val (pe_callB call_isi (by rfl) bi.isinstance_ (by decide +kernel) (pa_cons (pv 0) (pa_cons (pe_bltn (v := .ty "tuple") (by rfl) bi.tuple_ (by decide +kernel) rfl) pa_nil)))))))) (pss_one (ps_ret pe_bl)) pss_nil)
 (pss_cons (ps_if (PW.pt (pw_and (pt_val (pe_callB call_isi (by rfl) bi.isinstance_ (by decide +kernel) (pa_cons (pv 1) (pa_cons (pe_bltn (v := .ty "list") (by rfl) bi.list_ (by decide +kernel) rfl) pa_nil)))) (pw_and1 (pt_not (pt_val (pe_callB call_isi (by rfl) bi.isinstance_ (by decide +kernel) (pa_cons (pv 0) (pa_cons (pe_bltn (v := .ty "list") (by rfl) bi.list_ (by decide +kernel) rfl) pa_nil)))))))) (pss_one (ps_ret pe_bl)) pss_nil)
 (pss_cons (ps_if (pt_cmpR op_ne (pe_callB call_len_seq (by rfl) bi.len_ PySem.boot_len (pa_cons (pv 0) pa_nil)) (pe_callB call_len_seq (by rfl) bi.len_ PySem.boot_len (pa_cons (pv 1) pa_nil)) (nomark _)) (pss_one (ps_ret pe_bl)) pss_nil)
 (pss_cons (ps_for PassesOwn.never rfl (pi_range1 (by rfl) bi.range_ (pa_cons (pe_callB call_len_seq (by rfl) bi.len_ PySem.boot_len (pa_cons (pv 1) pa_nil)) pa_nil)) (pg_name (i := 2) nd rfl (Or.inl rfl)) (pss_one (ps_if (pt_not (pt_val (pe_call G_law_same (hr.mono l_law_same) (by rfl) m_law_same kp_law_same b_law_same .nil pass0 (pa_cons (pe_ix (ix_list.or ix_tup) (pv 0) (pv 2) (fun _ _ => rfl)) (pa_cons (pe_ix (ix_list.or ix_tup) (pv 1) (pv 2) (fun _ _ => rfl)) pa_nil))))) (pss_one (ps_ret pe_bl)) pss_nil)))
 (pss_one (ps_ret pe_bl)))))) pss_nil)
 (pss_cons (ps_if (pt_val (pe_callB call_isi (by rfl) bi.isinstance_ (by decide +kernel) (pa_cons (pv 1) (pa_cons (pe_bltn (v := .ty "dict") (by rfl) bi.dict_ (by decide +kernel) rfl) pa_nil)))) (pss_cons (ps_if (PW.pt (pw_or (pt_not (pt_val (pe_callB call_isi (by rfl) bi.isinstance_ (by decide +kernel) (pa_cons (pv 0) (pa_cons (pe_bltn (v := .ty "dict") (by rfl) bi.dict_ (by decide +kernel) rfl) pa_nil))))) (pw_or1 (pt_cmpR op_ne (pe_callB call_len_seq (by rfl) bi.len_ PySem.boot_len (pa_cons (pv 0) pa_nil)) (pe_callB call_len_seq (by rfl) bi.len_ PySem.boot_len (pa_cons (pv 1) pa_nil)) (nomark _))))) (pss_one (ps_ret pe_bl)) pss_nil)
 (pss_cons (ps_for PassesOwn.never rfl (pi_list (pv 1)) (pg_name (i := 3) nd rfl (Or.inl rfl)) (pss_cons (ps_if (pt_cmpR (op_notInD (he_of hr)) (pv 3) (pv 0) rfl) (pss_one (ps_ret pe_bl)) pss_nil)
 (pss_one (ps_if (pt_not (pt_val (pe_call G_law_same (hr.mono l_law_same) (by rfl) m_law_same kp_law_same b_law_same .nil pass0 (pa_cons (pe_ix (ix_list.or ix_tup) (pv 0) (pv 3) (fun _ _ => rfl)) (pa_cons (pe_ix (ix_list.or ix_tup) (pv 1) (pv 3) (fun _ _ => rfl)) pa_nil))))) (pss_one (ps_ret pe_bl)) pss_nil))))
 (pss_one (ps_ret pe_bl)))) pss_nil)
 (pss_one (ps_ret pe_bl))))))))
abbrev s_law_net : Stmt := topS 16
theorem sc_law_net : FnScope ["bag", "kind", "large", "levels", "depth", "r", "many", "turn", "segments", "above", "below", "k", "p"] ["bag"] (defScope s_law_net) := ⟨rfl, rfl, rfl, by decide +kernel, rfl, by decide +kernel, by decide +kernel⟩
theorem pss_law_net {P : Program} {w : World} {K : PySem.W.Frag} {mg : Str → Option Value} {base : Heap} {f : Addr} {k : Nat} (bi : BI mg) {S_law_draw : Spec} {k_law_draw : Nat} (l_law_draw : k_law_draw ≤ k) (h_law_draw : HasFn P w K mg base k_law_draw "_law_draw" ["bag", "many"] S_law_draw) {S_law_pick : Spec} {k_law_pick : Nat} (l_law_pick : k_law_pick ≤ k) (h_law_pick : HasFn P w K mg base k_law_pick "_law_pick" ["bag", "things"] S_law_pick)
  (cdv : Value) (A : Around) (outer : List PySem.Env) (s : Shared) (H : Hp) (E : XK) (hr : Room k (A.deeper (envOfC "_law_net" (defScope s_law_net) s.heap.objs.size f cdv))) :
  PSs (cxOf CX0 P w K mg base ["bag", "kind", "large", "levels", "depth", "r", "many", "turn", "segments", "above", "below", "k", "p"] "_law_net" (defScope s_law_net) f cdv A outer s H E).nox (defBody s_law_net) (t_law_net K S_law_draw S_law_pick) := by
  obtain ⟨f_law_draw, fd_law_draw, m_law_draw, kp_law_draw, b_law_draw, G_law_draw⟩ := h_law_draw
  obtain ⟨f_law_pick, fd_law_pick, m_law_pick, kp_law_pick, b_law_pick, G_law_pick⟩ := h_law_pick
  have nd := sc_law_net.nd
  exact (pss_cons (ps_set (i := 1) nd rfl (Or.inl rfl) (pe_call G_law_draw (hr.mono l_law_draw) (by rfl) m_law_draw kp_law_draw b_law_draw .nil pass0 (pa_cons (pv 0) (pa_cons pe_int pa_nil))))
 (pss_cons (ps_set (i := 2) nd rfl (Or.inl rfl) (pe_cmpR op_eq (pv 1) pe_int (nomark _)))
 (pss_cons (ps_if (pt_cmpR op_eq (pv 1) pe_int (nomark _)) (pss_one (ps_ret (pe_tup (pa_cons (pe_tup pa_nil) (pa_cons (pe_tup pa_nil) pa_nil))))) pss_nil)
 (pss_cons (ps_set (i := 3) nd rfl (Or.inr rfl) (pe_lst pa_nil))
 (pss_cons (ps_set (i := 4) nd rfl (Or.inl rfl) (pe_op op_add pe_int (pe_call G_law_draw (hr.mono l_law_draw) (by rfl) m_law_draw kp_law_draw b_law_draw .nil pass0 (pa_cons (pv 0) (pa_cons pe_int pa_nil)))))
 (pss_cons (ps_if (pt_val (pv 2)) (pss_one (ps_set (i := 4) nd rfl (Or.inl rfl) (pe_op op_add pe_int (pe_call G_law_draw (hr.mono l_law_draw) (by rfl) m_law_draw kp_law_draw b_law_draw .nil pass0 (pa_cons (pv 0) (pa_cons pe_int pa_nil)))))) pss_nil)
 (pss_cons (ps_for PassesOwn.never rfl (pi_range1 (by rfl) bi.range_ (pa_cons (pv 4) pa_nil)) (pg_name (i := 5) nd rfl (Or.inr rfl)) (pss_cons (ps_set (i := 6) nd rfl (Or.inl rfl) (pe_op op_add pe_int (pe_call G_law_draw (hr.mono l_law_draw) (by rfl) m_law_draw kp_law_draw b_law_draw .nil pass0 (pa_cons (pv 0) (pa_cons pe_int pa_nil)))))
 (pss_cons (ps_if (pt_val (pv 2)) (pss_one (ps_set (i := 6) nd rfl (Or.inl rfl) (pe_op op_add pe_int (pe_call G_law_draw (hr.mono l_law_draw) (by rfl) m_law_draw kp_law_draw b_law_draw .nil pass0 (pa_cons (pv 0) (pa_cons pe_int pa_nil)))))) pss_nil)
 (pss_one (ps_expr (pe_bm PySem.F.plainAttrs_list PySem.F.slot_list_extend PySem.F.type_list_extend mt_extend (pv 3) (pa_cons (pe_op op_rep (pe_lst (pa_cons (pv 5) pa_nil)) (pv 6)) pa_nil)))))))
 (pss_cons (ps_set (i := 7) nd rfl (Or.inl rfl) (pe_call G_law_draw (hr.mono l_law_draw) (by rfl) m_law_draw kp_law_draw b_law_draw .nil pass0 (pa_cons (pv 0) (pa_cons (pe_callB call_len_seq (by rfl) bi.len_ PySem.boot_len (pa_cons (pv 3) pa_nil)) pa_nil))))
 (pss_cons (ps_if (pt_cmpR op_eq (pe_call G_law_draw (hr.mono l_law_draw) (by rfl) m_law_draw kp_law_draw b_law_draw .nil pass0 (pa_cons (pv 0) (pa_cons pe_int pa_nil))) pe_int (nomark _)) (pss_one (ps_set (i := 3) nd rfl (Or.inr rfl) (pe_op op_cat (pe_slice sl_list (pv 3) (po_some (pv 7)) po_none) (pe_slice sl_list (pv 3) po_none (po_some (pv 7)))))) pss_nil)
 (pss_cons (ps_set (i := 8) nd rfl (Or.inl rfl) (pe_lst pa_nil))
 (pss_cons (ps_for PassesOwn.never rfl (pi_range1 (by rfl) bi.range_ (pa_cons (pe_op op_sub (pv 4) pe_int) pa_nil)) (pg_name (i := 5) nd rfl (Or.inr rfl)) (pss_cons (ps_setLc (i := 9) (own := [("p", 12)]) (wi := (iRng1 (tCons (tCB (rLen2 K) (tCons (tVar 3) tNil)) tNil))) (g := (gName 12)) (tt := (tTest (tOp rEq (tOp (rIxL K) (tVar 3) (tVar 12)) (tVar 5)))) (te := (tVar 12)) rfl nd rfl rfl (sw_true rfl rfl rfl (by decide +kernel)) (pi_range1 (by rfl) bi.range_ (pa_cons (pe_callB call_len_seq (by rfl) bi.len_ PySem.boot_len (pa_cons (pv 3) pa_nil)) pa_nil)) (blkOk_by (own := [("p", 12)]) (by show blkC ["bag", "kind", "large", "levels", "depth", "r", "many", "turn", "segments", "above", "below", "k", "p"] (defScope s_law_net) _ [("p", 12)] = true; decide +kernel)) (fun _ _ _ _ _ => (pg_name (i := 12) nd rfl (Or.inl rfl))) (fun _ _ _ _ _ => (pts_one (pt_cmpR op_eq (pe_ix ix_list (pv 3) (pv 12) (fun _ _ => rfl)) (pv 5) (nomark _)))) (fun _ _ _ _ _ => (pv 12)))
 (pss_cons (ps_setLc (i := 10) (own := [("p", 12)]) (wi := (iRng1 (tCons (tCB (rLen2 K) (tCons (tVar 3) tNil)) tNil))) (g := (gName 12)) (tt := (tTest (tOp rEq (tOp (rIxL K) (tVar 3) (tVar 12)) (tOp rAdd2 (tVar 5) (tC (.int 1)))))) (te := (tVar 12)) rfl nd rfl rfl (sw_true rfl rfl rfl (by decide +kernel)) (pi_range1 (by rfl) bi.range_ (pa_cons (pe_callB call_len_seq (by rfl) bi.len_ PySem.boot_len (pa_cons (pv 3) pa_nil)) pa_nil)) (blkOk_by (own := [("p", 12)]) (by show blkC ["bag", "kind", "large", "levels", "depth", "r", "many", "turn", "segments", "above", "below", "k", "p"] (defScope s_law_net) _ [("p", 12)] = true; decide +kernel)) (fun _ _ _ _ _ => (pg_name (i := 12) nd rfl (Or.inl rfl))) (fun _ _ _ _ _ => (pts_one (pt_cmpR op_eq (pe_ix ix_list (pv 3) (pv 12) (fun _ _ => rfl)) (pe_op op_add (pv 5) pe_int) (nomark _)))) (fun _ _ _ _ _ => (pv 12)))
 (pss_cons (ps_set (i := 6) nd rfl (Or.inl rfl) (pe_call G_law_draw (hr.mono l_law_draw) (by rfl) m_law_draw kp_law_draw b_law_draw .nil pass0 (pa_cons (pv 0) (pa_cons pe_int pa_nil))))
 (pss_cons (ps_if (pt_val (pv 2)) (pss_one (ps_set (i := 6) nd rfl (Or.inl rfl) (pe_call G_law_draw (hr.mono l_law_draw) (by rfl) m_law_draw kp_law_draw b_law_draw .nil pass0 (pa_cons (pv 0) (pa_cons pe_int pa_nil))))) pss_nil)
 (pss_one (ps_for PassesOwn.never rfl (pi_range1 (by rfl) bi.range_ (pa_cons (pv 6) pa_nil)) (pg_name (i := 11) nd rfl (Or.inl rfl)) (pss_one (ps_expr (pe_bm PySem.F.plainAttrs_list PySem.F.slot_list_append PySem.F.type_list_append mt_append (pv 8) (pa_cons (pe_tup (pa_cons (pe_call G_law_pick (hr.mono l_law_pick) (by rfl) m_law_pick kp_law_pick b_law_pick .nil pass0 (pa_cons (pv 0) (pa_cons (pv 9) pa_nil))) (pa_cons (pe_call G_law_pick (hr.mono l_law_pick) (by rfl) m_law_pick kp_law_pick b_law_pick .nil pass0 (pa_cons (pv 0) (pa_cons (pv 10) pa_nil))) pa_nil))) pa_nil)))))))))))
 (pss_cons (ps_if (pt_cmpR op_eq (pe_call G_law_draw (hr.mono l_law_draw) (by rfl) m_law_draw kp_law_draw b_law_draw .nil pass0 (pa_cons (pv 0) (pa_cons pe_int pa_nil))) pe_int (nomark _)) (pss_one (ps_set (i := 8) nd rfl (Or.inl rfl) (pe_revL (pv 8)))) pss_nil)
 (pss_one (ps_ret (pe_tup (pa_cons (pe_callTy call_tuple_of (by rfl) bi.tuple_ (by decide +kernel) (pa_cons (pv 3) pa_nil)) (pa_cons (pe_callTy call_tuple_of (by rfl) bi.tuple_ (by decide +kernel) (pa_cons (pv 8) pa_nil)) pa_nil)))))))))))))))))
abbrev s_law_near : Stmt := topS 17
theorem sc_law_near : FnScope ["net", "before", "behind", "segment", "p"] ["net"] (defScope s_law_near) := ⟨rfl, rfl, rfl, by decide +kernel, rfl, by decide +kernel, by decide +kernel⟩
theorem pss_law_near {P : Program} {w : World} {K : PySem.W.Frag} {mg : Str → Option Value} {base : Heap} {f : Addr} {k : Nat} (bi : BI mg) 
  (cdv : Value) (A : Around) (outer : List PySem.Env) (s : Shared) (H : Hp) (E : XK) (hr : Room k (A.deeper (envOfC "_law_near" (defScope s_law_near) s.heap.objs.size f cdv))) :
  PSs (cxOf CX0 P w K mg base ["net", "before", "behind", "segment", "p"] "_law_near" (defScope s_law_near) f cdv A outer s H E).nox (defBody s_law_near) (t_law_near K) := by
  have nd := sc_law_near.nd
  exact (pss_cons (ps_setLc (i := 1) (own := [("p", 4)]) (wi := (iTup K (tOp (rIxT K) (tVar 0) (tC (.int 0))))) (g := (gName 4)) (tt := tYes) (te := (tLst tNil)) rfl nd rfl rfl (sw_true rfl rfl rfl (by decide +kernel)) (pi_tup (pe_ix ix_tup (pv 0) pe_int (fun _ _ => rfl))) (blkOk_by (own := [("p", 4)]) (by show blkC ["net", "before", "behind", "segment", "p"] (defScope s_law_near) _ [("p", 4)] = true; decide +kernel)) (fun _ _ _ _ _ => (pg_name (i := 4) nd rfl (Or.inl rfl))) (fun _ _ _ _ _ => pts_nil) (fun _ _ _ _ _ => (pe_lst pa_nil)))
 (pss_cons (ps_setLc (i := 2) (own := [("p", 4)]) (wi := (iTup K (tOp (rIxT K) (tVar 0) (tC (.int 0))))) (g := (gName 4)) (tt := tYes) (te := (tLst tNil)) rfl nd rfl rfl (sw_true rfl rfl rfl (by decide +kernel)) (pi_tup (pe_ix ix_tup (pv 0) pe_int (fun _ _ => rfl))) (blkOk_by (own := [("p", 4)]) (by show blkC ["net", "before", "behind", "segment", "p"] (defScope s_law_near) _ [("p", 4)] = true; decide +kernel)) (fun _ _ _ _ _ => (pg_name (i := 4) nd rfl (Or.inl rfl))) (fun _ _ _ _ _ => pts_nil) (fun _ _ _ _ _ => (pe_lst pa_nil)))
 (pss_cons (ps_for PassesOwn.never rfl (pi_tup (pe_ix ix_tup (pv 0) pe_int (fun _ _ => rfl))) (pg_name (i := 3) nd rfl (Or.inl rfl)) (pss_cons (ps_if (pt_cmpR op_notIn_seq (pe_ix ix_tup (pv 3) pe_int (fun _ _ => rfl)) (pe_ix ix_list (pv 2) (pe_ix ix_tup (pv 3) pe_int (fun _ _ => rfl)) (fun _ _ => rfl)) rfl) (pss_one (ps_expr (pe_bm PySem.F.plainAttrs_list PySem.F.slot_list_append PySem.F.type_list_append mt_append (pe_ix ix_list (pv 2) (pe_ix ix_tup (pv 3) pe_int (fun _ _ => rfl)) (fun _ _ => rfl)) (pa_cons (pe_ix ix_tup (pv 3) pe_int (fun _ _ => rfl)) pa_nil)))) pss_nil)
 (pss_one (ps_if (pt_cmpR op_notIn_seq (pe_ix ix_tup (pv 3) pe_int (fun _ _ => rfl)) (pe_ix ix_list (pv 1) (pe_ix ix_tup (pv 3) pe_int (fun _ _ => rfl)) (fun _ _ => rfl)) rfl) (pss_one (ps_expr (pe_bm PySem.F.plainAttrs_list PySem.F.slot_list_append PySem.F.type_list_append mt_append (pe_ix ix_list (pv 1) (pe_ix ix_tup (pv 3) pe_int (fun _ _ => rfl)) (fun _ _ => rfl)) (pa_cons (pe_ix ix_tup (pv 3) pe_int (fun _ _ => rfl)) pa_nil)))) pss_nil))))
 (pss_one (ps_ret (pe_lst (pa_cons (pv 1) (pa_cons (pv 2) pa_nil))))))))
abbrev s_law_steps : Stmt := topS 18
theorem sc_law_steps : FnScope ["near", "pair", "reached_v", "side", "c", "d"] ["near", "pair"] (defScope s_law_steps) := ⟨rfl, rfl, rfl, by decide +kernel, rfl, by decide +kernel, by decide +kernel⟩
theorem pss_law_steps {P : Program} {w : World} {K : PySem.W.Frag} {mg : Str → Option Value} {base : Heap} {f : Addr} {k : Nat} (bi : BI mg) 
  (cdv : Value) (A : Around) (outer : List PySem.Env) (s : Shared) (H : Hp) (E : XK) (hr : Room k (A.deeper (envOfC "_law_steps" (defScope s_law_steps) s.heap.objs.size f cdv))) :
  PSs (cxOf CX0 P w K mg base ["near", "pair", "reached_v", "side", "c", "d"] "_law_steps" (defScope s_law_steps) f cdv A outer s H E).nox (defBody s_law_steps) (t_law_steps K) := by
  have nd := sc_law_steps.nd
  exact (pss_cons (ps_set (i := 2) nd rfl (Or.inl rfl) (pe_lst pa_nil))
 (pss_cons (ps_for PassesOwn.never rfl (pi_list (pv 0)) (pg_name (i := 3) nd rfl (Or.inl rfl)) (pss_one (ps_for PassesOwn.never rfl (pi_list (pe_ix ix_list (pv 3) (pe_ix ix_tup (pv 1) pe_int (fun _ _ => rfl)) (fun _ _ => rfl))) (pg_name (i := 4) nd rfl (Or.inl rfl)) (pss_one (ps_for PassesOwn.never rfl (pi_list (pe_ix ix_list (pv 3) (pe_ix ix_tup (pv 1) pe_int (fun _ _ => rfl)) (fun _ _ => rfl))) (pg_name (i := 5) nd rfl (Or.inl rfl)) (pss_one (ps_if (pt_cmpR op_ne (pv 4) (pv 5) (nomark _)) (pss_one (ps_expr (pe_bm PySem.F.plainAttrs_list PySem.F.slot_list_append PySem.F.type_list_append mt_append (pv 2) (pa_cons (pe_tup (pa_cons (pv 4) (pa_cons (pv 5) pa_nil))) pa_nil)))) pss_nil)))))))
 (pss_one (ps_ret (pe_callB cr_sortedPO (by rfl) bi.sorted_ (by decide +kernel) (pa_cons (pv 2) pa_nil))))))
abbrev s_law_pairs : Stmt := topS 19
theorem sc_law_pairs : FnScope ["net", "pairs", "a", "b"] ["net"] (defScope s_law_pairs) := ⟨rfl, rfl, rfl, by decide +kernel, rfl, by decide +kernel, by decide +kernel⟩
theorem pss_law_pairs {P : Program} {w : World} {K : PySem.W.Frag} {mg : Str → Option Value} {base : Heap} {f : Addr} {k : Nat} (bi : BI mg) 
  (cdv : Value) (A : Around) (outer : List PySem.Env) (s : Shared) (H : Hp) (E : XK) (hr : Room k (A.deeper (envOfC "_law_pairs" (defScope s_law_pairs) s.heap.objs.size f cdv))) :
  PSs (cxOf CX0 P w K mg base ["net", "pairs", "a", "b"] "_law_pairs" (defScope s_law_pairs) f cdv A outer s H E).nox (defBody s_law_pairs) (t_law_pairs K) := by
  have nd := sc_law_pairs.nd
  exact (pss_cons (ps_set (i := 1) nd rfl (Or.inl rfl) (pe_lst pa_nil))
 (pss_cons (ps_for PassesOwn.never rfl (pi_range1 (by rfl) bi.range_ (pa_cons (pe_callB call_len_seq (by rfl) bi.len_ PySem.boot_len (pa_cons (pe_ix ix_tup (pv 0) pe_int (fun _ _ => rfl)) pa_nil)) pa_nil)) (pg_name (i := 2) nd rfl (Or.inl rfl)) (pss_one (ps_for PassesOwn.never rfl (pi_range2 (by rfl) bi.range_ (pa_cons (pe_op op_add (pv 2) pe_int) (pa_cons (pe_callB call_len_seq (by rfl) bi.len_ PySem.boot_len (pa_cons (pe_ix ix_tup (pv 0) pe_int (fun _ _ => rfl)) pa_nil)) pa_nil))) (pg_name (i := 3) nd rfl (Or.inl rfl)) (pss_one (ps_if (pt_cmpR op_eq (pe_ix ix_tup (pe_ix ix_tup (pv 0) pe_int (fun _ _ => rfl)) (pv 2) (fun _ _ => rfl)) (pe_ix ix_tup (pe_ix ix_tup (pv 0) pe_int (fun _ _ => rfl)) (pv 3) (fun _ _ => rfl)) (nomark _)) (pss_one (ps_expr (pe_bm PySem.F.plainAttrs_list PySem.F.slot_list_append PySem.F.type_list_append mt_append (pv 1) (pa_cons (pe_tup (pa_cons (pv 2) (pa_cons (pv 3) pa_nil))) pa_nil)))) pss_nil)))))
 (pss_one (ps_ret (pv 1)))))
abbrev s_law_wander : Stmt := topS 20
theorem sc_law_wander : FnScope ["bag", "net", "pair", "most", "near", "walk", "k", "reached_v"] ["bag", "net", "pair", "most"] (defScope s_law_wander) := ⟨rfl, rfl, rfl, by decide +kernel, rfl, by decide +kernel, by decide +kernel⟩
theorem pss_law_wander {P : Program} {w : World} {K : PySem.W.Frag} {mg : Str → Option Value} {base : Heap} {f : Addr} {k : Nat} (bi : BI mg) {S_law_draw : Spec} {k_law_draw : Nat} (l_law_draw : k_law_draw ≤ k) (h_law_draw : HasFn P w K mg base k_law_draw "_law_draw" ["bag", "many"] S_law_draw) {S_law_pick : Spec} {k_law_pick : Nat} (l_law_pick : k_law_pick ≤ k) (h_law_pick : HasFn P w K mg base k_law_pick "_law_pick" ["bag", "things"] S_law_pick) {S_law_steps : Spec} {k_law_steps : Nat} (l_law_steps : k_law_steps ≤ k) (h_law_steps : HasFn P w K mg base k_law_steps "_law_steps" ["near", "pair"] S_law_steps) {S_law_near : Spec} {k_law_near : Nat} (l_law_near : k_law_near ≤ k) (h_law_near : HasFn P w K mg base k_law_near "_law_near" ["net"] S_law_near)
  (cdv : Value) (A : Around) (outer : List PySem.Env) (s : Shared) (H : Hp) (E : XK) (hr : Room k (A.deeper (envOfC "_law_wander" (defScope s_law_wander) s.heap.objs.size f cdv))) :
  PSs (cxOf CX0 P w K mg base ["bag", "net", "pair", "most", "near", "walk", "k", "reached_v"] "_law_wander" (defScope s_law_wander) f cdv A outer s H E).nox (defBody s_law_wander) (t_law_wander K S_law_draw S_law_pick S_law_steps S_law_near) := by
  obtain ⟨f_law_draw, fd_law_draw, m_law_draw, kp_law_draw, b_law_draw, G_law_draw⟩ := h_law_draw
  obtain ⟨f_law_pick, fd_law_pick, m_law_pick, kp_law_pick, b_law_pick, G_law_pick⟩ := h_law_pick
  obtain ⟨f_law_steps, fd_law_steps, m_law_steps, kp_law_steps, b_law_steps, G_law_steps⟩ := h_law_steps
  obtain ⟨f_law_near, fd_law_near, m_law_near, kp_law_near, b_law_near, G_law_near⟩ := h_law_near
  have nd := sc_law_wander.nd
  exact (pss_cons (ps_set (i := 4) nd rfl (Or.inl rfl) (pe_call G_law_near (hr.mono l_law_near) (by rfl) m_law_near kp_law_near b_law_near .nil pass0 (pa_cons (pv 1) pa_nil)))
 (pss_cons (ps_set (i := 5) nd rfl (Or.inl rfl) (pe_lst (pa_cons (pv 2) pa_nil)))
 (pss_cons (ps_for PassesOwn.never rfl (pi_range1 (by rfl) bi.range_ (pa_cons (pe_call G_law_draw (hr.mono l_law_draw) (by rfl) m_law_draw kp_law_draw b_law_draw .nil pass0 (pa_cons (pv 0) (pa_cons (pe_op op_add (pv 3) pe_int) pa_nil))) pa_nil)) (pg_name (i := 6) nd rfl (Or.inl rfl)) (pss_cons (ps_set (i := 7) nd rfl (Or.inl rfl) (pe_call G_law_steps (hr.mono l_law_steps) (by rfl) m_law_steps kp_law_steps b_law_steps .nil pass0 (pa_cons (pv 4) (pa_cons (pe_ix ix_list (pv 5) (pe_un un_neg pe_int) (fun _ _ => rfl)) pa_nil))))
 (pss_one (ps_if (pt_cmpR op_gt (pe_callB call_len_seq (by rfl) bi.len_ PySem.boot_len (pa_cons (pv 7) pa_nil)) pe_int (nomark _)) (pss_one (ps_expr (pe_bm PySem.F.plainAttrs_list PySem.F.slot_list_append PySem.F.type_list_append mt_append (pv 5) (pa_cons (pe_call G_law_pick (hr.mono l_law_pick) (by rfl) m_law_pick kp_law_pick b_law_pick .nil pass0 (pa_cons (pv 0) (pa_cons (pv 7) pa_nil))) pa_nil)))) pss_nil))))
 (pss_one (ps_ret (pe_callTy call_tuple_of (by rfl) bi.tuple_ (by decide +kernel) (pa_cons (pv 5) pa_nil)))))))
abbrev s_law_deep_net : Stmt := topS 21
theorem sc_law_deep_net : FnScope ["bag", "many", "depth", "levels", "k", "segments", "r", "above", "below", "p"] ["bag"] (defScope s_law_deep_net) := ⟨rfl, rfl, rfl, by decide +kernel, rfl, by decide +kernel, by decide +kernel⟩
theorem pss_law_deep_net {P : Program} {w : World} {K : PySem.W.Frag} {mg : Str → Option Value} {base : Heap} {f : Addr} {k : Nat} (bi : BI mg) {S_law_shuffle : Spec} {k_law_shuffle : Nat} (l_law_shuffle : k_law_shuffle ≤ k) (h_law_shuffle : HasFn P w K mg base k_law_shuffle "_law_shuffle" ["bag", "things"] S_law_shuffle) {S_law_draw : Spec} {k_law_draw : Nat} (l_law_draw : k_law_draw ≤ k) (h_law_draw : HasFn P w K mg base k_law_draw "_law_draw" ["bag", "many"] S_law_draw) {S_law_pick : Spec} {k_law_pick : Nat} (l_law_pick : k_law_pick ≤ k) (h_law_pick : HasFn P w K mg base k_law_pick "_law_pick" ["bag", "things"] S_law_pick)
  (cdv : Value) (A : Around) (outer : List PySem.Env) (s : Shared) (H : Hp) (E : XK) (hr : Room k (A.deeper (envOfC "_law_deep_net" (defScope s_law_deep_net) s.heap.objs.size f cdv))) :
  PSs (cxOf CX0 P w K mg base ["bag", "many", "depth", "levels", "k", "segments", "r", "above", "below", "p"] "_law_deep_net" (defScope s_law_deep_net) f cdv A outer s H E).nox (defBody s_law_deep_net) (t_law_deep_net K S_law_shuffle S_law_draw S_law_pick) := by
  obtain ⟨f_law_shuffle, fd_law_shuffle, m_law_shuffle, kp_law_shuffle, b_law_shuffle, G_law_shuffle⟩ := h_law_shuffle
  obtain ⟨f_law_draw, fd_law_draw, m_law_draw, kp_law_draw, b_law_draw, G_law_draw⟩ := h_law_draw
  obtain ⟨f_law_pick, fd_law_pick, m_law_pick, kp_law_pick, b_law_pick, G_law_pick⟩ := h_law_pick
  have nd := sc_law_deep_net.nd
  exact (pss_cons (ps_set (i := 1) nd rfl (Or.inl rfl) (pe_call G_law_draw (hr.mono l_law_draw) (by rfl) m_law_draw kp_law_draw b_law_draw .nil pass0 (pa_cons (pv 0) (pa_cons pe_int pa_nil))))
 (pss_cons (ps_if (pt_cmpR op_eq (pv 1) pe_int (nomark _)) (pss_one (ps_ret (pe_tup (pa_cons (pe_tup pa_nil) (pa_cons (pe_tup pa_nil) pa_nil))))) pss_nil)
 (pss_cons (ps_set (i := 2) nd rfl (Or.inl rfl) (pe_op op_add (pe_op op_fdiv (pe_op op_add (pv 1) pe_int) pe_int) (pe_call G_law_draw (hr.mono l_law_draw) (by rfl) m_law_draw kp_law_draw b_law_draw .nil pass0 (pa_cons (pv 0) (pa_cons (pe_op op_sub (pe_op op_add (pv 1) pe_int) (pe_op op_fdiv (pe_op op_add (pv 1) pe_int) pe_int)) pa_nil)))))
 (pss_cons (ps_set (i := 3) nd rfl (Or.inr rfl) (pe_listRg rfl (by rfl) bi.list_ (prg_1 (by rfl) bi.range_ (pv 2))))
 (pss_cons (ps_for PassesOwn.never rfl (pi_range1 (by rfl) bi.range_ (pa_cons (pe_op op_sub (pv 1) (pv 2)) pa_nil)) (pg_name (i := 4) nd rfl (Or.inl rfl)) (pss_one (ps_expr (pe_bm PySem.F.plainAttrs_list PySem.F.slot_list_append PySem.F.type_list_append mt_append (pv 3) (pa_cons (pe_call G_law_pick (hr.mono l_law_pick) (by rfl) m_law_pick kp_law_pick b_law_pick .nil pass0 (pa_cons (pv 0) (pa_cons (pe_lc (own := [("r", 6)]) (wi := (iRng1 (tCons (tVar 2) tNil))) (g := (gName 6)) (tt := (tTest (tOp rLt2 (tBM K "list" (rCntI K) (tVar 3) (tCons (tVar 6) tNil)) (tC (.int 7))))) (te := (tVar 6)) rfl nd (pi_range1 (by rfl) bi.range_ (pa_cons (pv 2) pa_nil)) (blkOk_by (own := [("r", 6)]) (by show blkC ["bag", "many", "depth", "levels", "k", "segments", "r", "above", "below", "p"] (defScope s_law_deep_net) _ [("r", 6)] = true; decide +kernel)) (fun _ _ _ _ _ => (pg_name (i := 6) nd rfl (Or.inl rfl))) (fun _ _ _ _ _ => (pts_one (pt_cmpR op_lt (pe_bm PySem.F.plainAttrs_list PySem.F.slot_list_count PySem.F.type_list_count mt_lcount (pv 3) (pa_cons (pv 6) pa_nil)) pe_int (nomark _)))) (fun _ _ _ _ _ => (pv 6))) pa_nil))) pa_nil)))))
 (pss_cons (ps_set (i := 3) nd rfl (Or.inr rfl) (pe_call G_law_shuffle (hr.mono l_law_shuffle) (by rfl) m_law_shuffle kp_law_shuffle b_law_shuffle .nil pass0 (pa_cons (pv 0) (pa_cons (pv 3) pa_nil))))
 (pss_cons (ps_set (i := 5) nd rfl (Or.inl rfl) (pe_lst pa_nil))
 (pss_cons (ps_for PassesOwn.never rfl (pi_range1 (by rfl) bi.range_ (pa_cons (pe_op op_sub (pv 2) pe_int) pa_nil)) (pg_name (i := 6) nd rfl (Or.inr rfl)) (pss_cons (ps_setLc (i := 7) (own := [("p", 9)]) (wi := (iRng1 (tCons (tVar 1) tNil))) (g := (gName 9)) (tt := (tTest (tOp rEq (tOp (rIxL K) (tVar 3) (tVar 9)) (tVar 6)))) (te := (tVar 9)) rfl nd rfl rfl (sw_true rfl rfl rfl (by decide +kernel)) (pi_range1 (by rfl) bi.range_ (pa_cons (pv 1) pa_nil)) (blkOk_by (own := [("p", 9)]) (by show blkC ["bag", "many", "depth", "levels", "k", "segments", "r", "above", "below", "p"] (defScope s_law_deep_net) _ [("p", 9)] = true; decide +kernel)) (fun _ _ _ _ _ => (pg_name (i := 9) nd rfl (Or.inl rfl))) (fun _ _ _ _ _ => (pts_one (pt_cmpR op_eq (pe_ix ix_list (pv 3) (pv 9) (fun _ _ => rfl)) (pv 6) (nomark _)))) (fun _ _ _ _ _ => (pv 9)))
 (pss_cons (ps_setLc (i := 8) (own := [("p", 9)]) (wi := (iRng1 (tCons (tVar 1) tNil))) (g := (gName 9)) (tt := (tTest (tOp rEq (tOp (rIxL K) (tVar 3) (tVar 9)) (tOp rAdd2 (tVar 6) (tC (.int 1)))))) (te := (tVar 9)) rfl nd rfl rfl (sw_true rfl rfl rfl (by decide +kernel)) (pi_range1 (by rfl) bi.range_ (pa_cons (pv 1) pa_nil)) (blkOk_by (own := [("p", 9)]) (by show blkC ["bag", "many", "depth", "levels", "k", "segments", "r", "above", "below", "p"] (defScope s_law_deep_net) _ [("p", 9)] = true; decide +kernel)) (fun _ _ _ _ _ => (pg_name (i := 9) nd rfl (Or.inl rfl))) (fun _ _ _ _ _ => (pts_one (pt_cmpR op_eq (pe_ix ix_list (pv 3) (pv 9) (fun _ _ => rfl)) (pe_op op_add (pv 6) pe_int) (nomark _)))) (fun _ _ _ _ _ => (pv 9)))
 (pss_one (ps_for PassesOwn.never rfl (pi_range1 (by rfl) bi.range_ (pa_cons (pe_call G_law_draw (hr.mono l_law_draw) (by rfl) m_law_draw kp_law_draw b_law_draw .nil pass0 (pa_cons (pv 0) (pa_cons pe_int pa_nil))) pa_nil)) (pg_name (i := 4) nd rfl (Or.inl rfl)) (pss_one (ps_expr (pe_bm PySem.F.plainAttrs_list PySem.F.slot_list_append PySem.F.type_list_append mt_append (pv 5) (pa_cons (pe_tup (pa_cons (pe_call G_law_pick (hr.mono l_law_pick) (by rfl) m_law_pick kp_law_pick b_law_pick .nil pass0 (pa_cons (pv 0) (pa_cons (pv 7) pa_nil))) (pa_cons (pe_call G_law_pick (hr.mono l_law_pick) (by rfl) m_law_pick kp_law_pick b_law_pick .nil pass0 (pa_cons (pv 0) (pa_cons (pv 8) pa_nil))) pa_nil))) pa_nil)))))))))
 (pss_one (ps_ret (pe_tup (pa_cons (pe_callTy call_tuple_of (by rfl) bi.tuple_ (by decide +kernel) (pa_cons (pv 3) pa_nil)) (pa_cons (pe_callTy call_tuple_of (by rfl) bi.tuple_ (by decide +kernel) (pa_cons (pe_call G_law_shuffle (hr.mono l_law_shuffle) (by rfl) m_law_shuffle kp_law_shuffle b_law_shuffle .nil pass0 (pa_cons (pv 0) (pa_cons (pv 5) pa_nil))) pa_nil)) pa_nil)))))))))))))
abbrev s_law_renumbered : Stmt := topS 22
theorem sc_law_renumbered : FnScope ["bag", "levels", "segments", "fresh", "least", "placed", "p", "rows", "one", "ends"] ["bag", "levels", "segments"] (defScope s_law_renumbered) := ⟨rfl, rfl, rfl, by decide +kernel, rfl, by decide +kernel, by decide +kernel⟩
theorem pss_law_renumbered {P : Program} {w : World} {K : PySem.W.Frag} {mg : Str → Option Value} {base : Heap} {f : Addr} {k : Nat} (bi : BI mg) {S_law_draw : Spec} {k_law_draw : Nat} (l_law_draw : k_law_draw ≤ k) (h_law_draw : HasFn P w K mg base k_law_draw "_law_draw" ["bag", "many"] S_law_draw) {S_law_shuffle : Spec} {k_law_shuffle : Nat} (l_law_shuffle : k_law_shuffle ≤ k) (h_law_shuffle : HasFn P w K mg base k_law_shuffle "_law_shuffle" ["bag", "things"] S_law_shuffle)
  (cdv : Value) (A : Around) (outer : List PySem.Env) (s : Shared) (H : Hp) (E : XK) (hr : Room k (A.deeper (envOfC "_law_renumbered" (defScope s_law_renumbered) s.heap.objs.size f cdv))) :
  PSs (cxOf CX0 P w K mg base ["bag", "levels", "segments", "fresh", "least", "placed", "p", "rows", "one", "ends"] "_law_renumbered" (defScope s_law_renumbered) f cdv A outer s H E).nox (defBody s_law_renumbered) (t_law_renumbered K S_law_draw S_law_shuffle) := by
  obtain ⟨f_law_draw, fd_law_draw, m_law_draw, kp_law_draw, b_law_draw, G_law_draw⟩ := h_law_draw
  obtain ⟨f_law_shuffle, fd_law_shuffle, m_law_shuffle, kp_law_shuffle, b_law_shuffle, G_law_shuffle⟩ := h_law_shuffle
  have nd := sc_law_renumbered.nd
  exact (pss_cons (ps_set (i := 3) nd rfl (Or.inl rfl) (pe_listRg rfl (by rfl) bi.list_ (prg_1 (by rfl) bi.range_ (pe_callB call_len_seq (by rfl) bi.len_ PySem.boot_len (pa_cons (pv 1) pa_nil)))))
 (pss_cons (ps_if (pt_cmpR op_eq (pe_call G_law_draw (hr.mono l_law_draw) (by rfl) m_law_draw kp_law_draw b_law_draw .nil pass0 (pa_cons (pv 0) (pa_cons pe_int pa_nil))) pe_int (nomark _)) (pss_one (ps_set (i := 3) nd rfl (Or.inl rfl) (pe_call G_law_shuffle (hr.mono l_law_shuffle) (by rfl) m_law_shuffle kp_law_shuffle b_law_shuffle .nil pass0 (pa_cons (pv 0) (pa_cons (pv 3) pa_nil))))) pss_nil)
 (pss_cons (ps_set (i := 4) nd rfl (Or.inl rfl) (pe_callB (cr_min rfl) (by rfl) bi.min_ (by decide +kernel) (pa_cons (pv 1) pa_nil)))
 (pss_cons (ps_set (i := 5) nd rfl (Or.inl rfl) (pe_op op_rep (pe_lst (pa_cons pe_int pa_nil)) (pe_callB call_len_seq (by rfl) bi.len_ PySem.boot_len (pa_cons (pv 1) pa_nil))))
 (pss_cons (ps_for PassesOwn.never rfl (pi_range1 (by rfl) bi.range_ (pa_cons (pe_callB call_len_seq (by rfl) bi.len_ PySem.boot_len (pa_cons (pv 1) pa_nil)) pa_nil)) (pg_name (i := 6) nd rfl (Or.inl rfl)) (pss_one (ps_asg (pe_op op_sub (pe_ix ix_list (pv 1) (pv 6) (fun _ _ => rfl)) (pv 4)) (pg_sub (pv 5) (pe_ix ix_list (pv 3) (pv 6) (fun _ _ => rfl)) set_list))))
 (pss_cons (ps_set (i := 7) nd rfl (Or.inl rfl) (pe_lst pa_nil))
 (pss_cons (ps_for PassesOwn.never rfl (pi_list (pv 2)) (pg_name (i := 8) nd rfl (Or.inl rfl)) (pss_cons (ps_set (i := 9) nd rfl (Or.inl rfl) (pe_callB cr_sortedPO (by rfl) bi.sorted_ (by decide +kernel) (pa_cons (pe_lst (pa_cons (pe_tup (pa_cons (pe_ix ix_list (pv 1) (pe_ix ix_tup (pv 8) pe_int (fun _ _ => rfl)) (fun _ _ => rfl)) (pa_cons (pe_ix ix_list (pv 3) (pe_ix ix_tup (pv 8) pe_int (fun _ _ => rfl)) (fun _ _ => rfl)) pa_nil))) (pa_cons (pe_tup (pa_cons (pe_ix ix_list (pv 1) (pe_ix ix_tup (pv 8) pe_int (fun _ _ => rfl)) (fun _ _ => rfl)) (pa_cons (pe_ix ix_list (pv 3) (pe_ix ix_tup (pv 8) pe_int (fun _ _ => rfl)) (fun _ _ => rfl)) pa_nil))) pa_nil))) pa_nil)))
 (pss_one (ps_expr (pe_bm PySem.F.plainAttrs_list PySem.F.slot_list_append PySem.F.type_list_append mt_append (pv 7) (pa_cons (pe_tup (pa_cons (pe_ix ix_tup (pe_ix ix_list (pv 9) pe_int (fun _ _ => rfl)) pe_int (fun _ _ => rfl)) (pa_cons (pe_ix ix_tup (pe_ix ix_list (pv 9) pe_int (fun _ _ => rfl)) pe_int (fun _ _ => rfl)) pa_nil))) pa_nil))))))
 (pss_one (ps_ret (pe_tup (pa_cons (pe_callTy call_tuple_of (by rfl) bi.tuple_ (by decide +kernel) (pa_cons (pv 5) pa_nil)) (pa_cons (pe_callTy call_tuple_of (by rfl) bi.tuple_ (by decide +kernel) (pa_cons (pv 7) pa_nil)) pa_nil))))))))))))
abbrev s_law_bent_net : Stmt := topS 23
theorem sc_law_bent_net : FnScope ["bag", "levels", "segments", "kind", "grow", "many", "turns", "k", "leg", "at", "r", "here", "p"] ["bag"] (defScope s_law_bent_net) := ⟨rfl, rfl, rfl, by decide +kernel, rfl, by decide +kernel, by decide +kernel⟩
theorem pss_law_bent_net {P : Program} {w : World} {K : PySem.W.Frag} {mg : Str → Option Value} {base : Heap} {f : Addr} {k : Nat} (bi : BI mg) {S_law_renumbered : Spec} {k_law_renumbered : Nat} (l_law_renumbered : k_law_renumbered ≤ k) (h_law_renumbered : HasFn P w K mg base k_law_renumbered "_law_renumbered" ["bag", "levels", "segments"] S_law_renumbered) {S_law_draw : Spec} {k_law_draw : Nat} (l_law_draw : k_law_draw ≤ k) (h_law_draw : HasFn P w K mg base k_law_draw "_law_draw" ["bag", "many"] S_law_draw) {S_law_pick : Spec} {k_law_pick : Nat} (l_law_pick : k_law_pick ≤ k) (h_law_pick : HasFn P w K mg base k_law_pick "_law_pick" ["bag", "things"] S_law_pick) {S_law_shuffle : Spec} {k_law_shuffle : Nat} (l_law_shuffle : k_law_shuffle ≤ k) (h_law_shuffle : HasFn P w K mg base k_law_shuffle "_law_shuffle" ["bag", "things"] S_law_shuffle)
  (cdv : Value) (A : Around) (outer : List PySem.Env) (s : Shared) (H : Hp) (E : XK) (hr : Room k (A.deeper (envOfC "_law_bent_net" (defScope s_law_bent_net) s.heap.objs.size f cdv))) :
  PSs (cxOf CX0 P w K mg base ["bag", "levels", "segments", "kind", "grow", "many", "turns", "k", "leg", "at", "r", "here", "p"] "_law_bent_net" (defScope s_law_bent_net) f cdv A outer s H E).nox (defBody s_law_bent_net) (t_law_bent_net K S_law_renumbered S_law_draw S_law_pick S_law_shuffle) := by
  obtain ⟨f_law_renumbered, fd_law_renumbered, m_law_renumbered, kp_law_renumbered, b_law_renumbered, G_law_renumbered⟩ := h_law_renumbered
  obtain ⟨f_law_draw, fd_law_draw, m_law_draw, kp_law_draw, b_law_draw, G_law_draw⟩ := h_law_draw
  obtain ⟨f_law_pick, fd_law_pick, m_law_pick, kp_law_pick, b_law_pick, G_law_pick⟩ := h_law_pick
  obtain ⟨f_law_shuffle, fd_law_shuffle, m_law_shuffle, kp_law_shuffle, b_law_shuffle, G_law_shuffle⟩ := h_law_shuffle
  have nd := sc_law_bent_net.nd
  exact (pss_cons (ps_set (i := 1) nd rfl (Or.inr rfl) (pe_lst (pa_cons pe_int pa_nil)))
 (pss_cons (ps_set (i := 2) nd rfl (Or.inl rfl) (pe_lst pa_nil))
 (pss_cons (ps_set (i := 3) nd rfl (Or.inl rfl) (pe_call G_law_draw (hr.mono l_law_draw) (by rfl) m_law_draw kp_law_draw b_law_draw .nil pass0 (pa_cons (pv 0) (pa_cons pe_int pa_nil))))
 (pss_cons (ps_set (i := 4) nd rfl (Or.inl rfl) pe_int)
 (pss_cons (ps_if (pt_cmpR op_eq (pv 3) pe_int (nomark _)) (pss_cons (ps_set (i := 4) nd rfl (Or.inl rfl) pe_int)
 (pss_cons (ps_set (i := 5) nd rfl (Or.inl rfl) (pe_op op_add pe_int (pe_call G_law_draw (hr.mono l_law_draw) (by rfl) m_law_draw kp_law_draw b_law_draw .nil pass0 (pa_cons (pv 0) (pa_cons pe_int pa_nil)))))
 (pss_cons (ps_set (i := 6) nd rfl (Or.inl rfl) (pe_call G_law_shuffle (hr.mono l_law_shuffle) (by rfl) m_law_shuffle kp_law_shuffle b_law_shuffle .nil pass0 (pa_cons (pv 0) (pa_cons (pe_op op_cat (pe_op op_rep (pe_lst (pa_cons pe_int pa_nil)) (pv 5)) (pe_op op_rep (pe_lst (pa_cons (pe_un un_neg pe_int) pa_nil)) (pv 5))) pa_nil))))
 (pss_cons (ps_for PassesOwn.never rfl (pi_range1 (by rfl) bi.range_ (pa_cons (pe_op op_sub (pe_op op_mul pe_int (pv 5)) pe_int) pa_nil)) (pg_name (i := 7) nd rfl (Or.inl rfl)) (pss_cons (ps_expr (pe_bm PySem.F.plainAttrs_list PySem.F.slot_list_append PySem.F.type_list_append mt_append (pv 1) (pa_cons (pe_op op_add (pe_ix ix_list (pv 1) (pv 7) (fun _ _ => rfl)) (pe_ix ix_list (pv 6) (pv 7) (fun _ _ => rfl))) pa_nil)))
 (pss_one (ps_expr (pe_bm PySem.F.plainAttrs_list PySem.F.slot_list_append PySem.F.type_list_append mt_append (pv 2) (pa_cons (pe_tup (pa_cons (pv 7) (pa_cons (pe_op op_add (pv 7) pe_int) pa_nil))) pa_nil))))))
 (pss_one (ps_expr (pe_bm PySem.F.plainAttrs_list PySem.F.slot_list_append PySem.F.type_list_append mt_append (pv 2) (pa_cons (pe_tup (pa_cons (pe_op op_sub (pe_op op_mul pe_int (pv 5)) pe_int) (pa_cons pe_int pa_nil))) pa_nil)))))))) pss_nil)
 (pss_cons (ps_if (pt_cmpR op_eq (pv 3) pe_int (nomark _)) (pss_cons (ps_set (i := 4) nd rfl (Or.inl rfl) pe_int)
 (pss_one (ps_for PassesOwn.never rfl (pi_range1 (by rfl) bi.range_ (pa_cons pe_int pa_nil)) (pg_name (i := 8) nd rfl (Or.inl rfl)) (pss_cons (ps_set (i := 9) nd rfl (Or.inl rfl) pe_int)
 (pss_one (ps_for PassesOwn.never rfl (pi_range1 (by rfl) bi.range_ (pa_cons (pe_op op_add pe_int (pe_call G_law_draw (hr.mono l_law_draw) (by rfl) m_law_draw kp_law_draw b_law_draw .nil pass0 (pa_cons (pv 0) (pa_cons pe_int pa_nil)))) pa_nil)) (pg_name (i := 7) nd rfl (Or.inl rfl)) (pss_cons (ps_expr (pe_bm PySem.F.plainAttrs_list PySem.F.slot_list_append PySem.F.type_list_append mt_append (pv 1) (pa_cons (pe_op op_sub (pe_op op_add (pe_ix ix_list (pv 1) (pv 9) (fun _ _ => rfl)) pe_int) (pe_op op_mul pe_int (pe_call G_law_draw (hr.mono l_law_draw) (by rfl) m_law_draw kp_law_draw b_law_draw .nil pass0 (pa_cons (pv 0) (pa_cons pe_int pa_nil))))) pa_nil)))
 (pss_cons (ps_expr (pe_bm PySem.F.plainAttrs_list PySem.F.slot_list_append PySem.F.type_list_append mt_append (pv 2) (pa_cons (pe_tup (pa_cons (pv 9) (pa_cons (pe_op op_sub (pe_callB call_len_seq (by rfl) bi.len_ PySem.boot_len (pa_cons (pv 1) pa_nil)) pe_int) pa_nil))) pa_nil)))
 (pss_one (ps_set (i := 9) nd rfl (Or.inl rfl) (pe_op op_sub (pe_callB call_len_seq (by rfl) bi.len_ PySem.boot_len (pa_cons (pv 1) pa_nil)) pe_int))))))))))) pss_nil)
 (pss_cons (ps_for PassesOwn.never rfl (pi_range1 (by rfl) bi.range_ (pa_cons (pe_call G_law_draw (hr.mono l_law_draw) (by rfl) m_law_draw kp_law_draw b_law_draw .nil pass0 (pa_cons (pv 0) (pa_cons (pv 4) pa_nil))) pa_nil)) (pg_name (i := 7) nd rfl (Or.inl rfl)) (pss_cons (ps_set (i := 9) nd rfl (Or.inl rfl) (pe_call G_law_draw (hr.mono l_law_draw) (by rfl) m_law_draw kp_law_draw b_law_draw .nil pass0 (pa_cons (pv 0) (pa_cons (pe_callB call_len_seq (by rfl) bi.len_ PySem.boot_len (pa_cons (pv 1) pa_nil)) pa_nil))))
 (pss_cons (ps_set (i := 10) nd rfl (Or.inr rfl) (pe_op op_sub (pe_op op_add (pe_ix ix_list (pv 1) (pv 9) (fun _ _ => rfl)) pe_int) (pe_op op_mul pe_int (pe_call G_law_draw (hr.mono l_law_draw) (by rfl) m_law_draw kp_law_draw b_law_draw .nil pass0 (pa_cons (pv 0) (pa_cons pe_int pa_nil))))))
 (pss_cons (ps_setLc (i := 11) (own := [("p", 12)]) (wi := (iRng1 (tCons (tCB (rLen2 K) (tCons (tVar 1) tNil)) tNil))) (g := (gName 12)) (tt := (tTest (tOp rEq (tOp (rIxL K) (tVar 1) (tVar 12)) (tVar 10)))) (te := (tVar 12)) rfl nd rfl rfl (sw_true rfl rfl rfl (by decide +kernel)) (pi_range1 (by rfl) bi.range_ (pa_cons (pe_callB call_len_seq (by rfl) bi.len_ PySem.boot_len (pa_cons (pv 1) pa_nil)) pa_nil)) (blkOk_by (own := [("p", 12)]) (by show blkC ["bag", "levels", "segments", "kind", "grow", "many", "turns", "k", "leg", "at", "r", "here", "p"] (defScope s_law_bent_net) _ [("p", 12)] = true; decide +kernel)) (fun _ _ _ _ _ => (pg_name (i := 12) nd rfl (Or.inl rfl))) (fun _ _ _ _ _ => (pts_one (pt_cmpR op_eq (pe_ix ix_list (pv 1) (pv 12) (fun _ _ => rfl)) (pv 10) (nomark _)))) (fun _ _ _ _ _ => (pv 12)))
 (pss_cons (ps_if (PW.pt (pw_or (pt_cmpR op_eq (pe_callB call_len_seq (by rfl) bi.len_ PySem.boot_len (pa_cons (pv 11) pa_nil)) pe_int (nomark _)) (pw_or1 (PW.pt (pw_and (pt_cmpR op_lt (pe_callB call_len_seq (by rfl) bi.len_ PySem.boot_len (pa_cons (pv 11) pa_nil)) pe_int (nomark _)) (pw_and1 (pt_cmpR op_eq (pe_call G_law_draw (hr.mono l_law_draw) (by rfl) m_law_draw kp_law_draw b_law_draw .nil pass0 (pa_cons (pv 0) (pa_cons pe_int pa_nil))) pe_int (nomark _)))))))) (pss_cons (ps_expr (pe_bm PySem.F.plainAttrs_list PySem.F.slot_list_append PySem.F.type_list_append mt_append (pv 1) (pa_cons (pv 10) pa_nil)))
 (pss_one (ps_set (i := 11) nd rfl (Or.inl rfl) (pe_lst (pa_cons (pe_op op_sub (pe_callB call_len_seq (by rfl) bi.len_ PySem.boot_len (pa_cons (pv 1) pa_nil)) pe_int) pa_nil))))) pss_nil)
 (pss_one (ps_expr (pe_bm PySem.F.plainAttrs_list PySem.F.slot_list_append PySem.F.type_list_append mt_append (pv 2) (pa_cons (pe_tup (pa_cons (pv 9) (pa_cons (pe_call G_law_pick (hr.mono l_law_pick) (by rfl) m_law_pick kp_law_pick b_law_pick .nil pass0 (pa_cons (pv 0) (pa_cons (pv 11) pa_nil))) pa_nil))) pa_nil)))))))))
 (pss_one (ps_ret (pe_call G_law_renumbered (hr.mono l_law_renumbered) (by rfl) m_law_renumbered kp_law_renumbered b_law_renumbered .nil pass0 (pa_cons (pv 0) (pa_cons (pv 1) (pa_cons (pv 2) pa_nil)))))))))))))
abbrev s_law_some_net : Stmt := topS 24
theorem sc_law_some_net : FnScope ["bag", "kind"] ["bag"] (defScope s_law_some_net) := ⟨rfl, rfl, rfl, by decide +kernel, rfl, by decide +kernel, by decide +kernel⟩
theorem pss_law_some_net {P : Program} {w : World} {K : PySem.W.Frag} {mg : Str → Option Value} {base : Heap} {f : Addr} {k : Nat} (bi : BI mg) {S_law_net : Spec} {k_law_net : Nat} (l_law_net : k_law_net ≤ k) (h_law_net : HasFn P w K mg base k_law_net "_law_net" ["bag"] S_law_net) {S_law_bent_net : Spec} {k_law_bent_net : Nat} (l_law_bent_net : k_law_bent_net ≤ k) (h_law_bent_net : HasFn P w K mg base k_law_bent_net "_law_bent_net" ["bag"] S_law_bent_net) {S_law_deep_net : Spec} {k_law_deep_net : Nat} (l_law_deep_net : k_law_deep_net ≤ k) (h_law_deep_net : HasFn P w K mg base k_law_deep_net "_law_deep_net" ["bag"] S_law_deep_net) {S_law_draw : Spec} {k_law_draw : Nat} (l_law_draw : k_law_draw ≤ k) (h_law_draw : HasFn P w K mg base k_law_draw "_law_draw" ["bag", "many"] S_law_draw)
  (cdv : Value) (A : Around) (outer : List PySem.Env) (s : Shared) (H : Hp) (E : XK) (hr : Room k (A.deeper (envOfC "_law_some_net" (defScope s_law_some_net) s.heap.objs.size f cdv))) :
  PSs (cxOf CX0 P w K mg base ["bag", "kind"] "_law_some_net" (defScope s_law_some_net) f cdv A outer s H E).nox (defBody s_law_some_net) (t_law_some_net K S_law_net S_law_bent_net S_law_deep_net S_law_draw) := by
  obtain ⟨f_law_net, fd_law_net, m_law_net, kp_law_net, b_law_net, G_law_net⟩ := h_law_net
  obtain ⟨f_law_bent_net, fd_law_bent_net, m_law_bent_net, kp_law_bent_net, b_law_bent_net, G_law_bent_net⟩ := h_law_bent_net
  obtain ⟨f_law_deep_net, fd_law_deep_net, m_law_deep_net, kp_law_deep_net, b_law_deep_net, G_law_deep_net⟩ := h_law_deep_net
  obtain ⟨f_law_draw, fd_law_draw, m_law_draw, kp_law_draw, b_law_draw, G_law_draw⟩ := h_law_draw
  have nd := sc_law_some_net.nd
  exact (pss_cons (ps_set (i := 1) nd rfl (Or.inl rfl) (pe_call G_law_draw (hr.mono l_law_draw) (by rfl) m_law_draw kp_law_draw b_law_draw .nil pass0 (pa_cons (pv 0) (pa_cons pe_int pa_nil))))
 (pss_cons (ps_if (pt_cmpR op_eq (pv 1) pe_int (nomark _)) (pss_one (ps_ret (pe_call G_law_deep_net (hr.mono l_law_deep_net) (by rfl) m_law_deep_net kp_law_deep_net b_law_deep_net .nil pass0 (pa_cons (pv 0) pa_nil)))) pss_nil)
 (pss_cons (ps_if (pt_cmpR op_gt (pv 1) pe_int (nomark _)) (pss_one (ps_ret (pe_call G_law_bent_net (hr.mono l_law_bent_net) (by rfl) m_law_bent_net kp_law_bent_net b_law_bent_net .nil pass0 (pa_cons (pv 0) pa_nil)))) pss_nil)
 (pss_one (ps_ret (pe_call G_law_net (hr.mono l_law_net) (by rfl) m_law_net kp_law_net b_law_net .nil pass0 (pa_cons (pv 0) pa_nil)))))))
abbrev s_law_joined : Stmt := topS 25
theorem sc_law_joined : FnScope ["net", "joined", "p", "ends", "one", "q"] ["net"] (defScope s_law_joined) := ⟨rfl, rfl, rfl, by decide +kernel, rfl, by decide +kernel, by decide +kernel⟩
theorem pss_law_joined {P : Program} {w : World} {K : PySem.W.Frag} {mg : Str → Option Value} {base : Heap} {f : Addr} {k : Nat} (bi : BI mg) 
  (cdv : Value) (A : Around) (outer : List PySem.Env) (s : Shared) (H : Hp) (E : XK) (hr : Room k (A.deeper (envOfC "_law_joined" (defScope s_law_joined) s.heap.objs.size f cdv))) :
  PSs (cxOf CX0 P w K mg base ["net", "joined", "p", "ends", "one", "q"] "_law_joined" (defScope s_law_joined) f cdv A outer s H E).nox (defBody s_law_joined) (t_law_joined K) := by
  have nd := sc_law_joined.nd
  exact (pss_cons (ps_set (i := 1) nd rfl (Or.inl rfl) (pe_lst pa_nil))
 (pss_cons (ps_for PassesOwn.never rfl (pi_range1 (by rfl) bi.range_ (pa_cons (pe_callB call_len_seq (by rfl) bi.len_ PySem.boot_len (pa_cons (pe_ix ix_tup (pv 0) pe_int (fun _ _ => rfl)) pa_nil)) pa_nil)) (pg_name (i := 2) nd rfl (Or.inr rfl)) (pss_cons (ps_set (i := 3) nd rfl (Or.inr rfl) (pe_lc (own := [("one", 4)]) (wi := (iTup K (tOp (rIxT K) (tVar 0) (tC (.int 1))))) (g := (gName 4)) (tt := (tTest (tOp (rIn K false) (tVar 2) (tVar 4)))) (te := (tOp rSub2 (tOp rAdd2 (tOp (rIxT K) (tVar 4) (tC (.int 0))) (tOp (rIxT K) (tVar 4) (tC (.int 1)))) (tVar 2))) rfl nd (pi_tup (pe_ix ix_tup (pv 0) pe_int (fun _ _ => rfl))) (blkOk_by (own := [("one", 4)]) (by show blkC ["net", "joined", "p", "ends", "one", "q"] (defScope s_law_joined) _ [("one", 4)] = true; decide +kernel)) (fun _ _ _ _ _ => (pg_name (i := 4) nd rfl (Or.inl rfl))) (fun _ _ _ _ _ => (pts_one (pt_cmpR op_in_seq (pv 2) (pv 4) rfl))) (fun _ _ _ _ _ => (pe_op op_sub (pe_op op_add (pe_ix ix_tup (pv 4) pe_int (fun _ _ => rfl)) (pe_ix ix_tup (pv 4) pe_int (fun _ _ => rfl))) (pv 2)))))
 (pss_one (ps_expr (pe_bm PySem.F.plainAttrs_list PySem.F.slot_list_append PySem.F.type_list_append mt_append (pv 1) (pa_cons (pe_lc (own := [("q", 5)]) (wi := (iRng1 (tCons (tCB (rLen2 K) (tCons (tOp (rIxT K) (tVar 0) (tC (.int 0))) tNil)) tNil))) (g := (gName 5)) (tt := (tTest (tOp (rIn K false) (tVar 5) (tVar 3)))) (te := (tVar 5)) rfl nd (pi_range1 (by rfl) bi.range_ (pa_cons (pe_callB call_len_seq (by rfl) bi.len_ PySem.boot_len (pa_cons (pe_ix ix_tup (pv 0) pe_int (fun _ _ => rfl)) pa_nil)) pa_nil)) (blkOk_by (own := [("q", 5)]) (by show blkC ["net", "joined", "p", "ends", "one", "q"] (defScope s_law_joined) _ [("q", 5)] = true; decide +kernel)) (fun _ _ _ _ _ => (pg_name (i := 5) nd rfl (Or.inl rfl))) (fun _ _ _ _ _ => (pts_one (pt_cmpR op_in_seq (pv 5) (pv 3) rfl))) (fun _ _ _ _ _ => (pv 5))) pa_nil))))))
 (pss_one (ps_ret (pv 1)))))
abbrev s_law_steps_due : Stmt := topS 26
theorem sc_law_steps_due : FnScope ["net", "joined", "pair", "due", "c", "d"] ["net", "joined", "pair"] (defScope s_law_steps_due) := ⟨rfl, rfl, rfl, by decide +kernel, rfl, by decide +kernel, by decide +kernel⟩
theorem pss_law_steps_due {P : Program} {w : World} {K : PySem.W.Frag} {mg : Str → Option Value} {base : Heap} {f : Addr} {k : Nat} (bi : BI mg) 
  (cdv : Value) (A : Around) (outer : List PySem.Env) (s : Shared) (H : Hp) (E : XK) (hr : Room k (A.deeper (envOfC "_law_steps_due" (defScope s_law_steps_due) s.heap.objs.size f cdv))) :
  PSs (cxOf CX0 P w K mg base ["net", "joined", "pair", "due", "c", "d"] "_law_steps_due" (defScope s_law_steps_due) f cdv A outer s H E).nox (defBody s_law_steps_due) (t_law_steps_due K) := by
  have nd := sc_law_steps_due.nd
  exact (pss_cons (ps_set (i := 3) nd rfl (Or.inl rfl) (pe_lst pa_nil))
 (pss_cons (ps_for PassesOwn.never rfl (pi_list (pe_ix ix_list (pv 1) (pe_ix ix_tup (pv 2) pe_int (fun _ _ => rfl)) (fun _ _ => rfl))) (pg_name (i := 4) nd rfl (Or.inl rfl)) (pss_one (ps_for PassesOwn.never rfl (pi_list (pe_ix ix_list (pv 1) (pe_ix ix_tup (pv 2) pe_int (fun _ _ => rfl)) (fun _ _ => rfl))) (pg_name (i := 5) nd rfl (Or.inl rfl)) (pss_one (ps_if (PW.pt (pw_and (pt_cmpR op_ne (pv 4) (pv 5) (nomark _)) (pw_and1 (pt_cmpR op_eq (pe_ix ix_tup (pe_ix ix_tup (pv 0) pe_int (fun _ _ => rfl)) (pv 4) (fun _ _ => rfl)) (pe_ix ix_tup (pe_ix ix_tup (pv 0) pe_int (fun _ _ => rfl)) (pv 5) (fun _ _ => rfl)) (nomark _))))) (pss_one (ps_expr (pe_bm PySem.F.plainAttrs_list PySem.F.slot_list_append PySem.F.type_list_append mt_append (pv 3) (pa_cons (pe_tup (pa_cons (pv 4) (pa_cons (pv 5) pa_nil))) pa_nil)))) pss_nil)))))
 (pss_one (ps_ret (pv 3)))))
abbrev s_law_is_pair : Stmt := topS 27
theorem sc_law_is_pair : FnScope ["net", "pair", "p"] ["net", "pair"] (defScope s_law_is_pair) := ⟨rfl, rfl, rfl, by decide +kernel, rfl, by decide +kernel, by decide +kernel⟩
theorem pss_law_is_pair {P : Program} {w : World} {K : PySem.W.Frag} {mg : Str → Option Value} {base : Heap} {f : Addr} {k : Nat} (bi : BI mg) 
  (cdv : Value) (A : Around) (outer : List PySem.Env) (s : Shared) (H : Hp) (E : XK) (hr : Room k (A.deeper (envOfC "_law_is_pair" (defScope s_law_is_pair) s.heap.objs.size f cdv))) :
  PSs (cxOf CX0 P w K mg base ["net", "pair", "p"] "_law_is_pair" (defScope s_law_is_pair) f cdv A outer s H E).nox (defBody s_law_is_pair) (t_law_is_pair K) := by
  have nd := sc_law_is_pair.nd
  exact (pss_cons (ps_for PassesOwn.never rfl (pi_tup (pv 1)) (pg_name (i := 2) nd rfl (Or.inl rfl)) (pss_one (ps_if (PW.pt (pw_or (pt_cmpR op_lt (pv 2) pe_int (nomark _)) (pw_or1 (pt_cmpR op_ge (pv 2) (pe_callB call_len_seq (by rfl) bi.len_ PySem.boot_len (pa_cons (pe_ix ix_tup (pv 0) pe_int (fun _ _ => rfl)) pa_nil)) (nomark _))))) (pss_one (ps_ret pe_bl)) pss_nil)))
 (pss_one (ps_ret (pe_and (pe_cmpR op_ne (pe_ix ix_tup (pv 1) pe_int (fun _ _ => rfl)) (pe_ix ix_tup (pv 1) pe_int (fun _ _ => rfl)) (nomark _)) (pe_one (pe_cmpR op_eq (pe_ix ix_tup (pe_ix ix_tup (pv 0) pe_int (fun _ _ => rfl)) (pe_ix ix_tup (pv 1) pe_int (fun _ _ => rfl)) (fun _ _ => rfl)) (pe_ix ix_tup (pe_ix ix_tup (pv 0) pe_int (fun _ _ => rfl)) (pe_ix ix_tup (pv 1) pe_int (fun _ _ => rfl)) (fun _ _ => rfl)) (nomark _)))))))
abbrev s_law_walk_due : Stmt := topS 28
theorem sc_law_walk_due : FnScope ["net", "joined", "row", "pair", "k"] ["net", "joined", "row"] (defScope s_law_walk_due) := ⟨rfl, rfl, rfl, by decide +kernel, rfl, by decide +kernel, by decide +kernel⟩
theorem pss_law_walk_due {P : Program} {w : World} {K : PySem.W.Frag} {mg : Str → Option Value} {base : Heap} {f : Addr} {k : Nat} (bi : BI mg) {S_law_steps_due : Spec} {k_law_steps_due : Nat} (l_law_steps_due : k_law_steps_due ≤ k) (h_law_steps_due : HasFn P w K mg base k_law_steps_due "_law_steps_due" ["net", "joined", "pair"] S_law_steps_due) {S_law_is_pair : Spec} {k_law_is_pair : Nat} (l_law_is_pair : k_law_is_pair ≤ k) (h_law_is_pair : HasFn P w K mg base k_law_is_pair "_law_is_pair" ["net", "pair"] S_law_is_pair)
  (cdv : Value) (A : Around) (outer : List PySem.Env) (s : Shared) (H : Hp) (E : XK) (hr : Room k (A.deeper (envOfC "_law_walk_due" (defScope s_law_walk_due) s.heap.objs.size f cdv))) :
  PSs (cxOf CX0 P w K mg base ["net", "joined", "row", "pair", "k"] "_law_walk_due" (defScope s_law_walk_due) f cdv A outer s H E).nox (defBody s_law_walk_due) (t_law_walk_due K S_law_steps_due S_law_is_pair) := by
  obtain ⟨f_law_steps_due, fd_law_steps_due, m_law_steps_due, kp_law_steps_due, b_law_steps_due, G_law_steps_due⟩ := h_law_steps_due
  obtain ⟨f_law_is_pair, fd_law_is_pair, m_law_is_pair, kp_law_is_pair, b_law_is_pair, G_law_is_pair⟩ := h_law_is_pair
  have nd := sc_law_walk_due.nd
  exact (pss_cons (ps_for PassesOwn.never rfl (pi_tup (pv 2)) (pg_name (i := 3) nd rfl (Or.inl rfl)) (pss_one (ps_if (pt_not (pt_val (pe_call G_law_is_pair (hr.mono l_law_is_pair) (by rfl) m_law_is_pair kp_law_is_pair b_law_is_pair .nil pass0 (pa_cons (pv 0) (pa_cons (pv 3) pa_nil))))) (pss_one (ps_ret pe_bl)) pss_nil)))
 (pss_cons (ps_for PassesOwn.never rfl (pi_range1 (by rfl) bi.range_ (pa_cons (pe_op op_sub (pe_callB call_len_seq (by rfl) bi.len_ PySem.boot_len (pa_cons (pv 2) pa_nil)) pe_int) pa_nil)) (pg_name (i := 4) nd rfl (Or.inl rfl)) (pss_one (ps_if (pt_cmpR (op_notInD (he_of hr)) (pe_ix ix_tup (pv 2) (pe_op op_add (pv 4) pe_int) (fun _ _ => rfl)) (pe_call G_law_steps_due (hr.mono l_law_steps_due) (by rfl) m_law_steps_due kp_law_steps_due b_law_steps_due .nil pass0 (pa_cons (pv 0) (pa_cons (pv 1) (pa_cons (pe_ix ix_tup (pv 2) (pv 4) (fun _ _ => rfl)) pa_nil)))) rfl) (pss_one (ps_ret pe_bl)) pss_nil)))
 (pss_one (ps_ret (pe_cmpR op_gt (pe_callB call_len_seq (by rfl) bi.len_ PySem.boot_len (pa_cons (pv 2) pa_nil)) pe_int (nomark _))))))
abbrev s_law_way : Stmt := topS 29
theorem sc_law_way : FnScope ["near", "first", "last", "before", "queue", "turn", "other", "walk", "at"] ["near", "first", "last"] (defScope s_law_way) := ⟨rfl, rfl, rfl, by decide +kernel, rfl, by decide +kernel, by decide +kernel⟩
theorem pss_law_way {P : Program} {w : World} {K : PySem.W.Frag} {mg : Str → Option Value} {base : Heap} {f : Addr} {k : Nat} (bi : BI mg) {S_law_steps : Spec} {k_law_steps : Nat} (l_law_steps : k_law_steps ≤ k) (h_law_steps : HasFn P w K mg base k_law_steps "_law_steps" ["near", "pair"] S_law_steps)
  (cdv : Value) (A : Around) (outer : List PySem.Env) (s : Shared) (H : Hp) (E : XK) (hr : Room k (A.deeper (envOfC "_law_way" (defScope s_law_way) s.heap.objs.size f cdv))) :
  PSs (cxOf CX0 P w K mg base ["near", "first", "last", "before", "queue", "turn", "other", "walk", "at"] "_law_way" (defScope s_law_way) f cdv A outer s H E).nox (defBody s_law_way) (t_law_way K S_law_steps) := by
  obtain ⟨f_law_steps, fd_law_steps, m_law_steps, kp_law_steps, b_law_steps, G_law_steps⟩ := h_law_steps
  have nd := sc_law_way.nd
  exact (pss_cons (ps_set (i := 3) nd rfl (Or.inl rfl) (DLd.pe_disp1 (hu_of hr) (pv 1) pe_non))
 (pss_cons (ps_set (i := 4) nd rfl (Or.inl rfl) (pe_lst (pa_cons (pv 1) pa_nil)))
 (pss_cons (ps_for PassesOwn.never rfl (pi_range1 (by rfl) bi.range_ (pa_cons (pe_op op_mul pe_int (pe_callB call_len_seq (by rfl) bi.len_ PySem.boot_len (pa_cons (pe_ix ix_list (pv 0) pe_int (fun _ _ => rfl)) pa_nil))) pa_nil)) (pg_name (i := 5) nd rfl (Or.inl rfl)) (pss_one (ps_if (pt_cmpR op_lt (pv 5) (pe_callB call_len_seq (by rfl) bi.len_ PySem.boot_len (pa_cons (pv 4) pa_nil)) (nomark _)) (pss_one (ps_for PassesOwn.never rfl (pi_list (pe_call G_law_steps (hr.mono l_law_steps) (by rfl) m_law_steps kp_law_steps b_law_steps .nil pass0 (pa_cons (pv 0) (pa_cons (pe_ix ix_list (pv 4) (pv 5) (fun _ _ => rfl)) pa_nil)))) (pg_name (i := 6) nd rfl (Or.inl rfl)) (pss_one (ps_if (pt_cmp (pc_dnotin (hu_of hr) (pv 6) (pv 3))) (pss_cons (ps_asg (pe_ix ix_list (pv 4) (pv 5) (fun _ _ => rfl)) (pg_sub (pv 3) (pv 6) (set_dict (hu_of hr))))
 (pss_one (ps_expr (pe_bm PySem.F.plainAttrs_list PySem.F.slot_list_append PySem.F.type_list_append mt_append (pv 4) (pa_cons (pv 6) pa_nil))))) pss_nil)))) pss_nil)))
 (pss_cons (ps_set (i := 7) nd rfl (Or.inl rfl) (pe_lst pa_nil))
 (pss_cons (ps_set (i := 8) nd rfl (Or.inl rfl) (pv 2))
 (pss_cons (ps_for PassesOwn.never rfl (pi_range1 (by rfl) bi.range_ (pa_cons (pe_callB call_len_seq (by rfl) bi.len_ PySem.boot_len (pa_cons (pv 4) pa_nil)) pa_nil)) (pg_name (i := 5) nd rfl (Or.inl rfl)) (pss_one (ps_if (pt_cmp (DLd.pc_dinM (hu_of hr) (pv 8) (pv 3))) (pss_cons (ps_expr (pe_bm PySem.F.plainAttrs_list PySem.F.slot_list_append PySem.F.type_list_append mt_append (pv 7) (pa_cons (pv 8) pa_nil)))
 (pss_one (ps_set (i := 8) nd rfl (Or.inl rfl) (pe_dget (hu_of hr) (pv 3) (pv 8) (fun _ _ => rfl))))) pss_nil)))
 (pss_one (ps_ret (pe_callTy call_tuple_of (by rfl) bi.tuple_ (by decide +kernel) (pa_cons (pe_revL (pv 7)) pa_nil))))))))))
abbrev s_law_turned_row : Stmt := topS 30
theorem sc_law_turned_row : FnScope ["row", "pair"] ["row"] (defScope s_law_turned_row) := ⟨rfl, rfl, rfl, by decide +kernel, rfl, by decide +kernel, by decide +kernel⟩
theorem pss_law_turned_row {P : Program} {w : World} {K : PySem.W.Frag} {mg : Str → Option Value} {base : Heap} {f : Addr} {k : Nat} (bi : BI mg) 
  (cdv : Value) (A : Around) (outer : List PySem.Env) (s : Shared) (H : Hp) (E : XK) (hr : Room k (A.deeper (envOfC "_law_turned_row" (defScope s_law_turned_row) s.heap.objs.size f cdv))) :
  PSs (cxOf CX0 P w K mg base ["row", "pair"] "_law_turned_row" (defScope s_law_turned_row) f cdv A outer s H E).nox (defBody s_law_turned_row) (t_law_turned_row K) := by
  have nd := sc_law_turned_row.nd
  exact (pss_one (ps_ret (pe_callTy call_tuple_of (by rfl) bi.tuple_ (by decide +kernel) (pa_cons (pe_lc (own := [("pair", 1)]) (wi := (iTup K (tVar 0))) (g := (gName 1)) (tt := tYes) (te := (tTup (tCons (tOp (rIxT K) (tVar 1) (tC (.int 1))) (tCons (tOp (rIxT K) (tVar 1) (tC (.int 0))) tNil)))) rfl nd (pi_tup (pv 0)) (blkOk_by (own := [("pair", 1)]) (by show blkC ["row", "pair"] (defScope s_law_turned_row) _ [("pair", 1)] = true; decide +kernel)) (fun _ _ _ _ _ => (pg_name (i := 1) nd rfl (Or.inl rfl))) (fun _ _ _ _ _ => pts_nil) (fun _ _ _ _ _ => (pe_tup (pa_cons (pe_ix ix_tup (pv 1) pe_int (fun _ _ => rfl)) (pa_cons (pe_ix ix_tup (pv 1) pe_int (fun _ _ => rfl)) pa_nil))))) pa_nil))))
abbrev s_law_bent_row : Stmt := topS 31
theorem sc_law_bent_row : FnScope ["bag", "net", "row", "k", "kind", "pair"] ["bag", "net", "row"] (defScope s_law_bent_row) := ⟨rfl, rfl, rfl, by decide +kernel, rfl, by decide +kernel, by decide +kernel⟩
theorem pss_law_bent_row {P : Program} {w : World} {K : PySem.W.Frag} {mg : Str → Option Value} {base : Heap} {f : Addr} {k : Nat} (bi : BI mg) {S_law_turned_row : Spec} {k_law_turned_row : Nat} (l_law_turned_row : k_law_turned_row ≤ k) (h_law_turned_row : HasFn P w K mg base k_law_turned_row "_law_turned_row" ["row"] S_law_turned_row) {S_law_draw : Spec} {k_law_draw : Nat} (l_law_draw : k_law_draw ≤ k) (h_law_draw : HasFn P w K mg base k_law_draw "_law_draw" ["bag", "many"] S_law_draw) {S_law_pick : Spec} {k_law_pick : Nat} (l_law_pick : k_law_pick ≤ k) (h_law_pick : HasFn P w K mg base k_law_pick "_law_pick" ["bag", "things"] S_law_pick)
  (cdv : Value) (A : Around) (outer : List PySem.Env) (s : Shared) (H : Hp) (E : XK) (hr : Room k (A.deeper (envOfC "_law_bent_row" (defScope s_law_bent_row) s.heap.objs.size f cdv))) :
  PSs (cxOf CX0 P w K mg base ["bag", "net", "row", "k", "kind", "pair"] "_law_bent_row" (defScope s_law_bent_row) f cdv A outer s H E).nox (defBody s_law_bent_row) (t_law_bent_row K S_law_turned_row S_law_draw S_law_pick) := by
  obtain ⟨f_law_turned_row, fd_law_turned_row, m_law_turned_row, kp_law_turned_row, b_law_turned_row, G_law_turned_row⟩ := h_law_turned_row
  obtain ⟨f_law_draw, fd_law_draw, m_law_draw, kp_law_draw, b_law_draw, G_law_draw⟩ := h_law_draw
  obtain ⟨f_law_pick, fd_law_pick, m_law_pick, kp_law_pick, b_law_pick, G_law_pick⟩ := h_law_pick
  have nd := sc_law_bent_row.nd
  exact (pss_cons (ps_set (i := 3) nd rfl (Or.inl rfl) (pe_call G_law_draw (hr.mono l_law_draw) (by rfl) m_law_draw kp_law_draw b_law_draw .nil pass0 (pa_cons (pv 0) (pa_cons (pe_callB call_len_seq (by rfl) bi.len_ PySem.boot_len (pa_cons (pv 2) pa_nil)) pa_nil))))
 (pss_cons (ps_set (i := 4) nd rfl (Or.inl rfl) (pe_call G_law_draw (hr.mono l_law_draw) (by rfl) m_law_draw kp_law_draw b_law_draw .nil pass0 (pa_cons (pv 0) (pa_cons pe_int pa_nil))))
 (pss_cons (ps_set (i := 5) nd rfl (Or.inl rfl) (pe_ix ix_tup (pv 2) (pv 3) (fun _ _ => rfl)))
 (pss_cons (ps_if (pt_cmpR op_eq (pv 4) pe_int (nomark _)) (pss_one (ps_ret (pe_op op_catA (pe_slice sl_tupA (pv 2) po_none (po_some (pv 3))) (pe_slice sl_tupA (pv 2) (po_some (pe_op op_add (pv 3) pe_int)) po_none)))) pss_nil)
 (pss_cons (ps_if (pt_cmpR op_eq (pv 4) pe_int (nomark _)) (pss_one (ps_ret (pe_op op_catA (pe_op op_catA (pe_slice sl_tupA (pv 2) po_none (po_some (pv 3))) (pe_tup (pa_cons (pv 5) pa_nil))) (pe_slice sl_tupA (pv 2) (po_some (pv 3)) po_none)))) pss_nil)
 (pss_cons (ps_if (pt_cmpR op_eq (pv 4) pe_int (nomark _)) (pss_one (ps_set (i := 5) nd rfl (Or.inl rfl) (pe_tup (pa_cons (pe_ix ix_tup (pv 5) pe_int (fun _ _ => rfl)) (pa_cons (pe_ix ix_tup (pv 5) pe_int (fun _ _ => rfl)) pa_nil))))) pss_nil)
 (pss_cons (ps_if (pt_cmpR op_eq (pv 4) pe_int (nomark _)) (pss_one (ps_set (i := 5) nd rfl (Or.inl rfl) (pe_tup (pa_cons (pe_ix ix_tup (pv 5) pe_int (fun _ _ => rfl)) (pa_cons (pe_ix ix_tup (pv 5) pe_int (fun _ _ => rfl)) pa_nil))))) pss_nil)
 (pss_cons (ps_if (pt_cmpR op_eq (pv 4) pe_int (nomark _)) (pss_one (ps_set (i := 5) nd rfl (Or.inl rfl) (pe_tup (pa_cons (pe_ix ix_tup (pv 5) pe_int (fun _ _ => rfl)) (pa_cons (pe_op op_add (pe_callB call_len_seq (by rfl) bi.len_ PySem.boot_len (pa_cons (pe_ix ix_tup (pv 1) pe_int (fun _ _ => rfl)) pa_nil)) (pe_call G_law_pick (hr.mono l_law_pick) (by rfl) m_law_pick kp_law_pick b_law_pick .nil pass0 (pa_cons (pv 0) (pa_cons (pe_lst (pa_cons pe_int (pa_cons pe_int (pa_cons (pe_op op_pow pe_int pe_int) pa_nil)))) pa_nil)))) pa_nil))))) pss_nil)
 (pss_cons (ps_if (pt_cmpR op_eq (pv 4) pe_int (nomark _)) (pss_one (ps_set (i := 5) nd rfl (Or.inl rfl) (pe_tup (pa_cons (pe_op op_sub (pe_op op_sub pe_int pe_int) (pe_call G_law_draw (hr.mono l_law_draw) (by rfl) m_law_draw kp_law_draw b_law_draw .nil pass0 (pa_cons (pv 0) (pa_cons (pe_op op_add (pe_callB call_len_seq (by rfl) bi.len_ PySem.boot_len (pa_cons (pe_ix ix_tup (pv 1) pe_int (fun _ _ => rfl)) pa_nil)) pe_int) pa_nil)))) (pa_cons (pe_ix ix_tup (pv 5) pe_int (fun _ _ => rfl)) pa_nil))))) pss_nil)
 (pss_cons (ps_if (pt_cmpR op_eq (pv 4) pe_int (nomark _)) (pss_one (ps_set (i := 5) nd rfl (Or.inl rfl) (pe_tup (pa_cons (pe_call G_law_draw (hr.mono l_law_draw) (by rfl) m_law_draw kp_law_draw b_law_draw .nil pass0 (pa_cons (pv 0) (pa_cons (pe_callB call_len_seq (by rfl) bi.len_ PySem.boot_len (pa_cons (pe_ix ix_tup (pv 1) pe_int (fun _ _ => rfl)) pa_nil)) pa_nil))) (pa_cons (pe_call G_law_draw (hr.mono l_law_draw) (by rfl) m_law_draw kp_law_draw b_law_draw .nil pass0 (pa_cons (pv 0) (pa_cons (pe_callB call_len_seq (by rfl) bi.len_ PySem.boot_len (pa_cons (pe_ix ix_tup (pv 1) pe_int (fun _ _ => rfl)) pa_nil)) pa_nil))) pa_nil))))) pss_nil)
 (pss_cons (ps_if (pt_cmpR op_eq (pv 4) pe_int (nomark _)) (pss_one (ps_ret (DLd.pe_revT (pv 2)))) pss_nil)
 (pss_cons (ps_if (pt_cmpR op_eq (pv 4) pe_int (nomark _)) (pss_one (ps_ret (pe_call G_law_turned_row (hr.mono l_law_turned_row) (by rfl) m_law_turned_row kp_law_turned_row b_law_turned_row .nil pass0 (pa_cons (pv 2) pa_nil)))) pss_nil)
 (pss_cons (ps_if (pt_cmpR op_eq (pv 4) pe_int (nomark _)) (pss_one (ps_ret (pe_op op_catA (pv 2) (pe_slice sl_tupA (pe_call G_law_turned_row (hr.mono l_law_turned_row) (by rfl) m_law_turned_row kp_law_turned_row b_law_turned_row .nil pass0 (pa_cons (pv 2) pa_nil)) (po_some pe_int) po_none)))) pss_nil)
 (pss_one (ps_ret (pe_op op_catA (pe_op op_catA (pe_slice sl_tupA (pv 2) po_none (po_some (pv 3))) (pe_tup (pa_cons (pv 5) pa_nil))) (pe_slice sl_tupA (pv 2) (po_some (pe_op op_add (pv 3) pe_int)) po_none)))))))))))))))))
abbrev s_law_free_row : Stmt := topS 32
theorem sc_law_free_row : FnScope ["bag", "net", "many", "k"] ["bag", "net"] (defScope s_law_free_row) := ⟨rfl, rfl, rfl, by decide +kernel, rfl, by decide +kernel, by decide +kernel⟩
theorem pss_law_free_row {P : Program} {w : World} {K : PySem.W.Frag} {mg : Str → Option Value} {base : Heap} {f : Addr} {k : Nat} (bi : BI mg) {S_law_draw : Spec} {k_law_draw : Nat} (l_law_draw : k_law_draw ≤ k) (h_law_draw : HasFn P w K mg base k_law_draw "_law_draw" ["bag", "many"] S_law_draw)
  (cdv : Value) (A : Around) (outer : List PySem.Env) (s : Shared) (H : Hp) (E : XK) (hr : Room k (A.deeper (envOfC "_law_free_row" (defScope s_law_free_row) s.heap.objs.size f cdv))) :
  PSs (cxOf CX0 P w K mg base ["bag", "net", "many", "k"] "_law_free_row" (defScope s_law_free_row) f cdv A outer s H E).nox (defBody s_law_free_row) (t_law_free_row K S_law_draw) := by
  obtain ⟨f_law_draw, fd_law_draw, m_law_draw, kp_law_draw, b_law_draw, G_law_draw⟩ := h_law_draw
  have nd := sc_law_free_row.nd
  exact (pss_cons (ps_set (i := 2) nd rfl (Or.inr rfl) (pe_op op_add (pe_callB call_len_seq (by rfl) bi.len_ PySem.boot_len (pa_cons (pe_ix ix_tup (pv 1) pe_int (fun _ _ => rfl)) pa_nil)) pe_int))
 (pss_one (ps_ret (pe_callTy call_tuple_of (by rfl) bi.tuple_ (by decide +kernel) (pa_cons (pe_lc (own := [("k", 3)]) (wi := (iRng1 (tCons (tCall (spOf K S_law_draw) [] E0 (tCons (tVar 0) (tCons (tC (.int 5)) tNil))) tNil))) (g := (gName 3)) (tt := tYes) (te := (tTup (tCons (tOp rSub2 (tCall (spOf K S_law_draw) [] E0 (tCons (tVar 0) (tCons (tVar 2) tNil))) (tC (.int 1))) (tCons (tOp rSub2 (tCall (spOf K S_law_draw) [] E0 (tCons (tVar 0) (tCons (tVar 2) tNil))) (tC (.int 1))) tNil)))) rfl nd (pi_range1 (by rfl) bi.range_ (pa_cons (pe_call G_law_draw (hr.mono l_law_draw) (by rfl) m_law_draw kp_law_draw b_law_draw .nil pass0 (pa_cons (pv 0) (pa_cons pe_int pa_nil))) pa_nil)) (blkOk_by (own := [("k", 3)]) (by show blkC ["bag", "net", "many", "k"] (defScope s_law_free_row) _ [("k", 3)] = true; decide +kernel)) (fun _ _ _ _ _ => (pg_name (i := 3) nd rfl (Or.inl rfl))) (fun _ _ _ _ _ => pts_nil) (fun _ _ _ _ _ => (pe_tup (pa_cons (pe_op op_sub (pe_call G_law_draw (hr.mono l_law_draw) (by rfl) m_law_draw kp_law_draw b_law_draw .nil pass0 (pa_cons (pv 0) (pa_cons (pv 2) pa_nil))) pe_int) (pa_cons (pe_op op_sub (pe_call G_law_draw (hr.mono l_law_draw) (by rfl) m_law_draw kp_law_draw b_law_draw .nil pass0 (pa_cons (pv 0) (pa_cons (pv 2) pa_nil))) pe_int) pa_nil))))) pa_nil)))))
abbrev s_law_steps_told : Stmt := topS 33
theorem sc_law_steps_told : FnScope ["net", "joined", "pair", "due", "told"] ["net", "joined", "pair"] (defScope s_law_steps_told) := ⟨rfl, rfl, rfl, by decide +kernel, rfl, by decide +kernel, by decide +kernel⟩
theorem pss_law_steps_told {P : Program} {w : World} {K : PySem.W.Frag} {mg : Str → Option Value} {base : Heap} {f : Addr} {k : Nat} (bi : BI mg) {S_law_same : Spec} {k_law_same : Nat} (l_law_same : k_law_same ≤ k) (h_law_same : HasFn P w K mg base k_law_same "_law_same" ["got", "due"] S_law_same) {S_steps_from : Spec} {k_steps_from : Nat} (l_steps_from : k_steps_from ≤ k) (h_steps_from : HasFn P w K mg base k_steps_from "steps_from" ["net", "pair"] S_steps_from) {S_law_steps_due : Spec} {k_law_steps_due : Nat} (l_law_steps_due : k_law_steps_due ≤ k) (h_law_steps_due : HasFn P w K mg base k_law_steps_due "_law_steps_due" ["net", "joined", "pair"] S_law_steps_due)
  (cdv : Value) (A : Around) (outer : List PySem.Env) (s : Shared) (H : Hp) (E : XK) (hr : Room k (A.deeper (envOfC "_law_steps_told" (defScope s_law_steps_told) s.heap.objs.size f cdv))) :
  PSs (cxOf CX0 P w K mg base ["net", "joined", "pair", "due", "told"] "_law_steps_told" (defScope s_law_steps_told) f cdv A outer s H E).nox (defBody s_law_steps_told) (t_law_steps_told K S_law_same S_steps_from S_law_steps_due) := by
  obtain ⟨f_law_same, fd_law_same, m_law_same, kp_law_same, b_law_same, G_law_same⟩ := h_law_same
  obtain ⟨f_steps_from, fd_steps_from, m_steps_from, kp_steps_from, b_steps_from, G_steps_from⟩ := h_steps_from
  obtain ⟨f_law_steps_due, fd_law_steps_due, m_law_steps_due, kp_law_steps_due, b_law_steps_due, G_law_steps_due⟩ := h_law_steps_due
  have nd := sc_law_steps_told.nd
  exact (pss_cons (ps_set (i := 3) nd rfl (Or.inl rfl) (pe_call G_law_steps_due (hr.mono l_law_steps_due) (by rfl) m_law_steps_due kp_law_steps_due b_law_steps_due .nil pass0 (pa_cons (pv 0) (pa_cons (pv 1) (pa_cons (pv 2) pa_nil)))))
 (pss_cons (ps_set (i := 4) nd rfl (Or.inl rfl) (pe_call G_steps_from (hr.mono l_steps_from) (by rfl) m_steps_from kp_steps_from b_steps_from .nil pass0 (pa_cons (pv 0) (pa_cons (pv 2) pa_nil))))
 (pss_cons (ps_if (pt_not (pt_val (pe_call G_law_same (hr.mono l_law_same) (by rfl) m_law_same kp_law_same b_law_same .nil pass0 (pa_cons (pv 4) (pa_cons (pv 3) pa_nil))))) (pss_one (ps_ret pe_bl)) pss_nil)
 (pss_cons (ps_expr (pe_bm PySem.F.plainAttrs_list PySem.F.slot_list_append PySem.F.type_list_append mt_append (pv 4) (pa_cons (pe_tup (pa_cons pe_int (pa_cons pe_int pa_nil))) pa_nil)))
 (pss_one (ps_ret (pe_call G_law_same (hr.mono l_law_same) (by rfl) m_law_same kp_law_same b_law_same .nil pass0 (pa_cons (pe_call G_steps_from (hr.mono l_steps_from) (by rfl) m_steps_from kp_steps_from b_steps_from .nil pass0 (pa_cons (pv 0) (pa_cons (pv 2) pa_nil))) (pa_cons (pv 3) pa_nil)))))))))
abbrev s_law_row_told : Stmt := topS 34
theorem sc_law_row_told : FnScope ["net", "joined", "row", "due"] ["net", "joined", "row"] (defScope s_law_row_told) := ⟨rfl, rfl, rfl, by decide +kernel, rfl, by decide +kernel, by decide +kernel⟩
theorem pss_law_row_told {P : Program} {w : World} {K : PySem.W.Frag} {mg : Str → Option Value} {base : Heap} {f : Addr} {k : Nat} (bi : BI mg) {S_law_same : Spec} {k_law_same : Nat} (l_law_same : k_law_same ≤ k) (h_law_same : HasFn P w K mg base k_law_same "_law_same" ["got", "due"] S_law_same) {S_is_exchange : Spec} {k_is_exchange : Nat} (l_is_exchange : k_is_exchange ≤ k) (h_is_exchange : HasFn P w K mg base k_is_exchange "is_exchange" ["net", "walk"] S_is_exchange) {S_is_walk : Spec} {k_is_walk : Nat} (l_is_walk : k_is_walk ≤ k) (h_is_walk : HasFn P w K mg base k_is_walk "is_walk" ["net", "walk"] S_is_walk) {S_law_walk_due : Spec} {k_law_walk_due : Nat} (l_law_walk_due : k_law_walk_due ≤ k) (h_law_walk_due : HasFn P w K mg base k_law_walk_due "_law_walk_due" ["net", "joined", "row"] S_law_walk_due)
  (cdv : Value) (A : Around) (outer : List PySem.Env) (s : Shared) (H : Hp) (E : XK) (hr : Room k (A.deeper (envOfC "_law_row_told" (defScope s_law_row_told) s.heap.objs.size f cdv))) :
  PSs (cxOf CX0 P w K mg base ["net", "joined", "row", "due"] "_law_row_told" (defScope s_law_row_told) f cdv A outer s H E).nox (defBody s_law_row_told) (t_law_row_told K S_law_same S_is_exchange S_is_walk S_law_walk_due) := by
  obtain ⟨f_law_same, fd_law_same, m_law_same, kp_law_same, b_law_same, G_law_same⟩ := h_law_same
  obtain ⟨f_is_exchange, fd_is_exchange, m_is_exchange, kp_is_exchange, b_is_exchange, G_is_exchange⟩ := h_is_exchange
  obtain ⟨f_is_walk, fd_is_walk, m_is_walk, kp_is_walk, b_is_walk, G_is_walk⟩ := h_is_walk
  obtain ⟨f_law_walk_due, fd_law_walk_due, m_law_walk_due, kp_law_walk_due, b_law_walk_due, G_law_walk_due⟩ := h_law_walk_due
  have nd := sc_law_row_told.nd
  exact (pss_cons (ps_set (i := 3) nd rfl (Or.inl rfl) (pe_call G_law_walk_due (hr.mono l_law_walk_due) (by rfl) m_law_walk_due kp_law_walk_due b_law_walk_due .nil pass0 (pa_cons (pv 0) (pa_cons (pv 1) (pa_cons (pv 2) pa_nil)))))
 (pss_cons (ps_if (pt_not (pt_val (pe_call G_law_same (hr.mono l_law_same) (by rfl) m_law_same kp_law_same b_law_same .nil pass0 (pa_cons (pe_call G_is_walk (hr.mono l_is_walk) (by rfl) m_is_walk kp_is_walk b_is_walk .nil pass0 (pa_cons (pv 0) (pa_cons (pv 2) pa_nil))) (pa_cons (pv 3) pa_nil))))) (pss_one (ps_ret pe_bl)) pss_nil)
 (pss_one (ps_ret (pe_call G_law_same (hr.mono l_law_same) (by rfl) m_law_same kp_law_same b_law_same .nil pass0 (pa_cons (pe_call G_is_exchange (hr.mono l_is_exchange) (by rfl) m_is_exchange kp_is_exchange b_is_exchange .nil pass0 (pa_cons (pv 0) (pa_cons (pv 2) pa_nil))) (pa_cons (pe_and (pv 3) (pe_one (pe_cmpR (op_eqD (hd_of hr)) (pe_ix ix_tup (pv 2) pe_int (fun _ _ => rfl)) (pe_tup (pa_cons (pe_ix ix_tup (pe_ix ix_tup (pv 2) (pe_un un_neg pe_int) (fun _ _ => rfl)) pe_int (fun _ _ => rfl)) (pa_cons (pe_ix ix_tup (pe_ix ix_tup (pv 2) (pe_un un_neg pe_int) (fun _ _ => rfl)) pe_int (fun _ _ => rfl)) pa_nil))) (nomark _)))) pa_nil)))))))
abbrev s_law : Stmt := topS 35
theorem sc_law : FnScope ["script", "bag", "net", "joined", "near", "pairs", "rows", "many", "k", "pair", "walk", "way", "row"] ["script"] (defScope s_law) := ⟨rfl, rfl, rfl, by decide +kernel, rfl, by decide +kernel, by decide +kernel⟩
theorem pss_law {P : Program} {w : World} {K : PySem.W.Frag} {mg : Str → Option Value} {base : Heap} {f : Addr} {k : Nat} (bi : BI mg) {S_law_row_told : Spec} {k_law_row_told : Nat} (l_law_row_told : k_law_row_told ≤ k) (h_law_row_told : HasFn P w K mg base k_law_row_told "_law_row_told" ["net", "joined", "row"] S_law_row_told) {S_law_free_row : Spec} {k_law_free_row : Nat} (l_law_free_row : k_law_free_row ≤ k) (h_law_free_row : HasFn P w K mg base k_law_free_row "_law_free_row" ["bag", "net"] S_law_free_row) {S_law_bent_row : Spec} {k_law_bent_row : Nat} (l_law_bent_row : k_law_bent_row ≤ k) (h_law_bent_row : HasFn P w K mg base k_law_bent_row "_law_bent_row" ["bag", "net", "row"] S_law_bent_row) {S_law_way : Spec} {k_law_way : Nat} (l_law_way : k_law_way ≤ k) (h_law_way : HasFn P w K mg base k_law_way "_law_way" ["near", "first", "last"] S_law_way) {S_law_wander : Spec} {k_law_wander : Nat} (l_law_wander : k_law_wander ≤ k) (h_law_wander : HasFn P w K mg base k_law_wander "_law_wander" ["bag", "net", "pair", "most"] S_law_wander) {S_law_pick : Spec} {k_law_pick : Nat} (l_law_pick : k_law_pick ≤ k) (h_law_pick : HasFn P w K mg base k_law_pick "_law_pick" ["bag", "things"] S_law_pick) {S_law_steps_told : Spec} {k_law_steps_told : Nat} (l_law_steps_told : k_law_steps_told ≤ k) (h_law_steps_told : HasFn P w K mg base k_law_steps_told "_law_steps_told" ["net", "joined", "pair"] S_law_steps_told) {S_law_draw : Spec} {k_law_draw : Nat} (l_law_draw : k_law_draw ≤ k) (h_law_draw : HasFn P w K mg base k_law_draw "_law_draw" ["bag", "many"] S_law_draw) {S_law_pairs : Spec} {k_law_pairs : Nat} (l_law_pairs : k_law_pairs ≤ k) (h_law_pairs : HasFn P w K mg base k_law_pairs "_law_pairs" ["net"] S_law_pairs) {S_law_near : Spec} {k_law_near : Nat} (l_law_near : k_law_near ≤ k) (h_law_near : HasFn P w K mg base k_law_near "_law_near" ["net"] S_law_near) {S_law_joined : Spec} {k_law_joined : Nat} (l_law_joined : k_law_joined ≤ k) (h_law_joined : HasFn P w K mg base k_law_joined "_law_joined" ["net"] S_law_joined) {S_law_some_net : Spec} {k_law_some_net : Nat} (l_law_some_net : k_law_some_net ≤ k) (h_law_some_net : HasFn P w K mg base k_law_some_net "_law_some_net" ["bag"] S_law_some_net) {S_law_bag : Spec} {k_law_bag : Nat} (l_law_bag : k_law_bag ≤ k) (h_law_bag : HasFn P w K mg base k_law_bag "_law_bag" ["script"] S_law_bag)
  (cdv : Value) (A : Around) (outer : List PySem.Env) (s : Shared) (H : Hp) (E : XK) (hr : Room k (A.deeper (envOfC "law" (defScope s_law) s.heap.objs.size f cdv))) :
  PSs (cxOf CX0 P w K mg base ["script", "bag", "net", "joined", "near", "pairs", "rows", "many", "k", "pair", "walk", "way", "row"] "law" (defScope s_law) f cdv A outer s H E).nox (defBody s_law) (t_law K S_law_row_told S_law_free_row S_law_bent_row S_law_way S_law_wander S_law_pick S_law_steps_told S_law_draw S_law_pairs S_law_near S_law_joined S_law_some_net S_law_bag) := by
  obtain ⟨f_law_row_told, fd_law_row_told, m_law_row_told, kp_law_row_told, b_law_row_told, G_law_row_told⟩ := h_law_row_told
  obtain ⟨f_law_free_row, fd_law_free_row, m_law_free_row, kp_law_free_row, b_law_free_row, G_law_free_row⟩ := h_law_free_row
  obtain ⟨f_law_bent_row, fd_law_bent_row, m_law_bent_row, kp_law_bent_row, b_law_bent_row, G_law_bent_row⟩ := h_law_bent_row
  obtain ⟨f_law_way, fd_law_way, m_law_way, kp_law_way, b_law_way, G_law_way⟩ := h_law_way
  obtain ⟨f_law_wander, fd_law_wander, m_law_wander, kp_law_wander, b_law_wander, G_law_wander⟩ := h_law_wander
  obtain ⟨f_law_pick, fd_law_pick, m_law_pick, kp_law_pick, b_law_pick, G_law_pick⟩ := h_law_pick
  obtain ⟨f_law_steps_told, fd_law_steps_told, m_law_steps_told, kp_law_steps_told, b_law_steps_told, G_law_steps_told⟩ := h_law_steps_told
  obtain ⟨f_law_draw, fd_law_draw, m_law_draw, kp_law_draw, b_law_draw, G_law_draw⟩ := h_law_draw
  obtain ⟨f_law_pairs, fd_law_pairs, m_law_pairs, kp_law_pairs, b_law_pairs, G_law_pairs⟩ := h_law_pairs
  obtain ⟨f_law_near, fd_law_near, m_law_near, kp_law_near, b_law_near, G_law_near⟩ := h_law_near
  obtain ⟨f_law_joined, fd_law_joined, m_law_joined, kp_law_joined, b_law_joined, G_law_joined⟩ := h_law_joined
  obtain ⟨f_law_some_net, fd_law_some_net, m_law_some_net, kp_law_some_net, b_law_some_net, G_law_some_net⟩ := h_law_some_net
  obtain ⟨f_law_bag, fd_law_bag, m_law_bag, kp_law_bag, b_law_bag, G_law_bag⟩ := h_law_bag
  have nd := sc_law.nd
  exact (pss_cons (ps_set (i := 1) nd rfl (Or.inl rfl) (pe_call G_law_bag (hr.mono l_law_bag) (by rfl) m_law_bag kp_law_bag b_law_bag .nil pass0 (pa_cons (pv 0) pa_nil)))
 (pss_cons (ps_set (i := 2) nd rfl (Or.inl rfl) (pe_call G_law_some_net (hr.mono l_law_some_net) (by rfl) m_law_some_net kp_law_some_net b_law_some_net .nil pass0 (pa_cons (pv 1) pa_nil)))
 (pss_cons (ps_set (i := 3) nd rfl (Or.inl rfl) (pe_call G_law_joined (hr.mono l_law_joined) (by rfl) m_law_joined kp_law_joined b_law_joined .nil pass0 (pa_cons (pv 2) pa_nil)))
 (pss_cons (ps_set (i := 4) nd rfl (Or.inl rfl) (pe_call G_law_near (hr.mono l_law_near) (by rfl) m_law_near kp_law_near b_law_near .nil pass0 (pa_cons (pv 2) pa_nil)))
 (pss_cons (ps_set (i := 5) nd rfl (Or.inl rfl) (pe_call G_law_pairs (hr.mono l_law_pairs) (by rfl) m_law_pairs kp_law_pairs b_law_pairs .nil pass0 (pa_cons (pv 2) pa_nil)))
 (pss_cons (ps_set (i := 6) nd rfl (Or.inl rfl) (pe_lst (pa_cons (pe_tup pa_nil) (pa_cons (pe_tup (pa_cons (pe_tup (pa_cons pe_int (pa_cons pe_int pa_nil))) pa_nil)) (pa_cons (pe_tup (pa_cons (pe_tup (pa_cons pe_int (pa_cons (pe_callB call_len_seq (by rfl) bi.len_ PySem.boot_len (pa_cons (pe_ix ix_tup (pv 2) pe_int (fun _ _ => rfl)) pa_nil)) pa_nil))) pa_nil)) (pa_cons (pe_tup (pa_cons (pe_tup (pa_cons (pe_un un_neg pe_int) (pa_cons pe_int pa_nil))) pa_nil)) pa_nil))))))
 (pss_cons (ps_set (i := 7) nd rfl (Or.inl rfl) pe_int)
 (pss_cons (ps_if (pt_cmpR op_gt (pe_callB call_len_seq (by rfl) bi.len_ PySem.boot_len (pa_cons (pv 5) pa_nil)) pe_int (nomark _)) (pss_one (ps_set (i := 7) nd rfl (Or.inl rfl) (pe_op op_add pe_int (pe_call G_law_draw (hr.mono l_law_draw) (by rfl) m_law_draw kp_law_draw b_law_draw .nil pass0 (pa_cons (pv 1) (pa_cons pe_int pa_nil)))))) pss_nil)
 (pss_cons (ps_for PassesOwn.never rfl (pi_range1 (by rfl) bi.range_ (pa_cons (pv 7) pa_nil)) (pg_name (i := 8) nd rfl (Or.inl rfl)) (pss_cons (ps_set (i := 9) nd rfl (Or.inl rfl) (pe_call G_law_pick (hr.mono l_law_pick) (by rfl) m_law_pick kp_law_pick b_law_pick .nil pass0 (pa_cons (pv 1) (pa_cons (pv 5) pa_nil))))
 (pss_cons (ps_if (pt_cmpR op_eq (pe_call G_law_draw (hr.mono l_law_draw) (by rfl) m_law_draw kp_law_draw b_law_draw .nil pass0 (pa_cons (pv 1) (pa_cons pe_int pa_nil))) pe_int (nomark _)) (pss_one (ps_set (i := 9) nd rfl (Or.inl rfl) (pe_tup (pa_cons (pe_ix ix_tup (pv 9) pe_int (fun _ _ => rfl)) (pa_cons (pe_ix ix_tup (pv 9) pe_int (fun _ _ => rfl)) pa_nil))))) pss_nil)
 (pss_cons (ps_if (pt_not (pt_val (pe_call G_law_steps_told (hr.mono l_law_steps_told) (by rfl) m_law_steps_told kp_law_steps_told b_law_steps_told .nil pass0 (pa_cons (pv 2) (pa_cons (pv 3) (pa_cons (pv 9) pa_nil)))))) (pss_one (ps_ret pe_bl)) pss_nil)
 (pss_cons (ps_set (i := 10) nd rfl (Or.inl rfl) (pe_call G_law_wander (hr.mono l_law_wander) (by rfl) m_law_wander kp_law_wander b_law_wander .nil pass0 (pa_cons (pv 1) (pa_cons (pv 2) (pa_cons (pv 9) (pa_cons (pe_call G_law_pick (hr.mono l_law_pick) (by rfl) m_law_pick kp_law_pick b_law_pick .nil pass0 (pa_cons (pv 1) (pa_cons (pe_lst (pa_cons pe_int (pa_cons pe_int (pa_cons pe_int (pa_cons pe_int pa_nil))))) pa_nil))) pa_nil))))))
 (pss_cons (ps_expr (pe_bm PySem.F.plainAttrs_list PySem.F.slot_list_append PySem.F.type_list_append mt_append (pv 6) (pa_cons (pv 10) pa_nil)))
 (pss_cons (ps_expr (pe_bm PySem.F.plainAttrs_list PySem.F.slot_list_append PySem.F.type_list_append mt_append (pv 6) (pa_cons (pe_call G_law_bent_row (hr.mono l_law_bent_row) (by rfl) m_law_bent_row kp_law_bent_row b_law_bent_row .nil pass0 (pa_cons (pv 1) (pa_cons (pv 2) (pa_cons (pv 10) pa_nil)))) pa_nil)))
 (pss_cons (ps_set (i := 11) nd rfl (Or.inl rfl) (pe_call G_law_way (hr.mono l_law_way) (by rfl) m_law_way kp_law_way b_law_way .nil pass0 (pa_cons (pv 4) (pa_cons (pv 9) (pa_cons (pe_tup (pa_cons (pe_ix ix_tup (pv 9) pe_int (fun _ _ => rfl)) (pa_cons (pe_ix ix_tup (pv 9) pe_int (fun _ _ => rfl)) pa_nil))) pa_nil)))))
 (pss_one (ps_if (pt_cmpR op_gt (pe_callB call_len_seq (by rfl) bi.len_ PySem.boot_len (pa_cons (pv 11) pa_nil)) pe_int (nomark _)) (pss_cons (ps_expr (pe_bm PySem.F.plainAttrs_list PySem.F.slot_list_append PySem.F.type_list_append mt_append (pv 6) (pa_cons (pv 11) pa_nil)))
 (pss_one (ps_expr (pe_bm PySem.F.plainAttrs_list PySem.F.slot_list_append PySem.F.type_list_append mt_append (pv 6) (pa_cons (pe_call G_law_bent_row (hr.mono l_law_bent_row) (by rfl) m_law_bent_row kp_law_bent_row b_law_bent_row .nil pass0 (pa_cons (pv 1) (pa_cons (pv 2) (pa_cons (pv 11) pa_nil)))) pa_nil))))) pss_nil))))))))))
 (pss_cons (ps_expr (pe_bm PySem.F.plainAttrs_list PySem.F.slot_list_append PySem.F.type_list_append mt_append (pv 6) (pa_cons (pe_call G_law_free_row (hr.mono l_law_free_row) (by rfl) m_law_free_row kp_law_free_row b_law_free_row .nil pass0 (pa_cons (pv 1) (pa_cons (pv 2) pa_nil))) pa_nil)))
 (pss_cons (ps_for PassesOwn.never rfl (pi_list (pv 6)) (pg_name (i := 12) nd rfl (Or.inl rfl)) (pss_one (ps_if (pt_not (pt_val (pe_call G_law_row_told (hr.mono l_law_row_told) (by rfl) m_law_row_told kp_law_row_told b_law_row_told .nil pass0 (pa_cons (pv 2) (pa_cons (pv 3) (pa_cons (pv 12) pa_nil)))))) (pss_one (ps_ret pe_bl)) pss_nil)))
 (pss_one (ps_ret pe_bl)))))))))))))
theorem ok_joints {P : Program} {w : World} {K : PySem.W.Frag} {mg : Str → Option Value} {base : Heap} {f : Addr} {fd : FuncData} (k : Nat) (F : Fun K "joints" "joints" s_joints f fd) (m : mg "joints" = some (.ref f)) (b : Binds K fd ["net"] []) (bi : BI mg)  : HasFn P w K mg base (k + 1) "joints" ["net"] S_joints :=
  has_of F m b (fn_data [] (t_joints K ) F sc_joints (fun ads Q h => by repeat (first | (obtain ⟨e, _⟩ := h; exact congrArg List.length e) | obtain ⟨_, h⟩ := h)) (fun cdv A outer s H E hr => pss_joints bi  cdv A outer s H E hr) fun ads Q h => xs_joints ads Q h)
theorem ok_turned_about {P : Program} {w : World} {K : PySem.W.Frag} {mg : Str → Option Value} {base : Heap} {f : Addr} {fd : FuncData} (k : Nat) (F : Fun K "turned_about" "turned_about" s_turned_about f fd) (m : mg "turned_about" = some (.ref f)) (b : Binds K fd ["pair"] []) (bi : BI mg)  : HasFn P w K mg base (k + 1) "turned_about" ["pair"] S_turned_about :=
  has_of F m b (fn_data [] (t_turned_about K ) F sc_turned_about (fun ads Q h => by repeat (first | (obtain ⟨e, _⟩ := h; exact congrArg List.length e) | obtain ⟨_, h⟩ := h)) (fun cdv A outer s H E hr => pss_turned_about bi  cdv A outer s H E hr) fun ads Q h => xs_turned_about ads Q h)
theorem ok_reached {P : Program} {w : World} {K : PySem.W.Frag} {mg : Str → Option Value} {base : Heap} {f : Addr} {fd : FuncData} (k : Nat) (F : Fun K "reached" "reached" s_reached f fd) (m : mg "reached" = some (.ref f)) (b : Binds K fd ["joined", "pair"] []) (bi : BI mg)  : HasFn P w K mg base (k + 1) "reached" ["joined", "pair"] S_reached :=
  has_of F m b (fn_data [] (t_reached K ) F sc_reached (fun ads Q h => by repeat (first | (obtain ⟨e, _⟩ := h; exact congrArg List.length e) | obtain ⟨_, h⟩ := h)) (fun cdv A outer s H E hr => pss_reached bi  cdv A outer s H E hr) fun ads Q h => xs_reached ads Q h)
theorem ok_steps_from {P : Program} {w : World} {K : PySem.W.Frag} {mg : Str → Option Value} {base : Heap} {f : Addr} {fd : FuncData} (k : Nat) (F : Fun K "steps_from" "steps_from" s_steps_from f fd) (m : mg "steps_from" = some (.ref f)) (b : Binds K fd ["net", "pair"] []) (bi : BI mg) {k_reached : Nat} (l_reached : k_reached ≤ k) (h_reached : HasFn P w K mg base k_reached "reached" ["joined", "pair"] S_reached) {k_joints : Nat} (l_joints : k_joints ≤ k) (h_joints : HasFn P w K mg base k_joints "joints" ["net"] S_joints) : HasFn P w K mg base (k + 1) "steps_from" ["net", "pair"] S_steps_from :=
  has_of F m b (fn_data [] (t_steps_from K (S_reached) (S_joints)) F sc_steps_from (fun ads Q h => by repeat (first | (obtain ⟨e, _⟩ := h; exact congrArg List.length e) | obtain ⟨_, h⟩ := h)) (fun cdv A outer s H E hr => pss_steps_from bi l_reached h_reached l_joints h_joints cdv A outer s H E hr) fun ads Q h => xs_steps_from ads Q h)
theorem ok_is_pair {P : Program} {w : World} {K : PySem.W.Frag} {mg : Str → Option Value} {base : Heap} {f : Addr} {fd : FuncData} (k : Nat) (F : Fun K "_is_pair" "_is_pair" s_is_pair f fd) (m : mg "_is_pair" = some (.ref f)) (b : Binds K fd ["levels", "pair"] []) (bi : BI mg)  : HasFn P w K mg base (k + 1) "_is_pair" ["levels", "pair"] S_is_pair :=
  has_of F m b (fn_data [] (t_is_pair K ) F sc_is_pair (fun ads Q h => by repeat (first | (obtain ⟨e, _⟩ := h; exact congrArg List.length e) | obtain ⟨_, h⟩ := h)) (fun cdv A outer s H E hr => pss_is_pair bi  cdv A outer s H E hr) fun ads Q h => xs_is_pair ads Q h)
theorem ok_is_walk {P : Program} {w : World} {K : PySem.W.Frag} {mg : Str → Option Value} {base : Heap} {f : Addr} {fd : FuncData} (k : Nat) (F : Fun K "is_walk" "is_walk" s_is_walk f fd) (m : mg "is_walk" = some (.ref f)) (b : Binds K fd ["net", "walk"] []) (bi : BI mg) {k_reached : Nat} (l_reached : k_reached ≤ k) (h_reached : HasFn P w K mg base k_reached "reached" ["joined", "pair"] S_reached) {k_joints : Nat} (l_joints : k_joints ≤ k) (h_joints : HasFn P w K mg base k_joints "joints" ["net"] S_joints) {k_is_pair : Nat} (l_is_pair : k_is_pair ≤ k) (h_is_pair : HasFn P w K mg base k_is_pair "_is_pair" ["levels", "pair"] S_is_pair) : HasFn P w K mg base (k + 1) "is_walk" ["net", "walk"] S_is_walk :=
  has_of F m b (fn_data [] (t_is_walk K (S_reached) (S_joints) (S_is_pair)) F sc_is_walk (fun ads Q h => by repeat (first | (obtain ⟨e, _⟩ := h; exact congrArg List.length e) | obtain ⟨_, h⟩ := h)) (fun cdv A outer s H E hr => pss_is_walk bi l_reached h_reached l_joints h_joints l_is_pair h_is_pair cdv A outer s H E hr) fun ads Q h => xs_is_walk ads Q h)
theorem ok_is_exchange {P : Program} {w : World} {K : PySem.W.Frag} {mg : Str → Option Value} {base : Heap} {f : Addr} {fd : FuncData} (k : Nat) (F : Fun K "is_exchange" "is_exchange" s_is_exchange f fd) (m : mg "is_exchange" = some (.ref f)) (b : Binds K fd ["net", "walk"] []) (bi : BI mg) {k_turned_about : Nat} (l_turned_about : k_turned_about ≤ k) (h_turned_about : HasFn P w K mg base k_turned_about "turned_about" ["pair"] S_turned_about) {k_is_walk : Nat} (l_is_walk : k_is_walk ≤ k) (h_is_walk : HasFn P w K mg base k_is_walk "is_walk" ["net", "walk"] S_is_walk) : HasFn P w K mg base (k + 1) "is_exchange" ["net", "walk"] S_is_exchange :=
  has_of F m b (fn_data [] (t_is_exchange K (S_turned_about) (S_is_walk)) F sc_is_exchange (fun ads Q h => by repeat (first | (obtain ⟨e, _⟩ := h; exact congrArg List.length e) | obtain ⟨_, h⟩ := h)) (fun cdv A outer s H E hr => pss_is_exchange bi l_turned_about h_turned_about l_is_walk h_is_walk cdv A outer s H E hr) fun ads Q h => xs_is_exchange ads Q h)
theorem ok_law_bag {P : Program} {w : World} {K : PySem.W.Frag} {mg : Str → Option Value} {base : Heap} {f : Addr} {fd : FuncData} (k : Nat) (F : Fun K "_law_bag" "_law_bag" s_law_bag f fd) (m : mg "_law_bag" = some (.ref f)) (b : Binds K fd ["script"] []) (bi : BI mg)  : HasFn P w K mg base (k + 1) "_law_bag" ["script"] S_law_bag :=
  has_of F m b (fn_data [] (t_law_bag K ) F sc_law_bag (fun ads Q h => by repeat (first | (obtain ⟨e, _⟩ := h; exact congrArg List.length e) | obtain ⟨_, h⟩ := h)) (fun cdv A outer s H E hr => pss_law_bag bi  cdv A outer s H E hr) fun ads Q h => xs_law_bag ads Q h)
theorem ok_law_draw {P : Program} {w : World} {K : PySem.W.Frag} {mg : Str → Option Value} {base : Heap} {f : Addr} {fd : FuncData} (k : Nat) (F : Fun K "_law_draw" "_law_draw" s_law_draw f fd) (m : mg "_law_draw" = some (.ref f)) (b : Binds K fd ["bag", "many"] []) (bi : BI mg)  : HasFn P w K mg base (k + 1) "_law_draw" ["bag", "many"] S_law_draw :=
  has_of F m b (fn_data [0, 1] (t_law_draw K ) F sc_law_draw (fun ads Q h => by repeat (first | (obtain ⟨e, _⟩ := h; exact congrArg List.length e) | obtain ⟨_, h⟩ := h)) (fun cdv A outer s H E hr => pss_law_draw bi  cdv A outer s H E hr) fun ads Q h => xs_law_draw ads Q h)
theorem ok_law_pick {P : Program} {w : World} {K : PySem.W.Frag} {mg : Str → Option Value} {base : Heap} {f : Addr} {fd : FuncData} (k : Nat) (F : Fun K "_law_pick" "_law_pick" s_law_pick f fd) (m : mg "_law_pick" = some (.ref f)) (b : Binds K fd ["bag", "things"] []) (bi : BI mg) {k_law_draw : Nat} (l_law_draw : k_law_draw ≤ k) (h_law_draw : HasFn P w K mg base k_law_draw "_law_draw" ["bag", "many"] S_law_draw) : HasFn P w K mg base (k + 1) "_law_pick" ["bag", "things"] S_law_pick :=
  has_of F m b (fn_data [0, 1] (t_law_pick K (S_law_draw)) F sc_law_pick (fun ads Q h => by repeat (first | (obtain ⟨e, _⟩ := h; exact congrArg List.length e) | obtain ⟨_, h⟩ := h)) (fun cdv A outer s H E hr => pss_law_pick bi l_law_draw h_law_draw cdv A outer s H E hr) fun ads Q h => xs_law_pick ads Q h)
theorem ok_law_shuffle {P : Program} {w : World} {K : PySem.W.Frag} {mg : Str → Option Value} {base : Heap} {f : Addr} {fd : FuncData} (k : Nat) (F : Fun K "_law_shuffle" "_law_shuffle" s_law_shuffle f fd) (m : mg "_law_shuffle" = some (.ref f)) (b : Binds K fd ["bag", "things"] []) (bi : BI mg) {k_law_draw : Nat} (l_law_draw : k_law_draw ≤ k) (h_law_draw : HasFn P w K mg base k_law_draw "_law_draw" ["bag", "many"] S_law_draw) : HasFn P w K mg base (k + 1) "_law_shuffle" ["bag", "things"] S_law_shuffle :=
  has_of F m b (fn_data [0, 1] (t_law_shuffle K (S_law_draw)) F sc_law_shuffle (fun ads Q h => by repeat (first | (obtain ⟨e, _⟩ := h; exact congrArg List.length e) | obtain ⟨_, h⟩ := h)) (fun cdv A outer s H E hr => pss_law_shuffle bi l_law_draw h_law_draw cdv A outer s H E hr) fun ads Q h => xs_law_shuffle ads Q h)
theorem ok_law_whole {P : Program} {w : World} {K : PySem.W.Frag} {mg : Str → Option Value} {base : Heap} {f : Addr} {fd : FuncData} (k : Nat) (F : Fun K "_law_whole" "_law_whole" s_law_whole f fd) (m : mg "_law_whole" = some (.ref f)) (b : Binds K fd ["got"] []) (bi : BI mg)  : HasFn P w K mg base (k + 1) "_law_whole" ["got"] S_law_whole :=
  has_of F m b (fn_data [0] (t_law_whole K ) F sc_law_whole (fun ads Q h => by repeat (first | (obtain ⟨e, _⟩ := h; exact congrArg List.length e) | obtain ⟨_, h⟩ := h)) (fun cdv A outer s H E hr => pss_law_whole bi  cdv A outer s H E hr) fun ads Q h => xs_law_whole ads Q h)
theorem ok_law_same {P : Program} {w : World} {K : PySem.W.Frag} {mg : Str → Option Value} {base : Heap} {f : Addr} {fd : FuncData} {k n : Nat} (F : Fun K "_law_same" "_law_same" s_law_same f fd) (m : mg "_law_same" = some (.ref f)) (b : Binds K fd ["got", "due"] []) (bi : BI mg) (hs : HasFn P w K mg base k "_law_same" ["got", "due"] (S_same n)) {k_law_whole : Nat} (l_law_whole : k_law_whole ≤ k) (h_law_whole : HasFn P w K mg base k_law_whole "_law_whole" ["got"] S_law_whole) : HasFn P w K mg base (k + 1) "_law_same" ["got", "due"] (S_same (n + 1)) :=
  has_of F m b (fn_data [0, 1] (t_law_same K (S_same n) S_law_whole) F sc_law_same (fun ads Q h => by repeat (first | (obtain ⟨e, _⟩ := h; exact congrArg List.length e) | obtain ⟨_, h⟩ := h)) (fun cdv A outer s H E hr => pss_law_same bi (Nat.le_refl k) hs l_law_whole h_law_whole cdv A outer s H E hr) fun ads Q h => xs_law_same n ads Q h)
theorem ok_law_net {P : Program} {w : World} {K : PySem.W.Frag} {mg : Str → Option Value} {base : Heap} {f : Addr} {fd : FuncData} (k : Nat) (F : Fun K "_law_net" "_law_net" s_law_net f fd) (m : mg "_law_net" = some (.ref f)) (b : Binds K fd ["bag"] []) (bi : BI mg) {k_law_draw : Nat} (l_law_draw : k_law_draw ≤ k) (h_law_draw : HasFn P w K mg base k_law_draw "_law_draw" ["bag", "many"] S_law_draw) {k_law_pick : Nat} (l_law_pick : k_law_pick ≤ k) (h_law_pick : HasFn P w K mg base k_law_pick "_law_pick" ["bag", "things"] S_law_pick) : HasFn P w K mg base (k + 1) "_law_net" ["bag"] S_gen :=
  has_of F m b (fn_data [0] (t_law_net K (S_law_draw) (S_law_pick)) F sc_law_net (fun ads Q h => by repeat (first | (obtain ⟨e, _⟩ := h; exact congrArg List.length e) | obtain ⟨_, h⟩ := h)) (fun cdv A outer s H E hr => pss_law_net bi l_law_draw h_law_draw l_law_pick h_law_pick cdv A outer s H E hr) fun ads Q h => xs_law_net ads Q h)
theorem ok_law_near {P : Program} {w : World} {K : PySem.W.Frag} {mg : Str → Option Value} {base : Heap} {f : Addr} {fd : FuncData} (k : Nat) (F : Fun K "_law_near" "_law_near" s_law_near f fd) (m : mg "_law_near" = some (.ref f)) (b : Binds K fd ["net"] []) (bi : BI mg)  : HasFn P w K mg base (k + 1) "_law_near" ["net"] S_law_near :=
  has_of F m b (fn_data [] (t_law_near K ) F sc_law_near (fun ads Q h => by repeat (first | (obtain ⟨e, _⟩ := h; exact congrArg List.length e) | obtain ⟨_, h⟩ := h)) (fun cdv A outer s H E hr => pss_law_near bi  cdv A outer s H E hr) fun ads Q h => xs_law_near ads Q h)
theorem ok_law_steps {P : Program} {w : World} {K : PySem.W.Frag} {mg : Str → Option Value} {base : Heap} {f : Addr} {fd : FuncData} (k : Nat) (F : Fun K "_law_steps" "_law_steps" s_law_steps f fd) (m : mg "_law_steps" = some (.ref f)) (b : Binds K fd ["near", "pair"] []) (bi : BI mg)  : HasFn P w K mg base (k + 1) "_law_steps" ["near", "pair"] S_law_steps :=
  has_of F m b (fn_data [] (t_law_steps K ) F sc_law_steps (fun ads Q h => by repeat (first | (obtain ⟨e, _⟩ := h; exact congrArg List.length e) | obtain ⟨_, h⟩ := h)) (fun cdv A outer s H E hr => pss_law_steps bi  cdv A outer s H E hr) fun ads Q h => xs_law_steps ads Q h)
theorem ok_law_pairs {P : Program} {w : World} {K : PySem.W.Frag} {mg : Str → Option Value} {base : Heap} {f : Addr} {fd : FuncData} (k : Nat) (F : Fun K "_law_pairs" "_law_pairs" s_law_pairs f fd) (m : mg "_law_pairs" = some (.ref f)) (b : Binds K fd ["net"] []) (bi : BI mg)  : HasFn P w K mg base (k + 1) "_law_pairs" ["net"] S_law_pairs :=
  has_of F m b (fn_data [] (t_law_pairs K ) F sc_law_pairs (fun ads Q h => by repeat (first | (obtain ⟨e, _⟩ := h; exact congrArg List.length e) | obtain ⟨_, h⟩ := h)) (fun cdv A outer s H E hr => pss_law_pairs bi  cdv A outer s H E hr) fun ads Q h => xs_law_pairs ads Q h)
theorem ok_law_wander {P : Program} {w : World} {K : PySem.W.Frag} {mg : Str → Option Value} {base : Heap} {f : Addr} {fd : FuncData} (k : Nat) (F : Fun K "_law_wander" "_law_wander" s_law_wander f fd) (m : mg "_law_wander" = some (.ref f)) (b : Binds K fd ["bag", "net", "pair", "most"] []) (bi : BI mg) {k_law_draw : Nat} (l_law_draw : k_law_draw ≤ k) (h_law_draw : HasFn P w K mg base k_law_draw "_law_draw" ["bag", "many"] S_law_draw) {k_law_pick : Nat} (l_law_pick : k_law_pick ≤ k) (h_law_pick : HasFn P w K mg base k_law_pick "_law_pick" ["bag", "things"] S_law_pick) {k_law_steps : Nat} (l_law_steps : k_law_steps ≤ k) (h_law_steps : HasFn P w K mg base k_law_steps "_law_steps" ["near", "pair"] S_law_steps) {k_law_near : Nat} (l_law_near : k_law_near ≤ k) (h_law_near : HasFn P w K mg base k_law_near "_law_near" ["net"] S_law_near) : HasFn P w K mg base (k + 1) "_law_wander" ["bag", "net", "pair", "most"] S_law_wander :=
  has_of F m b (fn_data [0] (t_law_wander K (S_law_draw) (S_law_pick) (S_law_steps) (S_law_near)) F sc_law_wander (fun ads Q h => by repeat (first | (obtain ⟨e, _⟩ := h; exact congrArg List.length e) | obtain ⟨_, h⟩ := h)) (fun cdv A outer s H E hr => pss_law_wander bi l_law_draw h_law_draw l_law_pick h_law_pick l_law_steps h_law_steps l_law_near h_law_near cdv A outer s H E hr) fun ads Q h => xs_law_wander ads Q h)
theorem ok_law_deep_net {P : Program} {w : World} {K : PySem.W.Frag} {mg : Str → Option Value} {base : Heap} {f : Addr} {fd : FuncData} (k : Nat) (F : Fun K "_law_deep_net" "_law_deep_net" s_law_deep_net f fd) (m : mg "_law_deep_net" = some (.ref f)) (b : Binds K fd ["bag"] []) (bi : BI mg) {k_law_shuffle : Nat} (l_law_shuffle : k_law_shuffle ≤ k) (h_law_shuffle : HasFn P w K mg base k_law_shuffle "_law_shuffle" ["bag", "things"] S_law_shuffle) {k_law_draw : Nat} (l_law_draw : k_law_draw ≤ k) (h_law_draw : HasFn P w K mg base k_law_draw "_law_draw" ["bag", "many"] S_law_draw) {k_law_pick : Nat} (l_law_pick : k_law_pick ≤ k) (h_law_pick : HasFn P w K mg base k_law_pick "_law_pick" ["bag", "things"] S_law_pick) : HasFn P w K mg base (k + 1) "_law_deep_net" ["bag"] S_gen :=
  has_of F m b (fn_data [0] (t_law_deep_net K (S_law_shuffle) (S_law_draw) (S_law_pick)) F sc_law_deep_net (fun ads Q h => by repeat (first | (obtain ⟨e, _⟩ := h; exact congrArg List.length e) | obtain ⟨_, h⟩ := h)) (fun cdv A outer s H E hr => pss_law_deep_net bi l_law_shuffle h_law_shuffle l_law_draw h_law_draw l_law_pick h_law_pick cdv A outer s H E hr) fun ads Q h => xs_law_deep_net ads Q h)
theorem ok_law_renumbered {P : Program} {w : World} {K : PySem.W.Frag} {mg : Str → Option Value} {base : Heap} {f : Addr} {fd : FuncData} (k : Nat) (F : Fun K "_law_renumbered" "_law_renumbered" s_law_renumbered f fd) (m : mg "_law_renumbered" = some (.ref f)) (b : Binds K fd ["bag", "levels", "segments"] []) (bi : BI mg) {k_law_draw : Nat} (l_law_draw : k_law_draw ≤ k) (h_law_draw : HasFn P w K mg base k_law_draw "_law_draw" ["bag", "many"] S_law_draw) {k_law_shuffle : Nat} (l_law_shuffle : k_law_shuffle ≤ k) (h_law_shuffle : HasFn P w K mg base k_law_shuffle "_law_shuffle" ["bag", "things"] S_law_shuffle) : HasFn P w K mg base (k + 1) "_law_renumbered" ["bag", "levels", "segments"] S_law_renumbered :=
  has_of F m b (fn_data [0] (t_law_renumbered K (S_law_draw) (S_law_shuffle)) F sc_law_renumbered (fun ads Q h => by repeat (first | (obtain ⟨e, _⟩ := h; exact congrArg List.length e) | obtain ⟨_, h⟩ := h)) (fun cdv A outer s H E hr => pss_law_renumbered bi l_law_draw h_law_draw l_law_shuffle h_law_shuffle cdv A outer s H E hr) fun ads Q h => xs_law_renumbered ads Q h)
theorem ok_law_bent_net {P : Program} {w : World} {K : PySem.W.Frag} {mg : Str → Option Value} {base : Heap} {f : Addr} {fd : FuncData} (k : Nat) (F : Fun K "_law_bent_net" "_law_bent_net" s_law_bent_net f fd) (m : mg "_law_bent_net" = some (.ref f)) (b : Binds K fd ["bag"] []) (bi : BI mg) {k_law_renumbered : Nat} (l_law_renumbered : k_law_renumbered ≤ k) (h_law_renumbered : HasFn P w K mg base k_law_renumbered "_law_renumbered" ["bag", "levels", "segments"] S_law_renumbered) {k_law_draw : Nat} (l_law_draw : k_law_draw ≤ k) (h_law_draw : HasFn P w K mg base k_law_draw "_law_draw" ["bag", "many"] S_law_draw) {k_law_pick : Nat} (l_law_pick : k_law_pick ≤ k) (h_law_pick : HasFn P w K mg base k_law_pick "_law_pick" ["bag", "things"] S_law_pick) {k_law_shuffle : Nat} (l_law_shuffle : k_law_shuffle ≤ k) (h_law_shuffle : HasFn P w K mg base k_law_shuffle "_law_shuffle" ["bag", "things"] S_law_shuffle) : HasFn P w K mg base (k + 1) "_law_bent_net" ["bag"] S_gen :=
  has_of F m b (fn_data [0] (t_law_bent_net K (S_law_renumbered) (S_law_draw) (S_law_pick) (S_law_shuffle)) F sc_law_bent_net (fun ads Q h => by repeat (first | (obtain ⟨e, _⟩ := h; exact congrArg List.length e) | obtain ⟨_, h⟩ := h)) (fun cdv A outer s H E hr => pss_law_bent_net bi l_law_renumbered h_law_renumbered l_law_draw h_law_draw l_law_pick h_law_pick l_law_shuffle h_law_shuffle cdv A outer s H E hr) fun ads Q h => xs_law_bent_net ads Q h)
theorem ok_law_some_net {P : Program} {w : World} {K : PySem.W.Frag} {mg : Str → Option Value} {base : Heap} {f : Addr} {fd : FuncData} (k : Nat) (F : Fun K "_law_some_net" "_law_some_net" s_law_some_net f fd) (m : mg "_law_some_net" = some (.ref f)) (b : Binds K fd ["bag"] []) (bi : BI mg) {k_law_net : Nat} (l_law_net : k_law_net ≤ k) (h_law_net : HasFn P w K mg base k_law_net "_law_net" ["bag"] S_gen) {k_law_bent_net : Nat} (l_law_bent_net : k_law_bent_net ≤ k) (h_law_bent_net : HasFn P w K mg base k_law_bent_net "_law_bent_net" ["bag"] S_gen) {k_law_deep_net : Nat} (l_law_deep_net : k_law_deep_net ≤ k) (h_law_deep_net : HasFn P w K mg base k_law_deep_net "_law_deep_net" ["bag"] S_gen) {k_law_draw : Nat} (l_law_draw : k_law_draw ≤ k) (h_law_draw : HasFn P w K mg base k_law_draw "_law_draw" ["bag", "many"] S_law_draw) : HasFn P w K mg base (k + 1) "_law_some_net" ["bag"] S_gen :=
  has_of F m b (fn_data [0] (t_law_some_net K (S_gen) (S_gen) (S_gen) (S_law_draw)) F sc_law_some_net (fun ads Q h => by repeat (first | (obtain ⟨e, _⟩ := h; exact congrArg List.length e) | obtain ⟨_, h⟩ := h)) (fun cdv A outer s H E hr => pss_law_some_net bi l_law_net h_law_net l_law_bent_net h_law_bent_net l_law_deep_net h_law_deep_net l_law_draw h_law_draw cdv A outer s H E hr) fun ads Q h => xs_law_some_net ads Q h)
theorem ok_law_joined {P : Program} {w : World} {K : PySem.W.Frag} {mg : Str → Option Value} {base : Heap} {f : Addr} {fd : FuncData} (k : Nat) (F : Fun K "_law_joined" "_law_joined" s_law_joined f fd) (m : mg "_law_joined" = some (.ref f)) (b : Binds K fd ["net"] []) (bi : BI mg)  : HasFn P w K mg base (k + 1) "_law_joined" ["net"] S_law_joined :=
  has_of F m b (fn_data [] (t_law_joined K ) F sc_law_joined (fun ads Q h => by repeat (first | (obtain ⟨e, _⟩ := h; exact congrArg List.length e) | obtain ⟨_, h⟩ := h)) (fun cdv A outer s H E hr => pss_law_joined bi  cdv A outer s H E hr) fun ads Q h => xs_law_joined ads Q h)
theorem ok_law_steps_due {P : Program} {w : World} {K : PySem.W.Frag} {mg : Str → Option Value} {base : Heap} {f : Addr} {fd : FuncData} (k : Nat) (F : Fun K "_law_steps_due" "_law_steps_due" s_law_steps_due f fd) (m : mg "_law_steps_due" = some (.ref f)) (b : Binds K fd ["net", "joined", "pair"] []) (bi : BI mg)  : HasFn P w K mg base (k + 1) "_law_steps_due" ["net", "joined", "pair"] S_law_steps_due :=
  has_of F m b (fn_data [] (t_law_steps_due K ) F sc_law_steps_due (fun ads Q h => by repeat (first | (obtain ⟨e, _⟩ := h; exact congrArg List.length e) | obtain ⟨_, h⟩ := h)) (fun cdv A outer s H E hr => pss_law_steps_due bi  cdv A outer s H E hr) fun ads Q h => xs_law_steps_due ads Q h)
theorem ok_law_is_pair {P : Program} {w : World} {K : PySem.W.Frag} {mg : Str → Option Value} {base : Heap} {f : Addr} {fd : FuncData} (k : Nat) (F : Fun K "_law_is_pair" "_law_is_pair" s_law_is_pair f fd) (m : mg "_law_is_pair" = some (.ref f)) (b : Binds K fd ["net", "pair"] []) (bi : BI mg)  : HasFn P w K mg base (k + 1) "_law_is_pair" ["net", "pair"] S_law_is_pair :=
  has_of F m b (fn_data [] (t_law_is_pair K ) F sc_law_is_pair (fun ads Q h => by repeat (first | (obtain ⟨e, _⟩ := h; exact congrArg List.length e) | obtain ⟨_, h⟩ := h)) (fun cdv A outer s H E hr => pss_law_is_pair bi  cdv A outer s H E hr) fun ads Q h => xs_law_is_pair ads Q h)
theorem ok_law_walk_due {P : Program} {w : World} {K : PySem.W.Frag} {mg : Str → Option Value} {base : Heap} {f : Addr} {fd : FuncData} (k : Nat) (F : Fun K "_law_walk_due" "_law_walk_due" s_law_walk_due f fd) (m : mg "_law_walk_due" = some (.ref f)) (b : Binds K fd ["net", "joined", "row"] []) (bi : BI mg) {k_law_steps_due : Nat} (l_law_steps_due : k_law_steps_due ≤ k) (h_law_steps_due : HasFn P w K mg base k_law_steps_due "_law_steps_due" ["net", "joined", "pair"] S_law_steps_due) {k_law_is_pair : Nat} (l_law_is_pair : k_law_is_pair ≤ k) (h_law_is_pair : HasFn P w K mg base k_law_is_pair "_law_is_pair" ["net", "pair"] S_law_is_pair) : HasFn P w K mg base (k + 1) "_law_walk_due" ["net", "joined", "row"] S_law_walk_due :=
  has_of F m b (fn_data [] (t_law_walk_due K (S_law_steps_due) (S_law_is_pair)) F sc_law_walk_due (fun ads Q h => by repeat (first | (obtain ⟨e, _⟩ := h; exact congrArg List.length e) | obtain ⟨_, h⟩ := h)) (fun cdv A outer s H E hr => pss_law_walk_due bi l_law_steps_due h_law_steps_due l_law_is_pair h_law_is_pair cdv A outer s H E hr) fun ads Q h => xs_law_walk_due ads Q h)
theorem ok_law_way {P : Program} {w : World} {K : PySem.W.Frag} {mg : Str → Option Value} {base : Heap} {f : Addr} {fd : FuncData} (k : Nat) (F : Fun K "_law_way" "_law_way" s_law_way f fd) (m : mg "_law_way" = some (.ref f)) (b : Binds K fd ["near", "first", "last"] []) (bi : BI mg) {k_law_steps : Nat} (l_law_steps : k_law_steps ≤ k) (h_law_steps : HasFn P w K mg base k_law_steps "_law_steps" ["near", "pair"] S_law_steps) : HasFn P w K mg base (k + 1) "_law_way" ["near", "first", "last"] S_law_way :=
  has_of F m b (fn_data [] (t_law_way K (S_law_steps)) F sc_law_way (fun ads Q h => by repeat (first | (obtain ⟨e, _⟩ := h; exact congrArg List.length e) | obtain ⟨_, h⟩ := h)) (fun cdv A outer s H E hr => pss_law_way bi l_law_steps h_law_steps cdv A outer s H E hr) fun ads Q h => xs_law_way ads Q h)
theorem ok_law_turned_row {P : Program} {w : World} {K : PySem.W.Frag} {mg : Str → Option Value} {base : Heap} {f : Addr} {fd : FuncData} (k : Nat) (F : Fun K "_law_turned_row" "_law_turned_row" s_law_turned_row f fd) (m : mg "_law_turned_row" = some (.ref f)) (b : Binds K fd ["row"] []) (bi : BI mg)  : HasFn P w K mg base (k + 1) "_law_turned_row" ["row"] S_law_turned_row :=
  has_of F m b (fn_data [] (t_law_turned_row K ) F sc_law_turned_row (fun ads Q h => by repeat (first | (obtain ⟨e, _⟩ := h; exact congrArg List.length e) | obtain ⟨_, h⟩ := h)) (fun cdv A outer s H E hr => pss_law_turned_row bi  cdv A outer s H E hr) fun ads Q h => xs_law_turned_row ads Q h)
theorem ok_law_bent_row {P : Program} {w : World} {K : PySem.W.Frag} {mg : Str → Option Value} {base : Heap} {f : Addr} {fd : FuncData} (k : Nat) (F : Fun K "_law_bent_row" "_law_bent_row" s_law_bent_row f fd) (m : mg "_law_bent_row" = some (.ref f)) (b : Binds K fd ["bag", "net", "row"] []) (bi : BI mg) {k_law_turned_row : Nat} (l_law_turned_row : k_law_turned_row ≤ k) (h_law_turned_row : HasFn P w K mg base k_law_turned_row "_law_turned_row" ["row"] S_law_turned_row) {k_law_draw : Nat} (l_law_draw : k_law_draw ≤ k) (h_law_draw : HasFn P w K mg base k_law_draw "_law_draw" ["bag", "many"] S_law_draw) {k_law_pick : Nat} (l_law_pick : k_law_pick ≤ k) (h_law_pick : HasFn P w K mg base k_law_pick "_law_pick" ["bag", "things"] S_law_pick) : HasFn P w K mg base (k + 1) "_law_bent_row" ["bag", "net", "row"] S_law_bent_row :=
  has_of F m b (fn_data [0] (t_law_bent_row K (S_law_turned_row) (S_law_draw) (S_law_pick)) F sc_law_bent_row (fun ads Q h => by repeat (first | (obtain ⟨e, _⟩ := h; exact congrArg List.length e) | obtain ⟨_, h⟩ := h)) (fun cdv A outer s H E hr => pss_law_bent_row bi l_law_turned_row h_law_turned_row l_law_draw h_law_draw l_law_pick h_law_pick cdv A outer s H E hr) fun ads Q h => xs_law_bent_row ads Q h)
theorem ok_law_free_row {P : Program} {w : World} {K : PySem.W.Frag} {mg : Str → Option Value} {base : Heap} {f : Addr} {fd : FuncData} (k : Nat) (F : Fun K "_law_free_row" "_law_free_row" s_law_free_row f fd) (m : mg "_law_free_row" = some (.ref f)) (b : Binds K fd ["bag", "net"] []) (bi : BI mg) {k_law_draw : Nat} (l_law_draw : k_law_draw ≤ k) (h_law_draw : HasFn P w K mg base k_law_draw "_law_draw" ["bag", "many"] S_law_draw) : HasFn P w K mg base (k + 1) "_law_free_row" ["bag", "net"] S_law_free_row :=
  has_of F m b (fn_data [0] (t_law_free_row K (S_law_draw)) F sc_law_free_row (fun ads Q h => by repeat (first | (obtain ⟨e, _⟩ := h; exact congrArg List.length e) | obtain ⟨_, h⟩ := h)) (fun cdv A outer s H E hr => pss_law_free_row bi l_law_draw h_law_draw cdv A outer s H E hr) fun ads Q h => xs_law_free_row ads Q h)
theorem ok_law_steps_told {P : Program} {w : World} {K : PySem.W.Frag} {mg : Str → Option Value} {base : Heap} {f : Addr} {fd : FuncData} (k : Nat) (F : Fun K "_law_steps_told" "_law_steps_told" s_law_steps_told f fd) (m : mg "_law_steps_told" = some (.ref f)) (b : Binds K fd ["net", "joined", "pair"] []) (bi : BI mg) {k_law_same : Nat} (l_law_same : k_law_same ≤ k) (h_law_same : HasFn P w K mg base k_law_same "_law_same" ["got", "due"] (S_same 3)) {k_steps_from : Nat} (l_steps_from : k_steps_from ≤ k) (h_steps_from : HasFn P w K mg base k_steps_from "steps_from" ["net", "pair"] S_steps_from) {k_law_steps_due : Nat} (l_law_steps_due : k_law_steps_due ≤ k) (h_law_steps_due : HasFn P w K mg base k_law_steps_due "_law_steps_due" ["net", "joined", "pair"] S_law_steps_due) : HasFn P w K mg base (k + 1) "_law_steps_told" ["net", "joined", "pair"] S_law_steps_told :=
  has_of F m b (fn_data [] (t_law_steps_told K ((S_same 3)) (S_steps_from) (S_law_steps_due)) F sc_law_steps_told (fun ads Q h => by repeat (first | (obtain ⟨e, _⟩ := h; exact congrArg List.length e) | obtain ⟨_, h⟩ := h)) (fun cdv A outer s H E hr => pss_law_steps_told bi l_law_same h_law_same l_steps_from h_steps_from l_law_steps_due h_law_steps_due cdv A outer s H E hr) fun ads Q h => xs_law_steps_told ads Q h)
theorem ok_law_row_told {P : Program} {w : World} {K : PySem.W.Frag} {mg : Str → Option Value} {base : Heap} {f : Addr} {fd : FuncData} (k : Nat) (F : Fun K "_law_row_told" "_law_row_told" s_law_row_told f fd) (m : mg "_law_row_told" = some (.ref f)) (b : Binds K fd ["net", "joined", "row"] []) (bi : BI mg) {k_law_same : Nat} (l_law_same : k_law_same ≤ k) (h_law_same : HasFn P w K mg base k_law_same "_law_same" ["got", "due"] (S_same 3)) {k_is_exchange : Nat} (l_is_exchange : k_is_exchange ≤ k) (h_is_exchange : HasFn P w K mg base k_is_exchange "is_exchange" ["net", "walk"] S_is_exchange) {k_is_walk : Nat} (l_is_walk : k_is_walk ≤ k) (h_is_walk : HasFn P w K mg base k_is_walk "is_walk" ["net", "walk"] S_is_walk) {k_law_walk_due : Nat} (l_law_walk_due : k_law_walk_due ≤ k) (h_law_walk_due : HasFn P w K mg base k_law_walk_due "_law_walk_due" ["net", "joined", "row"] S_law_walk_due) : HasFn P w K mg base (k + 1) "_law_row_told" ["net", "joined", "row"] S_law_row_told :=
  has_of F m b (fn_data [] (t_law_row_told K ((S_same 3)) (S_is_exchange) (S_is_walk) (S_law_walk_due)) F sc_law_row_told (fun ads Q h => by repeat (first | (obtain ⟨e, _⟩ := h; exact congrArg List.length e) | obtain ⟨_, h⟩ := h)) (fun cdv A outer s H E hr => pss_law_row_told bi l_law_same h_law_same l_is_exchange h_is_exchange l_is_walk h_is_walk l_law_walk_due h_law_walk_due cdv A outer s H E hr) fun ads Q h => xs_law_row_told ads Q h)
theorem ok_law {P : Program} {w : World} {K : PySem.W.Frag} {mg : Str → Option Value} {base : Heap} {f : Addr} {fd : FuncData} (k : Nat) (F : Fun K "law" "law" s_law f fd) (bi : BI mg) {k_law_row_told : Nat} (l_law_row_told : k_law_row_told ≤ k) (h_law_row_told : HasFn P w K mg base k_law_row_told "_law_row_told" ["net", "joined", "row"] S_law_row_told) {k_law_free_row : Nat} (l_law_free_row : k_law_free_row ≤ k) (h_law_free_row : HasFn P w K mg base k_law_free_row "_law_free_row" ["bag", "net"] S_law_free_row) {k_law_bent_row : Nat} (l_law_bent_row : k_law_bent_row ≤ k) (h_law_bent_row : HasFn P w K mg base k_law_bent_row "_law_bent_row" ["bag", "net", "row"] S_law_bent_row) {k_law_way : Nat} (l_law_way : k_law_way ≤ k) (h_law_way : HasFn P w K mg base k_law_way "_law_way" ["near", "first", "last"] S_law_way) {k_law_wander : Nat} (l_law_wander : k_law_wander ≤ k) (h_law_wander : HasFn P w K mg base k_law_wander "_law_wander" ["bag", "net", "pair", "most"] S_law_wander) {k_law_pick : Nat} (l_law_pick : k_law_pick ≤ k) (h_law_pick : HasFn P w K mg base k_law_pick "_law_pick" ["bag", "things"] S_law_pick) {k_law_steps_told : Nat} (l_law_steps_told : k_law_steps_told ≤ k) (h_law_steps_told : HasFn P w K mg base k_law_steps_told "_law_steps_told" ["net", "joined", "pair"] S_law_steps_told) {k_law_draw : Nat} (l_law_draw : k_law_draw ≤ k) (h_law_draw : HasFn P w K mg base k_law_draw "_law_draw" ["bag", "many"] S_law_draw) {k_law_pairs : Nat} (l_law_pairs : k_law_pairs ≤ k) (h_law_pairs : HasFn P w K mg base k_law_pairs "_law_pairs" ["net"] S_law_pairs) {k_law_near : Nat} (l_law_near : k_law_near ≤ k) (h_law_near : HasFn P w K mg base k_law_near "_law_near" ["net"] S_law_near) {k_law_joined : Nat} (l_law_joined : k_law_joined ≤ k) (h_law_joined : HasFn P w K mg base k_law_joined "_law_joined" ["net"] S_law_joined) {k_law_some_net : Nat} (l_law_some_net : k_law_some_net ≤ k) (h_law_some_net : HasFn P w K mg base k_law_some_net "_law_some_net" ["bag"] S_gen) {k_law_bag : Nat} (l_law_bag : k_law_bag ≤ k) (h_law_bag : HasFn P w K mg base k_law_bag "_law_bag" ["script"] S_law_bag) : FnOk P w K mg base CX0 (k + 1) f fd ["script"] (spOf K S_law) :=
  fn_data [] (t_law K (S_law_row_told) (S_law_free_row) (S_law_bent_row) (S_law_way) (S_law_wander) (S_law_pick) (S_law_steps_told) (S_law_draw) (S_law_pairs) (S_law_near) (S_law_joined) (S_gen) (S_law_bag)) F sc_law (fun ads Q h => by repeat (first | (obtain ⟨e, _⟩ := h; exact congrArg List.length e) | obtain ⟨_, h⟩ := h)) (fun cdv A outer s H E hr => pss_law bi l_law_row_told h_law_row_told l_law_free_row h_law_free_row l_law_bent_row h_law_bent_row l_law_way h_law_way l_law_wander h_law_wander l_law_pick h_law_pick l_law_steps_told h_law_steps_told l_law_draw h_law_draw l_law_pairs h_law_pairs l_law_near h_law_near l_law_joined h_law_joined l_law_some_net h_law_some_net l_law_bag h_law_bag cdv A outer s H E hr) fun ads Q h => xs_law ads Q h
theorem all_mk {l : PySem.W.OpenLaw} {w : World} {K : PySem.W.Frag} {h : Heap} {mg : Str → Option Value} {fa : Addr} (X : K.In h) (G : h.Ns mainGlobals mg) (hfa : mg "law" = some (.ref fa))
    {f0 : Addr} {od0 an0 : Option Addr} {sl0 : Array (Option Value)} {oc0 kV0 dc0 pm0 cd0 ct0 : Value}
    (a0 : PySem.W.nsIn K mainGlobals "joints" = some (some (.ref f0))) (l0 : K.lookup f0 = some ⟨oc0, od0, .func (PySem.W.fnOf "joints" "joints" (defArgs s_joints) (defBody s_joints) (defScope s_joints) .none kV0 dc0 pm0 an0 cd0 ct0), sl0⟩) (c0 : PySem.W.codeIn K cd0 "joints" = true) (k0 : PySem.W.keepIn K (.ref f0) = true)
    {f1 : Addr} {od1 an1 : Option Addr} {sl1 : Array (Option Value)} {oc1 kV1 dc1 pm1 cd1 ct1 : Value}
    (a1 : PySem.W.nsIn K mainGlobals "turned_about" = some (some (.ref f1))) (l1 : K.lookup f1 = some ⟨oc1, od1, .func (PySem.W.fnOf "turned_about" "turned_about" (defArgs s_turned_about) (defBody s_turned_about) (defScope s_turned_about) .none kV1 dc1 pm1 an1 cd1 ct1), sl1⟩) (c1 : PySem.W.codeIn K cd1 "turned_about" = true) (k1 : PySem.W.keepIn K (.ref f1) = true)
    {f2 : Addr} {od2 an2 : Option Addr} {sl2 : Array (Option Value)} {oc2 kV2 dc2 pm2 cd2 ct2 : Value}
    (a2 : PySem.W.nsIn K mainGlobals "reached" = some (some (.ref f2))) (l2 : K.lookup f2 = some ⟨oc2, od2, .func (PySem.W.fnOf "reached" "reached" (defArgs s_reached) (defBody s_reached) (defScope s_reached) .none kV2 dc2 pm2 an2 cd2 ct2), sl2⟩) (c2 : PySem.W.codeIn K cd2 "reached" = true) (k2 : PySem.W.keepIn K (.ref f2) = true)
    {f3 : Addr} {od3 an3 : Option Addr} {sl3 : Array (Option Value)} {oc3 kV3 dc3 pm3 cd3 ct3 : Value}
    (a3 : PySem.W.nsIn K mainGlobals "steps_from" = some (some (.ref f3))) (l3 : K.lookup f3 = some ⟨oc3, od3, .func (PySem.W.fnOf "steps_from" "steps_from" (defArgs s_steps_from) (defBody s_steps_from) (defScope s_steps_from) .none kV3 dc3 pm3 an3 cd3 ct3), sl3⟩) (c3 : PySem.W.codeIn K cd3 "steps_from" = true) (k3 : PySem.W.keepIn K (.ref f3) = true)
    {f4 : Addr} {od4 an4 : Option Addr} {sl4 : Array (Option Value)} {oc4 kV4 dc4 pm4 cd4 ct4 : Value}
    (a4 : PySem.W.nsIn K mainGlobals "_is_pair" = some (some (.ref f4))) (l4 : K.lookup f4 = some ⟨oc4, od4, .func (PySem.W.fnOf "_is_pair" "_is_pair" (defArgs s_is_pair) (defBody s_is_pair) (defScope s_is_pair) .none kV4 dc4 pm4 an4 cd4 ct4), sl4⟩) (c4 : PySem.W.codeIn K cd4 "_is_pair" = true) (k4 : PySem.W.keepIn K (.ref f4) = true)
    {f5 : Addr} {od5 an5 : Option Addr} {sl5 : Array (Option Value)} {oc5 kV5 dc5 pm5 cd5 ct5 : Value}
    (a5 : PySem.W.nsIn K mainGlobals "is_walk" = some (some (.ref f5))) (l5 : K.lookup f5 = some ⟨oc5, od5, .func (PySem.W.fnOf "is_walk" "is_walk" (defArgs s_is_walk) (defBody s_is_walk) (defScope s_is_walk) .none kV5 dc5 pm5 an5 cd5 ct5), sl5⟩) (c5 : PySem.W.codeIn K cd5 "is_walk" = true) (k5 : PySem.W.keepIn K (.ref f5) = true)
    {f6 : Addr} {od6 an6 : Option Addr} {sl6 : Array (Option Value)} {oc6 kV6 dc6 pm6 cd6 ct6 : Value}
    (a6 : PySem.W.nsIn K mainGlobals "is_exchange" = some (some (.ref f6))) (l6 : K.lookup f6 = some ⟨oc6, od6, .func (PySem.W.fnOf "is_exchange" "is_exchange" (defArgs s_is_exchange) (defBody s_is_exchange) (defScope s_is_exchange) .none kV6 dc6 pm6 an6 cd6 ct6), sl6⟩) (c6 : PySem.W.codeIn K cd6 "is_exchange" = true) (k6 : PySem.W.keepIn K (.ref f6) = true)
    {f7 : Addr} {od7 an7 : Option Addr} {sl7 : Array (Option Value)} {oc7 kV7 dc7 pm7 cd7 ct7 : Value}
    (a7 : PySem.W.nsIn K mainGlobals "_law_bag" = some (some (.ref f7))) (l7 : K.lookup f7 = some ⟨oc7, od7, .func (PySem.W.fnOf "_law_bag" "_law_bag" (defArgs s_law_bag) (defBody s_law_bag) (defScope s_law_bag) .none kV7 dc7 pm7 an7 cd7 ct7), sl7⟩) (c7 : PySem.W.codeIn K cd7 "_law_bag" = true) (k7 : PySem.W.keepIn K (.ref f7) = true)
    {f8 : Addr} {od8 an8 : Option Addr} {sl8 : Array (Option Value)} {oc8 kV8 dc8 pm8 cd8 ct8 : Value}
    (a8 : PySem.W.nsIn K mainGlobals "_law_draw" = some (some (.ref f8))) (l8 : K.lookup f8 = some ⟨oc8, od8, .func (PySem.W.fnOf "_law_draw" "_law_draw" (defArgs s_law_draw) (defBody s_law_draw) (defScope s_law_draw) .none kV8 dc8 pm8 an8 cd8 ct8), sl8⟩) (c8 : PySem.W.codeIn K cd8 "_law_draw" = true) (k8 : PySem.W.keepIn K (.ref f8) = true)
    {f9 : Addr} {od9 an9 : Option Addr} {sl9 : Array (Option Value)} {oc9 kV9 dc9 pm9 cd9 ct9 : Value}
    (a9 : PySem.W.nsIn K mainGlobals "_law_pick" = some (some (.ref f9))) (l9 : K.lookup f9 = some ⟨oc9, od9, .func (PySem.W.fnOf "_law_pick" "_law_pick" (defArgs s_law_pick) (defBody s_law_pick) (defScope s_law_pick) .none kV9 dc9 pm9 an9 cd9 ct9), sl9⟩) (c9 : PySem.W.codeIn K cd9 "_law_pick" = true) (k9 : PySem.W.keepIn K (.ref f9) = true)
    {f10 : Addr} {od10 an10 : Option Addr} {sl10 : Array (Option Value)} {oc10 kV10 dc10 pm10 cd10 ct10 : Value}
    (a10 : PySem.W.nsIn K mainGlobals "_law_shuffle" = some (some (.ref f10))) (l10 : K.lookup f10 = some ⟨oc10, od10, .func (PySem.W.fnOf "_law_shuffle" "_law_shuffle" (defArgs s_law_shuffle) (defBody s_law_shuffle) (defScope s_law_shuffle) .none kV10 dc10 pm10 an10 cd10 ct10), sl10⟩) (c10 : PySem.W.codeIn K cd10 "_law_shuffle" = true) (k10 : PySem.W.keepIn K (.ref f10) = true)
    {f11 : Addr} {od11 an11 : Option Addr} {sl11 : Array (Option Value)} {oc11 kV11 dc11 pm11 cd11 ct11 : Value}
    (a11 : PySem.W.nsIn K mainGlobals "_law_whole" = some (some (.ref f11))) (l11 : K.lookup f11 = some ⟨oc11, od11, .func (PySem.W.fnOf "_law_whole" "_law_whole" (defArgs s_law_whole) (defBody s_law_whole) (defScope s_law_whole) .none kV11 dc11 pm11 an11 cd11 ct11), sl11⟩) (c11 : PySem.W.codeIn K cd11 "_law_whole" = true) (k11 : PySem.W.keepIn K (.ref f11) = true)
    {f12 : Addr} {od12 an12 : Option Addr} {sl12 : Array (Option Value)} {oc12 kV12 dc12 pm12 cd12 ct12 : Value}
    (a12 : PySem.W.nsIn K mainGlobals "_law_same" = some (some (.ref f12))) (l12 : K.lookup f12 = some ⟨oc12, od12, .func (PySem.W.fnOf "_law_same" "_law_same" (defArgs s_law_same) (defBody s_law_same) (defScope s_law_same) .none kV12 dc12 pm12 an12 cd12 ct12), sl12⟩) (c12 : PySem.W.codeIn K cd12 "_law_same" = true) (k12 : PySem.W.keepIn K (.ref f12) = true)
    {f13 : Addr} {od13 an13 : Option Addr} {sl13 : Array (Option Value)} {oc13 kV13 dc13 pm13 cd13 ct13 : Value}
    (a13 : PySem.W.nsIn K mainGlobals "_law_net" = some (some (.ref f13))) (l13 : K.lookup f13 = some ⟨oc13, od13, .func (PySem.W.fnOf "_law_net" "_law_net" (defArgs s_law_net) (defBody s_law_net) (defScope s_law_net) .none kV13 dc13 pm13 an13 cd13 ct13), sl13⟩) (c13 : PySem.W.codeIn K cd13 "_law_net" = true) (k13 : PySem.W.keepIn K (.ref f13) = true)
    {f14 : Addr} {od14 an14 : Option Addr} {sl14 : Array (Option Value)} {oc14 kV14 dc14 pm14 cd14 ct14 : Value}
    (a14 : PySem.W.nsIn K mainGlobals "_law_near" = some (some (.ref f14))) (l14 : K.lookup f14 = some ⟨oc14, od14, .func (PySem.W.fnOf "_law_near" "_law_near" (defArgs s_law_near) (defBody s_law_near) (defScope s_law_near) .none kV14 dc14 pm14 an14 cd14 ct14), sl14⟩) (c14 : PySem.W.codeIn K cd14 "_law_near" = true) (k14 : PySem.W.keepIn K (.ref f14) = true)
    {f15 : Addr} {od15 an15 : Option Addr} {sl15 : Array (Option Value)} {oc15 kV15 dc15 pm15 cd15 ct15 : Value}
    (a15 : PySem.W.nsIn K mainGlobals "_law_steps" = some (some (.ref f15))) (l15 : K.lookup f15 = some ⟨oc15, od15, .func (PySem.W.fnOf "_law_steps" "_law_steps" (defArgs s_law_steps) (defBody s_law_steps) (defScope s_law_steps) .none kV15 dc15 pm15 an15 cd15 ct15), sl15⟩) (c15 : PySem.W.codeIn K cd15 "_law_steps" = true) (k15 : PySem.W.keepIn K (.ref f15) = true)
    {f16 : Addr} {od16 an16 : Option Addr} {sl16 : Array (Option Value)} {oc16 kV16 dc16 pm16 cd16 ct16 : Value}
    (a16 : PySem.W.nsIn K mainGlobals "_law_pairs" = some (some (.ref f16))) (l16 : K.lookup f16 = some ⟨oc16, od16, .func (PySem.W.fnOf "_law_pairs" "_law_pairs" (defArgs s_law_pairs) (defBody s_law_pairs) (defScope s_law_pairs) .none kV16 dc16 pm16 an16 cd16 ct16), sl16⟩) (c16 : PySem.W.codeIn K cd16 "_law_pairs" = true) (k16 : PySem.W.keepIn K (.ref f16) = true)
    {f17 : Addr} {od17 an17 : Option Addr} {sl17 : Array (Option Value)} {oc17 kV17 dc17 pm17 cd17 ct17 : Value}
    (a17 : PySem.W.nsIn K mainGlobals "_law_wander" = some (some (.ref f17))) (l17 : K.lookup f17 = some ⟨oc17, od17, .func (PySem.W.fnOf "_law_wander" "_law_wander" (defArgs s_law_wander) (defBody s_law_wander) (defScope s_law_wander) .none kV17 dc17 pm17 an17 cd17 ct17), sl17⟩) (c17 : PySem.W.codeIn K cd17 "_law_wander" = true) (k17 : PySem.W.keepIn K (.ref f17) = true)
    {f18 : Addr} {od18 an18 : Option Addr} {sl18 : Array (Option Value)} {oc18 kV18 dc18 pm18 cd18 ct18 : Value}
    (a18 : PySem.W.nsIn K mainGlobals "_law_deep_net" = some (some (.ref f18))) (l18 : K.lookup f18 = some ⟨oc18, od18, .func (PySem.W.fnOf "_law_deep_net" "_law_deep_net" (defArgs s_law_deep_net) (defBody s_law_deep_net) (defScope s_law_deep_net) .none kV18 dc18 pm18 an18 cd18 ct18), sl18⟩) (c18 : PySem.W.codeIn K cd18 "_law_deep_net" = true) (k18 : PySem.W.keepIn K (.ref f18) = true)
    {f19 : Addr} {od19 an19 : Option Addr} {sl19 : Array (Option Value)} {oc19 kV19 dc19 pm19 cd19 ct19 : Value}
    (a19 : PySem.W.nsIn K mainGlobals "_law_renumbered" = some (some (.ref f19))) (l19 : K.lookup f19 = some ⟨oc19, od19, .func (PySem.W.fnOf "_law_renumbered" "_law_renumbered" (defArgs s_law_renumbered) (defBody s_law_renumbered) (defScope s_law_renumbered) .none kV19 dc19 pm19 an19 cd19 ct19), sl19⟩) (c19 : PySem.W.codeIn K cd19 "_law_renumbered" = true) (k19 : PySem.W.keepIn K (.ref f19) = true)
    {f20 : Addr} {od20 an20 : Option Addr} {sl20 : Array (Option Value)} {oc20 kV20 dc20 pm20 cd20 ct20 : Value}
    (a20 : PySem.W.nsIn K mainGlobals "_law_bent_net" = some (some (.ref f20))) (l20 : K.lookup f20 = some ⟨oc20, od20, .func (PySem.W.fnOf "_law_bent_net" "_law_bent_net" (defArgs s_law_bent_net) (defBody s_law_bent_net) (defScope s_law_bent_net) .none kV20 dc20 pm20 an20 cd20 ct20), sl20⟩) (c20 : PySem.W.codeIn K cd20 "_law_bent_net" = true) (k20 : PySem.W.keepIn K (.ref f20) = true)
    {f21 : Addr} {od21 an21 : Option Addr} {sl21 : Array (Option Value)} {oc21 kV21 dc21 pm21 cd21 ct21 : Value}
    (a21 : PySem.W.nsIn K mainGlobals "_law_some_net" = some (some (.ref f21))) (l21 : K.lookup f21 = some ⟨oc21, od21, .func (PySem.W.fnOf "_law_some_net" "_law_some_net" (defArgs s_law_some_net) (defBody s_law_some_net) (defScope s_law_some_net) .none kV21 dc21 pm21 an21 cd21 ct21), sl21⟩) (c21 : PySem.W.codeIn K cd21 "_law_some_net" = true) (k21 : PySem.W.keepIn K (.ref f21) = true)
    {f22 : Addr} {od22 an22 : Option Addr} {sl22 : Array (Option Value)} {oc22 kV22 dc22 pm22 cd22 ct22 : Value}
    (a22 : PySem.W.nsIn K mainGlobals "_law_joined" = some (some (.ref f22))) (l22 : K.lookup f22 = some ⟨oc22, od22, .func (PySem.W.fnOf "_law_joined" "_law_joined" (defArgs s_law_joined) (defBody s_law_joined) (defScope s_law_joined) .none kV22 dc22 pm22 an22 cd22 ct22), sl22⟩) (c22 : PySem.W.codeIn K cd22 "_law_joined" = true) (k22 : PySem.W.keepIn K (.ref f22) = true)
    {f23 : Addr} {od23 an23 : Option Addr} {sl23 : Array (Option Value)} {oc23 kV23 dc23 pm23 cd23 ct23 : Value}
    (a23 : PySem.W.nsIn K mainGlobals "_law_steps_due" = some (some (.ref f23))) (l23 : K.lookup f23 = some ⟨oc23, od23, .func (PySem.W.fnOf "_law_steps_due" "_law_steps_due" (defArgs s_law_steps_due) (defBody s_law_steps_due) (defScope s_law_steps_due) .none kV23 dc23 pm23 an23 cd23 ct23), sl23⟩) (c23 : PySem.W.codeIn K cd23 "_law_steps_due" = true) (k23 : PySem.W.keepIn K (.ref f23) = true)
    {f24 : Addr} {od24 an24 : Option Addr} {sl24 : Array (Option Value)} {oc24 kV24 dc24 pm24 cd24 ct24 : Value}
    (a24 : PySem.W.nsIn K mainGlobals "_law_is_pair" = some (some (.ref f24))) (l24 : K.lookup f24 = some ⟨oc24, od24, .func (PySem.W.fnOf "_law_is_pair" "_law_is_pair" (defArgs s_law_is_pair) (defBody s_law_is_pair) (defScope s_law_is_pair) .none kV24 dc24 pm24 an24 cd24 ct24), sl24⟩) (c24 : PySem.W.codeIn K cd24 "_law_is_pair" = true) (k24 : PySem.W.keepIn K (.ref f24) = true)
    {f25 : Addr} {od25 an25 : Option Addr} {sl25 : Array (Option Value)} {oc25 kV25 dc25 pm25 cd25 ct25 : Value}
    (a25 : PySem.W.nsIn K mainGlobals "_law_walk_due" = some (some (.ref f25))) (l25 : K.lookup f25 = some ⟨oc25, od25, .func (PySem.W.fnOf "_law_walk_due" "_law_walk_due" (defArgs s_law_walk_due) (defBody s_law_walk_due) (defScope s_law_walk_due) .none kV25 dc25 pm25 an25 cd25 ct25), sl25⟩) (c25 : PySem.W.codeIn K cd25 "_law_walk_due" = true) (k25 : PySem.W.keepIn K (.ref f25) = true)
    {f26 : Addr} {od26 an26 : Option Addr} {sl26 : Array (Option Value)} {oc26 kV26 dc26 pm26 cd26 ct26 : Value}
    (a26 : PySem.W.nsIn K mainGlobals "_law_way" = some (some (.ref f26))) (l26 : K.lookup f26 = some ⟨oc26, od26, .func (PySem.W.fnOf "_law_way" "_law_way" (defArgs s_law_way) (defBody s_law_way) (defScope s_law_way) .none kV26 dc26 pm26 an26 cd26 ct26), sl26⟩) (c26 : PySem.W.codeIn K cd26 "_law_way" = true) (k26 : PySem.W.keepIn K (.ref f26) = true)
    {f27 : Addr} {od27 an27 : Option Addr} {sl27 : Array (Option Value)} {oc27 kV27 dc27 pm27 cd27 ct27 : Value}
    (a27 : PySem.W.nsIn K mainGlobals "_law_turned_row" = some (some (.ref f27))) (l27 : K.lookup f27 = some ⟨oc27, od27, .func (PySem.W.fnOf "_law_turned_row" "_law_turned_row" (defArgs s_law_turned_row) (defBody s_law_turned_row) (defScope s_law_turned_row) .none kV27 dc27 pm27 an27 cd27 ct27), sl27⟩) (c27 : PySem.W.codeIn K cd27 "_law_turned_row" = true) (k27 : PySem.W.keepIn K (.ref f27) = true)
    {f28 : Addr} {od28 an28 : Option Addr} {sl28 : Array (Option Value)} {oc28 kV28 dc28 pm28 cd28 ct28 : Value}
    (a28 : PySem.W.nsIn K mainGlobals "_law_bent_row" = some (some (.ref f28))) (l28 : K.lookup f28 = some ⟨oc28, od28, .func (PySem.W.fnOf "_law_bent_row" "_law_bent_row" (defArgs s_law_bent_row) (defBody s_law_bent_row) (defScope s_law_bent_row) .none kV28 dc28 pm28 an28 cd28 ct28), sl28⟩) (c28 : PySem.W.codeIn K cd28 "_law_bent_row" = true) (k28 : PySem.W.keepIn K (.ref f28) = true)
    {f29 : Addr} {od29 an29 : Option Addr} {sl29 : Array (Option Value)} {oc29 kV29 dc29 pm29 cd29 ct29 : Value}
    (a29 : PySem.W.nsIn K mainGlobals "_law_free_row" = some (some (.ref f29))) (l29 : K.lookup f29 = some ⟨oc29, od29, .func (PySem.W.fnOf "_law_free_row" "_law_free_row" (defArgs s_law_free_row) (defBody s_law_free_row) (defScope s_law_free_row) .none kV29 dc29 pm29 an29 cd29 ct29), sl29⟩) (c29 : PySem.W.codeIn K cd29 "_law_free_row" = true) (k29 : PySem.W.keepIn K (.ref f29) = true)
    {f30 : Addr} {od30 an30 : Option Addr} {sl30 : Array (Option Value)} {oc30 kV30 dc30 pm30 cd30 ct30 : Value}
    (a30 : PySem.W.nsIn K mainGlobals "_law_steps_told" = some (some (.ref f30))) (l30 : K.lookup f30 = some ⟨oc30, od30, .func (PySem.W.fnOf "_law_steps_told" "_law_steps_told" (defArgs s_law_steps_told) (defBody s_law_steps_told) (defScope s_law_steps_told) .none kV30 dc30 pm30 an30 cd30 ct30), sl30⟩) (c30 : PySem.W.codeIn K cd30 "_law_steps_told" = true) (k30 : PySem.W.keepIn K (.ref f30) = true)
    {f31 : Addr} {od31 an31 : Option Addr} {sl31 : Array (Option Value)} {oc31 kV31 dc31 pm31 cd31 ct31 : Value}
    (a31 : PySem.W.nsIn K mainGlobals "_law_row_told" = some (some (.ref f31))) (l31 : K.lookup f31 = some ⟨oc31, od31, .func (PySem.W.fnOf "_law_row_told" "_law_row_told" (defArgs s_law_row_told) (defBody s_law_row_told) (defScope s_law_row_told) .none kV31 dc31 pm31 an31 cd31 ct31), sl31⟩) (c31 : PySem.W.codeIn K cd31 "_law_row_told" = true) (k31 : PySem.W.keepIn K (.ref f31) = true)
    {f32 : Addr} {od32 an32 : Option Addr} {sl32 : Array (Option Value)} {oc32 kV32 dc32 pm32 cd32 ct32 : Value}
    (a32 : PySem.W.nsIn K mainGlobals "law" = some (some (.ref f32))) (l32 : K.lookup f32 = some ⟨oc32, od32, .func (PySem.W.fnOf "law" "law" (defArgs s_law) (defBody s_law) (defScope s_law) .none kV32 dc32 pm32 an32 cd32 ct32), sl32⟩) (c32 : PySem.W.codeIn K cd32 "law" = true) (k32 : PySem.W.keepIn K (.ref f32) = true)
    (z_list : PySem.W.nsIn K mainGlobals "list" = some none)
    (z_zip : PySem.W.nsIn K mainGlobals "zip" = some none)
    (z_sorted : PySem.W.nsIn K mainGlobals "sorted" = some none)
    (z_all : PySem.W.nsIn K mainGlobals "all" = some none)
    (z_len : PySem.W.nsIn K mainGlobals "len" = some none)
    (z_abs : PySem.W.nsIn K mainGlobals "abs" = some none)
    (z_int : PySem.W.nsIn K mainGlobals "int" = some none)
    (z_range : PySem.W.nsIn K mainGlobals "range" = some none)
    (z_isinstance : PySem.W.nsIn K mainGlobals "isinstance" = some none)
    (z_bool : PySem.W.nsIn K mainGlobals "bool" = some none)
    (z_dict : PySem.W.nsIn K mainGlobals "dict" = some none)
    (z_tuple : PySem.W.nsIn K mainGlobals "tuple" = some none)
    (z_str : PySem.W.nsIn K mainGlobals "str" = some none)
    (z_min : PySem.W.nsIn K mainGlobals "min" = some none) :
    ∃ fd : FuncData, (∀ (s : Shared) (v : Value), BindsTo s fd ⟨[v], []⟩ [("script", v)]) ∧ ∀ base : Heap, K.In base → base.Ns mainGlobals mg → FnOk l.prog w K mg base CX0 6 fa fd ["script"] (spOf K S_law) := by
  have F0 := fun_mk (st := s_joints) l0 c0 k0
  have b0 := F0.binds (ps := ["net"]) fun _ _ _ _ _ _ us hl => match us, hl with | [_], _ => rfl
  have m0 := PySem.W.mg_of X G a0
  have F1 := fun_mk (st := s_turned_about) l1 c1 k1
  have b1 := F1.binds (ps := ["pair"]) fun _ _ _ _ _ _ us hl => match us, hl with | [_], _ => rfl
  have m1 := PySem.W.mg_of X G a1
  have F2 := fun_mk (st := s_reached) l2 c2 k2
  have b2 := F2.binds (ps := ["joined", "pair"]) fun _ _ _ _ _ _ us hl => match us, hl with | [_, _], _ => rfl
  have m2 := PySem.W.mg_of X G a2
  have F3 := fun_mk (st := s_steps_from) l3 c3 k3
  have b3 := F3.binds (ps := ["net", "pair"]) fun _ _ _ _ _ _ us hl => match us, hl with | [_, _], _ => rfl
  have m3 := PySem.W.mg_of X G a3
  have F4 := fun_mk (st := s_is_pair) l4 c4 k4
  have b4 := F4.binds (ps := ["levels", "pair"]) fun _ _ _ _ _ _ us hl => match us, hl with | [_, _], _ => rfl
  have m4 := PySem.W.mg_of X G a4
  have F5 := fun_mk (st := s_is_walk) l5 c5 k5
  have b5 := F5.binds (ps := ["net", "walk"]) fun _ _ _ _ _ _ us hl => match us, hl with | [_, _], _ => rfl
  have m5 := PySem.W.mg_of X G a5
  have F6 := fun_mk (st := s_is_exchange) l6 c6 k6
  have b6 := F6.binds (ps := ["net", "walk"]) fun _ _ _ _ _ _ us hl => match us, hl with | [_, _], _ => rfl
  have m6 := PySem.W.mg_of X G a6
  have F7 := fun_mk (st := s_law_bag) l7 c7 k7
  have b7 := F7.binds (ps := ["script"]) fun _ _ _ _ _ _ us hl => match us, hl with | [_], _ => rfl
  have m7 := PySem.W.mg_of X G a7
  have F8 := fun_mk (st := s_law_draw) l8 c8 k8
  have b8 := F8.binds (ps := ["bag", "many"]) fun _ _ _ _ _ _ us hl => match us, hl with | [_, _], _ => rfl
  have m8 := PySem.W.mg_of X G a8
  have F9 := fun_mk (st := s_law_pick) l9 c9 k9
  have b9 := F9.binds (ps := ["bag", "things"]) fun _ _ _ _ _ _ us hl => match us, hl with | [_, _], _ => rfl
  have m9 := PySem.W.mg_of X G a9
  have F10 := fun_mk (st := s_law_shuffle) l10 c10 k10
  have b10 := F10.binds (ps := ["bag", "things"]) fun _ _ _ _ _ _ us hl => match us, hl with | [_, _], _ => rfl
  have m10 := PySem.W.mg_of X G a10
  have F11 := fun_mk (st := s_law_whole) l11 c11 k11
  have b11 := F11.binds (ps := ["got"]) fun _ _ _ _ _ _ us hl => match us, hl with | [_], _ => rfl
  have m11 := PySem.W.mg_of X G a11
  have F12 := fun_mk (st := s_law_same) l12 c12 k12
  have b12 := F12.binds (ps := ["got", "due"]) fun _ _ _ _ _ _ us hl => match us, hl with | [_, _], _ => rfl
  have m12 := PySem.W.mg_of X G a12
  have F13 := fun_mk (st := s_law_net) l13 c13 k13
  have b13 := F13.binds (ps := ["bag"]) fun _ _ _ _ _ _ us hl => match us, hl with | [_], _ => rfl
  have m13 := PySem.W.mg_of X G a13
  have F14 := fun_mk (st := s_law_near) l14 c14 k14
  have b14 := F14.binds (ps := ["net"]) fun _ _ _ _ _ _ us hl => match us, hl with | [_], _ => rfl
  have m14 := PySem.W.mg_of X G a14
  have F15 := fun_mk (st := s_law_steps) l15 c15 k15
  have b15 := F15.binds (ps := ["near", "pair"]) fun _ _ _ _ _ _ us hl => match us, hl with | [_, _], _ => rfl
  have m15 := PySem.W.mg_of X G a15
  have F16 := fun_mk (st := s_law_pairs) l16 c16 k16
  have b16 := F16.binds (ps := ["net"]) fun _ _ _ _ _ _ us hl => match us, hl with | [_], _ => rfl
  have m16 := PySem.W.mg_of X G a16
  have F17 := fun_mk (st := s_law_wander) l17 c17 k17
  have b17 := F17.binds (ps := ["bag", "net", "pair", "most"]) fun _ _ _ _ _ _ us hl => match us, hl with | [_, _, _, _], _ => rfl
  have m17 := PySem.W.mg_of X G a17
  have F18 := fun_mk (st := s_law_deep_net) l18 c18 k18
  have b18 := F18.binds (ps := ["bag"]) fun _ _ _ _ _ _ us hl => match us, hl with | [_], _ => rfl
  have m18 := PySem.W.mg_of X G a18
  have F19 := fun_mk (st := s_law_renumbered) l19 c19 k19
  have b19 := F19.binds (ps := ["bag", "levels", "segments"]) fun _ _ _ _ _ _ us hl => match us, hl with | [_, _, _], _ => rfl
  have m19 := PySem.W.mg_of X G a19
  have F20 := fun_mk (st := s_law_bent_net) l20 c20 k20
  have b20 := F20.binds (ps := ["bag"]) fun _ _ _ _ _ _ us hl => match us, hl with | [_], _ => rfl
  have m20 := PySem.W.mg_of X G a20
  have F21 := fun_mk (st := s_law_some_net) l21 c21 k21
  have b21 := F21.binds (ps := ["bag"]) fun _ _ _ _ _ _ us hl => match us, hl with | [_], _ => rfl
  have m21 := PySem.W.mg_of X G a21
  have F22 := fun_mk (st := s_law_joined) l22 c22 k22
  have b22 := F22.binds (ps := ["net"]) fun _ _ _ _ _ _ us hl => match us, hl with | [_], _ => rfl
  have m22 := PySem.W.mg_of X G a22
  have F23 := fun_mk (st := s_law_steps_due) l23 c23 k23
  have b23 := F23.binds (ps := ["net", "joined", "pair"]) fun _ _ _ _ _ _ us hl => match us, hl with | [_, _, _], _ => rfl
  have m23 := PySem.W.mg_of X G a23
  have F24 := fun_mk (st := s_law_is_pair) l24 c24 k24
  have b24 := F24.binds (ps := ["net", "pair"]) fun _ _ _ _ _ _ us hl => match us, hl with | [_, _], _ => rfl
  have m24 := PySem.W.mg_of X G a24
  have F25 := fun_mk (st := s_law_walk_due) l25 c25 k25
  have b25 := F25.binds (ps := ["net", "joined", "row"]) fun _ _ _ _ _ _ us hl => match us, hl with | [_, _, _], _ => rfl
  have m25 := PySem.W.mg_of X G a25
  have F26 := fun_mk (st := s_law_way) l26 c26 k26
  have b26 := F26.binds (ps := ["near", "first", "last"]) fun _ _ _ _ _ _ us hl => match us, hl with | [_, _, _], _ => rfl
  have m26 := PySem.W.mg_of X G a26
  have F27 := fun_mk (st := s_law_turned_row) l27 c27 k27
  have b27 := F27.binds (ps := ["row"]) fun _ _ _ _ _ _ us hl => match us, hl with | [_], _ => rfl
  have m27 := PySem.W.mg_of X G a27
  have F28 := fun_mk (st := s_law_bent_row) l28 c28 k28
  have b28 := F28.binds (ps := ["bag", "net", "row"]) fun _ _ _ _ _ _ us hl => match us, hl with | [_, _, _], _ => rfl
  have m28 := PySem.W.mg_of X G a28
  have F29 := fun_mk (st := s_law_free_row) l29 c29 k29
  have b29 := F29.binds (ps := ["bag", "net"]) fun _ _ _ _ _ _ us hl => match us, hl with | [_, _], _ => rfl
  have m29 := PySem.W.mg_of X G a29
  have F30 := fun_mk (st := s_law_steps_told) l30 c30 k30
  have b30 := F30.binds (ps := ["net", "joined", "pair"]) fun _ _ _ _ _ _ us hl => match us, hl with | [_, _, _], _ => rfl
  have m30 := PySem.W.mg_of X G a30
  have F31 := fun_mk (st := s_law_row_told) l31 c31 k31
  have b31 := F31.binds (ps := ["net", "joined", "row"]) fun _ _ _ _ _ _ us hl => match us, hl with | [_, _, _], _ => rfl
  have m31 := PySem.W.mg_of X G a31
  have F32 := fun_mk (st := s_law) l32 c32 k32
  have b32 := F32.binds (ps := ["script"]) fun _ _ _ _ _ _ us hl => match us, hl with | [_], _ => rfl
  have m32 := PySem.W.mg_of X G a32
  have e := hfa.symm.trans m32
  cases e
  refine ⟨PySem.W.fnOf "law" "law" (defArgs s_law) (defBody s_law) (defScope s_law) .none kV32 dc32 pm32 an32 cd32 ct32, fun s v => .of_eq rfl, fun base _ _ => ?_⟩
  have bi : BI mg := ⟨PySem.W.mg_none_of X G z_list, PySem.W.mg_none_of X G z_zip, PySem.W.mg_none_of X G z_sorted, PySem.W.mg_none_of X G z_all, PySem.W.mg_none_of X G z_len, PySem.W.mg_none_of X G z_abs, PySem.W.mg_none_of X G z_int, PySem.W.mg_none_of X G z_range, PySem.W.mg_none_of X G z_isinstance, PySem.W.mg_none_of X G z_bool, PySem.W.mg_none_of X G z_dict, PySem.W.mg_none_of X G z_tuple, PySem.W.mg_none_of X G z_str, PySem.W.mg_none_of X G z_min⟩
  have H_joints := ok_joints (P := l.prog) (w := w) (base := base) 0 F0 m0 b0 bi 
  have H_turned_about := ok_turned_about (P := l.prog) (w := w) (base := base) 0 F1 m1 b1 bi 
  have H_reached := ok_reached (P := l.prog) (w := w) (base := base) 0 F2 m2 b2 bi 
  have H_steps_from := ok_steps_from (P := l.prog) (w := w) (base := base) 1 F3 m3 b3 bi (by decide) H_reached (by decide) H_joints
  have H_is_pair := ok_is_pair (P := l.prog) (w := w) (base := base) 0 F4 m4 b4 bi 
  have H_is_walk := ok_is_walk (P := l.prog) (w := w) (base := base) 1 F5 m5 b5 bi (by decide) H_reached (by decide) H_joints (by decide) H_is_pair
  have H_is_exchange := ok_is_exchange (P := l.prog) (w := w) (base := base) 2 F6 m6 b6 bi (by decide) H_turned_about (by decide) H_is_walk
  have H_law_bag := ok_law_bag (P := l.prog) (w := w) (base := base) 0 F7 m7 b7 bi 
  have H_law_draw := ok_law_draw (P := l.prog) (w := w) (base := base) 0 F8 m8 b8 bi 
  have H_law_pick := ok_law_pick (P := l.prog) (w := w) (base := base) 1 F9 m9 b9 bi (by decide) H_law_draw
  have H_law_shuffle := ok_law_shuffle (P := l.prog) (w := w) (base := base) 1 F10 m10 b10 bi (by decide) H_law_draw
  have H_law_whole := ok_law_whole (P := l.prog) (w := w) (base := base) 0 F11 m11 b11 bi 
  have H0_law_same : HasFn l.prog w K mg base 1 "_law_same" ["got", "due"] (S_same 0) := HasFn.none F12 m12 b12
  have H1_law_same := ok_law_same (P := l.prog) (w := w) (base := base) F12 m12 b12 bi H0_law_same (by decide) H_law_whole
  have H2_law_same := ok_law_same (P := l.prog) (w := w) (base := base) F12 m12 b12 bi H1_law_same (by decide) H_law_whole
  have H_law_same := ok_law_same (P := l.prog) (w := w) (base := base) F12 m12 b12 bi H2_law_same (by decide) H_law_whole
  have H_law_net := ok_law_net (P := l.prog) (w := w) (base := base) 2 F13 m13 b13 bi (by decide) H_law_draw (by decide) H_law_pick
  have H_law_near := ok_law_near (P := l.prog) (w := w) (base := base) 0 F14 m14 b14 bi 
  have H_law_steps := ok_law_steps (P := l.prog) (w := w) (base := base) 0 F15 m15 b15 bi 
  have H_law_pairs := ok_law_pairs (P := l.prog) (w := w) (base := base) 0 F16 m16 b16 bi 
  have H_law_wander := ok_law_wander (P := l.prog) (w := w) (base := base) 2 F17 m17 b17 bi (by decide) H_law_draw (by decide) H_law_pick (by decide) H_law_steps (by decide) H_law_near
  have H_law_deep_net := ok_law_deep_net (P := l.prog) (w := w) (base := base) 2 F18 m18 b18 bi (by decide) H_law_shuffle (by decide) H_law_draw (by decide) H_law_pick
  have H_law_renumbered := ok_law_renumbered (P := l.prog) (w := w) (base := base) 2 F19 m19 b19 bi (by decide) H_law_draw (by decide) H_law_shuffle
  have H_law_bent_net := ok_law_bent_net (P := l.prog) (w := w) (base := base) 3 F20 m20 b20 bi (by decide) H_law_renumbered (by decide) H_law_draw (by decide) H_law_pick (by decide) H_law_shuffle
  have H_law_some_net := ok_law_some_net (P := l.prog) (w := w) (base := base) 4 F21 m21 b21 bi (by decide) H_law_net (by decide) H_law_bent_net (by decide) H_law_deep_net (by decide) H_law_draw
  have H_law_joined := ok_law_joined (P := l.prog) (w := w) (base := base) 0 F22 m22 b22 bi 
  have H_law_steps_due := ok_law_steps_due (P := l.prog) (w := w) (base := base) 0 F23 m23 b23 bi 
  have H_law_is_pair := ok_law_is_pair (P := l.prog) (w := w) (base := base) 0 F24 m24 b24 bi 
  have H_law_walk_due := ok_law_walk_due (P := l.prog) (w := w) (base := base) 1 F25 m25 b25 bi (by decide) H_law_steps_due (by decide) H_law_is_pair
  have H_law_way := ok_law_way (P := l.prog) (w := w) (base := base) 1 F26 m26 b26 bi (by decide) H_law_steps
  have H_law_turned_row := ok_law_turned_row (P := l.prog) (w := w) (base := base) 0 F27 m27 b27 bi 
  have H_law_bent_row := ok_law_bent_row (P := l.prog) (w := w) (base := base) 2 F28 m28 b28 bi (by decide) H_law_turned_row (by decide) H_law_draw (by decide) H_law_pick
  have H_law_free_row := ok_law_free_row (P := l.prog) (w := w) (base := base) 1 F29 m29 b29 bi (by decide) H_law_draw
  have H_law_steps_told := ok_law_steps_told (P := l.prog) (w := w) (base := base) 4 F30 m30 b30 bi (by decide) H_law_same (by decide) H_steps_from (by decide) H_law_steps_due
  have H_law_row_told := ok_law_row_told (P := l.prog) (w := w) (base := base) 4 F31 m31 b31 bi (by decide) H_law_same (by decide) H_is_exchange (by decide) H_is_walk (by decide) H_law_walk_due
  have H_law := ok_law (P := l.prog) (w := w) (base := base) 5 F32 bi (by decide) H_law_row_told (by decide) H_law_free_row (by decide) H_law_bent_row (by decide) H_law_way (by decide) H_law_wander (by decide) H_law_pick (by decide) H_law_steps_told (by decide) H_law_draw (by decide) H_law_pairs (by decide) H_law_near (by decide) H_law_joined (by decide) H_law_some_net (by decide) H_law_bag
  exact H_law
theorem start_ok {K : PySem.W.Frag} {H : Hp} {a : Addr} {ns : List Int} (hl : ns.length ≤ 63) (hS : SqL K H a (ns.map V.int)) {E : XK} : spOf K S_law [.ref a] H (fun v _ => v = .bl true) E := by
  refine ⟨[.cst (ns.map D.int)], H, [], fun r _ => r = .bl true, rfl, ⟨.refl H, [], ?_, List.nodup_nil, fun _ m => nomatch m⟩, ⟨_, ns, rfl, rfl, by rw [D.pure]; exact own_ints ns, by omega, rfl⟩, ?_⟩
  · exact .cons (f := []) (g := []) (.cst hS (OwnL.of_ints ns)) .nil
  · rintro r ads' v B' H' rfl _ s
    obtain ⟨f, o⟩ := s.here
    exact o.bl_inv
theorem walk {l : PySem.W.OpenLaw} {q : Program} {loose : List Str} {XP : (Str → Option Value) → Heap → Prop} {YP : World → Heap → Prop} {d : DefRec} {K : Params → PySem.W.Frag} (hn : l.most = some 63) (hdf : d.params.defaults = [])
    (hY : ∀ (w : World) (h : Heap), YP w h → (K w.params).In h)
    (F : ∀ (w : World) (mg : Str → Option Value) (fa : Addr) (h : Heap), (K w.params).In h → h.Ns mainGlobals mg → mg d.name = some (.ref fa) →
      ∃ fd : FuncData, (∀ (s : Shared) (u : Value), BindsTo s fd ⟨[u], []⟩ [("script", u)]) ∧ ∀ base : Heap, (K w.params).In base → base.Ns mainGlobals mg → FnOk l.prog w (K w.params) mg base CX0 6 fa fd ["script"] (spOf (K w.params) S_law)) :
    PySem.W.WalkO q loose XP YP l.row.toRowW d [] (fun f vs => PySem.call f vs) :=
  L2.walk_of (n := 63) (k := 6) (x := "script") (CX := fun _ => CX0) (sp := fun w => spOf (K w.params) S_law) hn (by decide) hdf ⟨rfl, by decide, by decide⟩ hY F (fun _ _ a ns hl _ hS => start_ok hl hS) fun _ _ _ _ _ z => z
end DL
open PySem PySem.W PyProof.Rows
set_option maxRecDepth 100000 in
set_option maxHeartbeats 0 in
theorem PySem.Challenge.cw_drawnlayers_k52_steps_and_walks_holds : PySem.Challenge.rw_drawnlayers_k52_steps_and_walks.Holds := by
  w_on; o_law; k_head; (case hw => w_witness2)
  k_fill
  refine DL.walk (l := PySem.Challenge.rw_drawnlayers_k52_steps_and_walks) rfl rfl (fun w h Y => PySem.W.kIn_of Y) ?F
  case F =>
    intro w mg fa h KX G hmg
    refine' DL.all_mk KX G hmg ?a0 ?l0 ?c0 ?k0 ?a1 ?l1 ?c1 ?k1 ?a2 ?l2 ?c2 ?k2 ?a3 ?l3 ?c3 ?k3 ?a4 ?l4 ?c4 ?k4 ?a5 ?l5 ?c5 ?k5 ?a6 ?l6 ?c6 ?k6 ?a7 ?l7 ?c7 ?k7 ?a8 ?l8 ?c8 ?k8 ?a9 ?l9 ?c9 ?k9 ?a10 ?l10 ?c10 ?k10 ?a11 ?l11 ?c11 ?k11 ?a12 ?l12 ?c12 ?k12 ?a13 ?l13 ?c13 ?k13 ?a14 ?l14 ?c14 ?k14 ?a15 ?l15 ?c15 ?k15 ?a16 ?l16 ?c16 ?k16 ?a17 ?l17 ?c17 ?k17 ?a18 ?l18 ?c18 ?k18 ?a19 ?l19 ?c19 ?k19 ?a20 ?l20 ?c20 ?k20 ?a21 ?l21 ?c21 ?k21 ?a22 ?l22 ?c22 ?k22 ?a23 ?l23 ?c23 ?k23 ?a24 ?l24 ?c24 ?k24 ?a25 ?l25 ?c25 ?k25 ?a26 ?l26 ?c26 ?k26 ?a27 ?l27 ?c27 ?k27 ?a28 ?l28 ?c28 ?k28 ?a29 ?l29 ?c29 ?k29 ?a30 ?l30 ?c30 ?k30 ?a31 ?l31 ?c31 ?k31 ?a32 ?l32 ?c32 ?k32 ?z_list ?z_zip ?z_sorted ?z_all ?z_len ?z_abs ?z_int ?z_range ?z_isinstance ?z_bool ?z_dict ?z_tuple ?z_str ?z_min
    (case a0 => k_is)
    (case l0 => k_is)
    (case c0 => k_is)
    (case k0 => k_is)
    (case a1 => k_is)
    (case l1 => k_is)
    (case c1 => k_is)
    (case k1 => k_is)
    (case a2 => k_is)
    (case l2 => k_is)
    (case c2 => k_is)
    (case k2 => k_is)
    (case a3 => k_is)
    (case l3 => k_is)
    (case c3 => k_is)
    (case k3 => k_is)
    (case a4 => k_is)
    (case l4 => k_is)
    (case c4 => k_is)
    (case k4 => k_is)
    (case a5 => k_is)
    (case l5 => k_is)
    (case c5 => k_is)
    (case k5 => k_is)
    (case a6 => k_is)
    (case l6 => k_is)
    (case c6 => k_is)
    (case k6 => k_is)
    (case a7 => k_is)
    (case l7 => k_is)
    (case c7 => k_is)
    (case k7 => k_is)
    (case a8 => k_is)
    (case l8 => k_is)
    (case c8 => k_is)
    (case k8 => k_is)
    (case a9 => k_is)
    (case l9 => k_is)
    (case c9 => k_is)
    (case k9 => k_is)
    (case a10 => k_is)
    (case l10 => k_is)
    (case c10 => k_is)
    (case k10 => k_is)
    (case a11 => k_is)
    (case l11 => k_is)
    (case c11 => k_is)
    (case k11 => k_is)
    (case a12 => k_is)
    (case l12 => k_is)
    (case c12 => k_is)
    (case k12 => k_is)
    (case a13 => k_is)
    (case l13 => k_is)
    (case c13 => k_is)
    (case k13 => k_is)
    (case a14 => k_is)
    (case l14 => k_is)
    (case c14 => k_is)
    (case k14 => k_is)
    (case a15 => k_is)
    (case l15 => k_is)
    (case c15 => k_is)
    (case k15 => k_is)
    (case a16 => k_is)
    (case l16 => k_is)
    (case c16 => k_is)
    (case k16 => k_is)
    (case a17 => k_is)
    (case l17 => k_is)
    (case c17 => k_is)
    (case k17 => k_is)
    (case a18 => k_is)
    (case l18 => k_is)
    (case c18 => k_is)
    (case k18 => k_is)
    (case a19 => k_is)
    (case l19 => k_is)
    (case c19 => k_is)
    (case k19 => k_is)
    (case a20 => k_is)
    (case l20 => k_is)
    (case c20 => k_is)
    (case k20 => k_is)
    (case a21 => k_is)
    (case l21 => k_is)
    (case c21 => k_is)
    (case k21 => k_is)
    (case a22 => k_is)
    (case l22 => k_is)
    (case c22 => k_is)
    (case k22 => k_is)
    (case a23 => k_is)
    (case l23 => k_is)
    (case c23 => k_is)
    (case k23 => k_is)
    (case a24 => k_is)
    (case l24 => k_is)
    (case c24 => k_is)
    (case k24 => k_is)
    (case a25 => k_is)
    (case l25 => k_is)
    (case c25 => k_is)
    (case k25 => k_is)
    (case a26 => k_is)
    (case l26 => k_is)
    (case c26 => k_is)
    (case k26 => k_is)
    (case a27 => k_is)
    (case l27 => k_is)
    (case c27 => k_is)
    (case k27 => k_is)
    (case a28 => k_is)
    (case l28 => k_is)
    (case c28 => k_is)
    (case k28 => k_is)
    (case a29 => k_is)
    (case l29 => k_is)
    (case c29 => k_is)
    (case k29 => k_is)
    (case a30 => k_is)
    (case l30 => k_is)
    (case c30 => k_is)
    (case k30 => k_is)
    (case a31 => k_is)
    (case l31 => k_is)
    (case c31 => k_is)
    (case k31 => k_is)
    (case a32 => k_is)
    (case l32 => k_is)
    (case c32 => k_is)
    (case k32 => k_is)
    (case z_list => k_is)
    (case z_zip => k_is)
    (case z_sorted => k_is)
    (case z_all => k_is)
    (case z_len => k_is)
    (case z_abs => k_is)
    (case z_int => k_is)
    (case z_range => k_is)
    (case z_isinstance => k_is)
    (case z_bool => k_is)
    (case z_dict => k_is)
    (case z_tuple => k_is)
    (case z_str => k_is)
    (case z_min => k_is)
