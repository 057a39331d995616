import PyProof.Rows.All
import Wide.All
import OpenK.AllK
import Wide.FinOn
import HandS.ForMost
import HandS.ForExc
import HandS.CallSlots
import HandS.Walk
import KE.KUnpackStar
import HandS.Wide
import HandS.TupAny
import HandS.IsInst
import HandS.WordsDict
import KE.GoesEnum
import HandS.Flow
import HandS.OwnEq
import HandS.Defaults
import HandS.SortRule
import HandS.MakeKwOnly
import PySem.Challenge.RW_farlanes_k12_roads
set_option Elab.async false
set_option linter.all false
set_option maxRecDepth 100000
set_option maxHeartbeats 8000000
namespace TL
open PySem PySem.Spec PyProof.Rows L2

/-! ### trees -/
inductive Shape where
  | lst
  | dT (ks : List (List Key))
  | dK (ks : List Key)
  | obj (C : Addr) (ns : List Str)
inductive D where
  | non | bl (b : Bool) | int (i : Int) | str (x : Str) | ref (a : Addr) | ty (n : String) | kt
  | tup (ds : List D) | ro (ds : List D)
  | box (s : Shape) (ds : List D)
/-- a value that is held: known for good (fr), or owned with all that is below it -/
inductive L where
  | fr (d : D)
  | box (s : Shape) (ls : List L)
mutual
def L.toD : L → D
  | .fr d => d
  | .box s ls => .box s (L.toDs ls)
def L.toDs : List L → List D
  | [] => []
  | l :: r => l.toD :: L.toDs r
end
abbrev D.lst (ds : List D) : D := .box .lst ds
abbrev L.lst (ls : List L) : L := .box .lst ls
abbrev L.int (i : Int) : L := .fr (.int i)
theorem toDs_map : ∀ ls : List L, L.toDs ls = ls.map L.toD
  | [] => by simp [L.toDs]
  | l :: r => by simp [L.toDs, toDs_map r]
theorem toDs_fr : ∀ ds : List D, L.toDs (ds.map L.fr) = ds
  | [] => by simp [L.toDs]
  | d :: r => by simp [L.toDs, L.toD, toDs_fr r]

def Shape.ok : Shape → Nat → Prop
  | .lst, _ => True
  | .dT ks, n => ks.length = n
  | .dK ks, n => ks.length = n
  | .obj _ ns, n => ns.length = n
def Shape.ho (s : Shape) (dx : Addr) (vs : List V) : HO :=
  match s with
  | .lst => .lst vs
  | .dT ks => .dT (ks.zip vs)
  | .dK ks => .dK (ks.zip vs)
  | .obj C ns => .ins C dx (ns.zip vs)
def Shape.adr (s : Shape) (p dx : Addr) : List Addr :=
  match s with
  | .obj _ _ => [p, dx]
  | _ => [p]
def Shape.own (s : Shape) (H : Hp) (p dx : Addr) : Prop :=
  match s with
  | .obj _ _ => H dx = some (.own p)
  | _ => True
theorem Shape.own_mono {s : Shape} {H H' : Hp} {p dx : Addr} (h : s.own H p dx) (e : ∀ a ∈ s.adr p dx, H' a = H a) : s.own H' p dx := by
  cases s with
  | obj C ns => exact (e dx (by simp [Shape.adr])).trans h
  | _ => trivial
theorem Shape.own_same {s : Shape} {H H' : Hp} {p dx : Addr} (h : s.own H p dx) (e : Same H H') : s.own H' p dx := by
  cases s with
  | obj C ns => exact e _ _ h
  | _ => trivial
theorem Shape.mem_adr {s : Shape} {p dx : Addr} : p ∈ s.adr p dx := by cases s <;> simp [Shape.adr]

/-- a tuple that is tracked -/
def TupAt (K : PySem.W.Frag) (F : Hp) (p : Addr) (vs : List V) : Prop := F p = some (.tup vs)
theorem TupAt.sq {K : PySem.W.Frag} {F : Hp} {p : Addr} {vs : List V} (h : TupAt K F p vs) : SqT K F p vs := .inl (.inl h)
theorem TupAt.mono {K : PySem.W.Frag} {F F' : Hp} {p : Addr} {vs : List V} (h : TupAt K F p vs) (e : Same F F') : TupAt K F' p vs := e _ _ h
mutual
inductive Rep (K : PySem.W.Frag) (F : Hp) : V → D → Prop
  | non : Rep K F .non .non
  | bl (b : Bool) : Rep K F (.bl b) (.bl b)
  | int (i : Int) : Rep K F (.int i) (.int i)
  | str (x : Str) : Rep K F (.str x) (.str x)
  | ref (a : Addr) : Rep K F (.ref a) (.ref a)
  | ty (n : String) : Rep K F (.ty n) (.ty n)
  | kt {p : Addr} : SqT K (fun _ => none) p [] → Rep K F (.ref p) .kt
  | tup {p : Addr} {vs : List V} {ds : List D} : TupAt K F p vs → Reps K F vs ds → Rep K F (.ref p) (.tup ds)
  | ro {p : Addr} {vs : List V} {ds : List D} : SqL K F p vs → Reps K F vs ds → Rep K F (.ref p) (.ro ds)
  | box {p dx : Addr} {s : Shape} {vs : List V} {ds : List D} : F p = some (s.ho dx vs) → s.ok vs.length → s.own F p dx → Reps K F vs ds → Rep K F (.ref p) (.box s ds)
inductive Reps (K : PySem.W.Frag) (F : Hp) : List V → List D → Prop
  | nil : Reps K F [] []
  | cons {v : V} {d : D} {vs : List V} {ds : List D} : Rep K F v d → Reps K F vs ds → Reps K F (v :: vs) (d :: ds)
end

theorem Same.seqT {K : PySem.W.Frag} {H H' : Hp} {a : Addr} {xs : List V} (e : Same H H') (h : SqT K H a xs) : SqT K H' a xs := by
  rcases h with (h | ⟨o, h⟩) | h
  · exact .inl (.inl (e _ _ h))
  · exact .inl (.inr ⟨o, e _ _ h⟩)
  · exact .inr h

section
variable {K : PySem.W.Frag} {F F' : Hp}
mutual
theorem Rep.mono (e : Same F F') : ∀ {v : V} {d : D}, Rep K F v d → Rep K F' v d
  | _, _, .non => .non
  | _, _, .bl b => .bl b
  | _, _, .int i => .int i
  | _, _, .str x => .str x
  | _, _, .ref a => .ref a
  | _, _, .ty a => .ty a
  | _, _, .kt h => .kt h
  | _, _, .tup h r => .tup (h.mono e) (Reps.mono e r)
  | _, _, .ro h r => .ro (e.seq h) (Reps.mono e r)
  | _, _, .box h o w r => .box (e _ _ h) o (Shape.own_same w e) (Reps.mono e r)
theorem Reps.mono (e : Same F F') : ∀ {vs : List V} {ds : List D}, Reps K F vs ds → Reps K F' vs ds
  | _, _, .nil => .nil
  | _, _, .cons h r => .cons (Rep.mono e h) (Reps.mono e r)
end
theorem Reps.length : ∀ {vs : List V} {ds : List D}, Reps K F vs ds → vs.length = ds.length
  | _, _, .nil => rfl
  | _, _, .cons _ r => by simp [Reps.length r]
end

mutual
inductive Own (K : PySem.W.Frag) (F H : Hp) : V → L → List Addr → Prop
  | fr {v : V} {d : D} : Rep K F v d → Own K F H v (.fr d) []
  | box {p dx : Addr} {s : Shape} {ls : List L} {As : List Addr} {vs : List V} : H p = some (s.ho dx vs) → s.ok vs.length → s.own H p dx → Owns K F H vs ls As → Own K F H (.ref p) (.box s ls) (s.adr p dx ++ As)
inductive Owns (K : PySem.W.Frag) (F H : Hp) : List V → List L → List Addr → Prop
  | nil : Owns K F H [] [] []
  | cons {v : V} {l : L} {As : List Addr} {vs : List V} {ls : List L} {Bs : List Addr} : Own K F H v l As → Owns K F H vs ls Bs → Owns K F H (v :: vs) (l :: ls) (As ++ Bs)
end
section
variable {K : PySem.W.Frag} {F F' H H' : Hp}
mutual
theorem Own.mono (e : Same F F') : ∀ {v : V} {l : L} {As : List Addr}, Own K F H v l As → (∀ a ∈ As, H' a = H a) → Own K F' H' v l As
  | _, _, _, .fr r, _ => .fr (r.mono e)
  | _, _, _, .box h o w r, k => .box ((k _ (List.mem_append_left _ Shape.mem_adr)).trans h) o (Shape.own_mono w fun a ha => k a (List.mem_append_left _ ha)) (Owns.mono e r fun a ha => k a (List.mem_append_right _ ha))
theorem Owns.mono (e : Same F F') : ∀ {vs : List V} {ls : List L} {As : List Addr}, Owns K F H vs ls As → (∀ a ∈ As, H' a = H a) → Owns K F' H' vs ls As
  | _, _, _, .nil, _ => .nil
  | _, _, _, .cons h r, k => .cons (Own.mono e h fun a ha => k a (List.mem_append_left _ ha)) (Owns.mono e r fun a ha => k a (List.mem_append_right _ ha))
end
mutual
theorem Own.frz (e : Same F F') : ∀ {v : V} {l : L} {As : List Addr}, Own K F H v l As → (∀ a ∈ As, F' a = H a) → Rep K F' v l.toD
  | _, _, _, .fr r, _ => by rw [L.toD]; exact r.mono e
  | _, _, _, .box h o w r, k => by
    rw [L.toD]
    exact .box ((k _ (List.mem_append_left _ Shape.mem_adr)).trans h) o (Shape.own_mono w fun a ha => k a (List.mem_append_left _ ha)) (Owns.frz e r fun a ha => k a (List.mem_append_right _ ha))
theorem Owns.frz (e : Same F F') : ∀ {vs : List V} {ls : List L} {As : List Addr}, Owns K F H vs ls As → (∀ a ∈ As, F' a = H a) → Reps K F' vs (L.toDs ls)
  | _, _, _, .nil, _ => by rw [L.toDs]; exact .nil
  | _, _, _, .cons h r, k => by
    rw [L.toDs]
    exact .cons (Own.frz e h fun a ha => k a (List.mem_append_left _ ha)) (Owns.frz e r fun a ha => k a (List.mem_append_right _ ha))
end
mutual
theorem Own.there : ∀ {v : V} {l : L} {As : List Addr}, Own K F H v l As → ∀ a ∈ As, ∃ o, H a = some o
  | _, _, _, .fr _, a, ha => absurd ha (by simp)
  | _, _, _, .box (s := s) h _ w r, a, ha => by
    rcases List.mem_append.mp ha with ha | ha
    · cases s with
      | obj C ns =>
        simp only [Shape.adr, List.mem_cons, List.not_mem_nil, or_false] at ha
        rcases ha with rfl | rfl
        · exact ⟨_, h⟩
        · exact ⟨_, w⟩
      | lst => simp only [Shape.adr, List.mem_cons, List.not_mem_nil, or_false] at ha; subst ha; exact ⟨_, h⟩
      | dT ks => simp only [Shape.adr, List.mem_cons, List.not_mem_nil, or_false] at ha; subst ha; exact ⟨_, h⟩
      | dK ks => simp only [Shape.adr, List.mem_cons, List.not_mem_nil, or_false] at ha; subst ha; exact ⟨_, h⟩
    · exact Owns.there r a ha
theorem Owns.there : ∀ {vs : List V} {ls : List L} {As : List Addr}, Owns K F H vs ls As → ∀ a ∈ As, ∃ o, H a = some o
  | _, _, _, .nil, a, ha => absurd ha (by simp)
  | _, _, _, .cons h r, a, ha => (List.mem_append.mp ha).elim (Own.there h a) (Owns.there r a)
end
theorem Shape.nt {s : Shape} {p dx a : Addr} {vs xs : List V} (h : H p = some (s.ho dx vs)) (w : s.own H p dx) (ha : a ∈ s.adr p dx) : H a ≠ some (.tup xs) := by
  intro z
  cases s with
  | obj C ns =>
    simp only [Shape.adr, List.mem_cons, List.not_mem_nil, or_false] at ha
    rcases ha with rfl | rfl
    · rw [h] at z; cases z
    · have w : H a = some (.own p) := w
      rw [w] at z; cases z
  | lst => simp only [Shape.adr, List.mem_cons, List.not_mem_nil, or_false] at ha; subst ha; rw [h] at z; cases z
  | dT ks => simp only [Shape.adr, List.mem_cons, List.not_mem_nil, or_false] at ha; subst ha; rw [h] at z; cases z
  | dK ks => simp only [Shape.adr, List.mem_cons, List.not_mem_nil, or_false] at ha; subst ha; rw [h] at z; cases z
mutual
theorem Own.nt : ∀ {v : V} {l : L} {As : List Addr}, Own K F H v l As → ∀ a ∈ As, ∀ xs, H a ≠ some (.tup xs)
  | _, _, _, .fr _, a, ha, _ => absurd ha (by simp)
  | _, _, _, .box h _ w r, a, ha, xs => (List.mem_append.mp ha).elim (fun z => Shape.nt h w z) fun z => Owns.nt r a z xs
theorem Owns.nt : ∀ {vs : List V} {ls : List L} {As : List Addr}, Owns K F H vs ls As → ∀ a ∈ As, ∀ xs, H a ≠ some (.tup xs)
  | _, _, _, .nil, a, ha, _ => absurd ha (by simp)
  | _, _, _, .cons h r, a, ha, xs => (List.mem_append.mp ha).elim (fun z => Own.nt h a z xs) fun z => Owns.nt r a z xs
end
theorem Owns.length : ∀ {vs : List V} {ls : List L} {As : List Addr}, Owns K F H vs ls As → vs.length = ls.length
  | _, _, _, .nil => rfl
  | _, _, _, .cons _ r => by simp [Owns.length r]
theorem Owns.append : ∀ {vs : List V} {ls : List L} {As : List Addr} {ws : List V} {ms : List L} {Bs : List Addr}, Owns K F H vs ls As → Owns K F H ws ms Bs → Owns K F H (vs ++ ws) (ls ++ ms) (As ++ Bs)
  | _, _, _, _, _, _, .nil, s => s
  | _, _, _, _, _, _, .cons h r, s => by
    rw [List.append_assoc]
    exact .cons h (Owns.append r s)
end
end TL

namespace TL
open PySem PySem.Spec PyProof.Rows L2

section
variable {K : PySem.W.Frag} {F F' R H H' : Hp}
theorem Owns.perm {ps qs : List (V × L)} (h : ps.Perm qs) : ∀ {As : List Addr}, Owns K F H (ps.map (·.1)) (ps.map (·.2)) As → ∃ Bs, As.Perm Bs ∧ Owns K F H (qs.map (·.1)) (qs.map (·.2)) Bs := by
  induction h with
  | nil => intro As o; exact ⟨As, .refl _, o⟩
  | cons x _ ih =>
    intro As o
    cases o with
    | cons o1 o2 =>
      obtain ⟨Bs, p, o3⟩ := ih o2
      exact ⟨_, List.Perm.append_left _ p, .cons o1 o3⟩
  | swap x y l =>
    intro As o
    cases o with
    | cons o1 o2 =>
      cases o2 with
      | cons o2 o3 =>
        refine ⟨_, ?_, .cons o2 (.cons o1 o3)⟩
        rw [← List.append_assoc, ← List.append_assoc]
        exact List.Perm.append_right _ List.perm_append_comm
  | trans _ _ ih1 ih2 =>
    intro As o
    obtain ⟨Bs, p, o1⟩ := ih1 o
    obtain ⟨Cs, q, o2⟩ := ih2 o1
    exact ⟨Cs, p.trans q, o2⟩
theorem Owns.split : ∀ {ps qs : List (V × L)} {As : List Addr}, Owns K F H ((ps ++ qs).map (·.1)) ((ps ++ qs).map (·.2)) As → ∃ A1 A2, As = A1 ++ A2 ∧ Owns K F H (ps.map (·.1)) (ps.map (·.2)) A1 ∧ Owns K F H (qs.map (·.1)) (qs.map (·.2)) A2
  | [], qs, As, o => ⟨[], As, rfl, .nil, o⟩
  | p :: ps, qs, _, .cons o1 o2 => by
    obtain ⟨A1, A2, e, a, b⟩ := Owns.split o2
    exact ⟨_, A2, by rw [e, List.append_assoc], .cons o1 a, b⟩
theorem Owns.join {ps qs : List (V × L)} {A1 A2 : List Addr} (a : Owns K F H (ps.map (·.1)) (ps.map (·.2)) A1) (b : Owns K F H (qs.map (·.1)) (qs.map (·.2)) A2) : Owns K F H ((ps ++ qs).map (·.1)) ((ps ++ qs).map (·.2)) (A1 ++ A2) := by
  rw [List.map_append, List.map_append]
  exact a.append b
theorem map_zip1 : ∀ {vs : List V} {ls : List L}, vs.length = ls.length → (vs.zip ls).map (·.1) = vs
  | [], _, _ => by simp
  | v :: vs, [], h => by simp at h
  | v :: vs, l :: ls, h => by simp [map_zip1 (vs := vs) (ls := ls) (by simpa using h)]
theorem map_zip2 : ∀ {vs : List V} {ls : List L}, vs.length = ls.length → (vs.zip ls).map (·.2) = ls
  | [], [], _ => by simp
  | [], l :: ls, h => by simp at h
  | v :: vs, [], h => by simp at h
  | v :: vs, l :: ls, h => by simp [map_zip2 (vs := vs) (ls := ls) (by simpa using h)]
end

/-- F: known for good; R: not to be touched; the ps are owned, with loose addresses Xs -/
structure Hold (K : PySem.W.Frag) (F R H : Hp) (Xs : List Addr) (ps : List (V × L)) : Prop where
  own : ∃ As, Owns K F H (ps.map (·.1)) (ps.map (·.2)) As ∧ (Xs ++ As).Nodup ∧ ∀ a ∈ Xs ++ As, F a = none ∧ R a = none ∧ ∃ o, H a = some o
  dis : ∀ a, R a = none ∨ F a = none ∨ ∃ xs, R a = some (.tup xs)
  hF : Same F H
  hR : Same R H

section
variable {K : PySem.W.Frag} {F F' R H H' : Hp} {Xs : List Addr} {ps qs : List (V × L)} {v : V} {l : L} {p dx : Addr} {o : HO}
theorem Hold.perm (h : Hold K F R H Xs ps) (e : ps.Perm qs) : Hold K F R H Xs qs := by
  obtain ⟨As, o, nd, n⟩ := h.own
  obtain ⟨Bs, q, o2⟩ := o.perm e
  have q2 := List.Perm.append_left Xs q
  exact ⟨⟨Bs, o2, q2.nodup_iff.mp nd, fun a ha => n a (q2.symm.subset ha)⟩, h.dis, h.hF, h.hR⟩
theorem Hold.dropN (h : Hold K F R H Xs (ps ++ qs)) : Hold K F R H Xs qs := by
  obtain ⟨As, o, nd, n⟩ := h.own
  obtain ⟨A1, A2, e, o1, o2⟩ := o.split
  subst e
  have sub : ∀ a, a ∈ Xs ++ A2 → a ∈ Xs ++ (A1 ++ A2) := fun a ha => by
    rcases List.mem_append.mp ha with ha | ha
    · exact List.mem_append_left _ ha
    · exact List.mem_append_right _ (List.mem_append_right _ ha)
  refine ⟨⟨A2, o2, ?_, fun a ha => n a (sub a ha)⟩, h.dis, h.hF, h.hR⟩
  refine List.Nodup.sublist ?_ nd
  exact List.Sublist.append (List.Sublist.refl _) (List.sublist_append_right _ _)
theorem Hold.drop {x : V × L} (h : Hold K F R H Xs (x :: ps)) : Hold K F R H Xs ps := Hold.dropN (ps := [x]) h
theorem Hold.takeN (h : Hold K F R H Xs (ps ++ qs)) : Hold K F R H Xs ps := (h.perm List.perm_append_comm).dropN
theorem Hold.head (h : Hold K F R H Xs ((v, .fr d) :: ps)) : Rep K F v d := by
  obtain ⟨As, o, nd, n⟩ := h.own
  cases o with
  | cons o1 o2 => cases o1 with | fr r => exact r
theorem Hold.push {d : D} (h : Hold K F R H Xs ps) (r : Rep K F v d) : Hold K F R H Xs ((v, .fr d) :: ps) := by
  obtain ⟨As, o, nd, n⟩ := h.own
  exact ⟨⟨[] ++ As, .cons (.fr r) o, nd, n⟩, h.dis, h.hF, h.hR⟩
theorem Hold.pushs : ∀ {vs : List V} {ds : List D}, Reps K F vs ds → Hold K F R H Xs ps → Hold K F R H Xs (vs.zip (ds.map L.fr) ++ ps)
  | _, _, .nil, h => h
  | _, _, .cons r rr, h => (Hold.pushs rr h).push r
/-- an object of no one's laid, F and R kept -/
theorem Hold.alloc (h : Hold K F R H Xs ps) (hp : H p = none) : Hold K F R (upd H p o) Xs ps := by
  obtain ⟨As, ow, nd, n⟩ := h.own
  have ne : ∀ a u, H a = some u → a ≠ p := fun a u e z => by rw [z, hp] at e; cases e
  refine ⟨⟨As, ow.mono (Same.refl _) fun a ha => ?_, nd, fun a ha => ?_⟩, h.dis, fun b u e => ?_, fun b u e => ?_⟩
  · obtain ⟨_, _, u, e⟩ := n a (List.mem_append_right _ ha)
    exact upd_ne (ne a u e)
  · obtain ⟨x, y, u, e⟩ := n a ha
    exact ⟨x, y, u, by rw [upd_ne (ne a u e)]; exact e⟩
  · rw [upd_ne (ne _ _ (h.hF _ _ e))]; exact h.hF _ _ e
  · rw [upd_ne (ne _ _ (h.hR _ _ e))]; exact h.hR _ _ e
/-- a new thing known for good -/
theorem Hold.known (h : Hold K F R H Xs ps) (hp : H p = none) : Same F (upd F p o) ∧ Hold K (upd F p o) R (upd H p o) Xs ps := by
  have hFp : F p = none := h.hF.free hp
  have hRp : R p = none := h.hR.free hp
  have s : Same F (upd F p o) := fun b u e => by
    rw [upd_ne (fun z => by rw [z, hFp] at e; cases e)]; exact e
  refine ⟨s, ?_⟩
  obtain ⟨As, ow, nd, n⟩ := h.own
  have ne : ∀ a ∈ Xs ++ As, a ≠ p := fun a ha z => by
    obtain ⟨_, _, u, e⟩ := n a ha
    rw [z, hp] at e
    cases e
  refine ⟨⟨As, ow.mono s fun a ha => upd_ne (ne a (List.mem_append_right _ ha)), nd, fun a ha => ?_⟩, fun a => ?_, fun b u e => ?_, fun b u e => ?_⟩
  · obtain ⟨x, y, u, e⟩ := n a ha
    exact ⟨by rw [upd_ne (ne a ha)]; exact x, y, u, by rw [upd_ne (ne a ha)]; exact e⟩
  · by_cases e : a = p
    · rw [e]; exact .inl hRp
    · rw [upd_ne e]; exact h.dis a
  · by_cases z : b = p
    · rw [z, upd_same] at e ⊢; exact e
    · rw [upd_ne z] at e ⊢; exact h.hF _ _ e
  · have z : b ≠ p := fun z => by rw [z, hRp] at e; cases e
    rw [upd_ne z]; exact h.hR _ _ e
/-- what is held becomes known for good -/
theorem Hold.frz (h : Hold K F R H Xs ((v, l) :: ps)) : ∃ F', Same F F' ∧ Hold K F' R H Xs ((v, .fr l.toD) :: ps) := by
  obtain ⟨As, ow, nd, n⟩ := h.own
  cases ow with
  | @cons _ _ A1 _ _ A2 o1 o2 =>
    have nF : ∀ a, a ∈ A1 → F a = none := fun a ha => (n a (List.mem_append_right _ (List.mem_append_left _ ha))).1
    have s : Same F (fun a => if a ∈ A1 then H a else F a) := fun b u e => by
      show (if b ∈ A1 then H b else F b) = some u
      rw [if_neg (fun z => by rw [nF b z] at e; cases e)]; exact e
    have nd2 : (Xs ++ A2).Nodup := List.Nodup.sublist (List.Sublist.append (List.Sublist.refl _) (List.sublist_append_right _ _)) nd
    have dj : ∀ a, a ∈ Xs ++ A2 → a ∉ A1 := fun a ha hb => by
      rw [← List.append_assoc] at nd
      rw [List.nodup_append] at nd
      obtain ⟨q1, q2, q3⟩ := nd
      rw [List.nodup_append] at q1
      obtain ⟨r1, r2, r3⟩ := q1
      rcases List.mem_append.mp ha with ha | ha
      · exact r3 a ha a hb rfl
      · exact q3 a (List.mem_append_right _ hb) a ha rfl
    refine ⟨fun a => if a ∈ A1 then H a else F a, s, ⟨[] ++ A2, .cons (.fr (o1.frz s fun a ha => if_pos ha)) (o2.mono s fun a _ => rfl), nd2, fun a ha => ?_⟩, fun a => ?_, fun b u e => ?_, h.hR⟩
    · have ha' : a ∈ Xs ++ (A1 ++ A2) := by
        rcases List.mem_append.mp ha with z | z
        · exact List.mem_append_left _ z
        · exact List.mem_append_right _ (List.mem_append_right _ z)
      obtain ⟨x, y, z⟩ := n a ha'
      exact ⟨by show (if a ∈ A1 then H a else F a) = none; rw [if_neg (dj a ha)]; exact x, y, z⟩
    · by_cases e : a ∈ A1
      · exact .inl (n a (List.mem_append_right _ (List.mem_append_left _ e))).2.1
      · rcases h.dis a with q | q | q
        · exact .inl q
        · exact .inr (.inl (by show (if a ∈ A1 then H a else F a) = none; rw [if_neg e]; exact q))
        · exact .inr (.inr q)
    · have e' : (if b ∈ A1 then H b else F b) = some u := e
      by_cases z : b ∈ A1
      · rw [if_pos z] at e'; exact e'
      · rw [if_neg z] at e'; exact h.hF _ _ e'
theorem perm_abc (X A B C : List Addr) : (X ++ ((A ++ B) ++ C)).Perm ((A ++ X) ++ (B ++ C)) := by
  simpa [List.append_assoc] using (List.perm_append_comm (l₁ := X) (l₂ := A)).append_right (B ++ C)
/-- what is held is looked into -/
theorem Hold.open {s : Shape} {ls : List L} (h : Hold K F R H Xs ((v, .box s ls) :: ps)) :
    ∃ p dx vs, v = .ref p ∧ H p = some (s.ho dx vs) ∧ s.ok vs.length ∧ s.own H p dx ∧ vs.length = ls.length ∧ Hold K F R H (s.adr p dx ++ Xs) (vs.zip ls ++ ps) := by
  obtain ⟨As, ow, nd, n⟩ := h.own
  cases ow with
  | cons o1 o2 =>
    cases o1 with
    | @box p dx _ _ As vs e1 e2 e3 r =>
      have hl := r.length
      have r2 : Owns K F H ((vs.zip ls).map (·.1)) ((vs.zip ls).map (·.2)) As := by rw [map_zip1 hl, map_zip2 hl]; exact r
      have q := perm_abc Xs (s.adr p dx) As
      exact ⟨p, dx, vs, rfl, e1, e2, e3, hl, ⟨_, r2.join o2, (q _).nodup_iff.mp nd, fun a ha => n a ((q _).symm.subset ha)⟩, h.dis, h.hF, h.hR⟩
/-- .. and closed again -/
theorem Hold.close {s : Shape} (h : Hold K F R H (s.adr p dx ++ Xs) (qs ++ ps)) (e1 : H p = some (s.ho dx (qs.map (·.1)))) (e2 : s.ok qs.length) (e3 : s.own H p dx) : Hold K F R H Xs ((.ref p, .box s (qs.map (·.2))) :: ps) := by
  obtain ⟨As, ow, nd, n⟩ := h.own
  obtain ⟨A1, A2, e, o1, o2⟩ := ow.split
  subst e
  have q := (perm_abc Xs (s.adr p dx) A1 A2).symm
  exact ⟨⟨_, .cons (.box e1 (by simpa using e2) e3 o1) o2, q.nodup_iff.mp nd, fun a ha => n a (q.symm.subset ha)⟩, h.dis, h.hF, h.hR⟩
/-- a loose object is written -/
theorem Hold.write (h : Hold K F R H Xs ps) (hp : p ∈ Xs) : Hold K F R (upd H p o) Xs ps := by
  obtain ⟨As, ow, nd, n⟩ := h.own
  have ne : ∀ a ∈ As, a ≠ p := fun a ha z => by
    rw [List.nodup_append] at nd
    exact nd.2.2 p hp a ha z.symm
  refine ⟨⟨As, ow.mono (Same.refl _) fun a ha => upd_ne (ne a ha), nd, fun a ha => ?_⟩, h.dis, fun b u e => ?_, fun b u e => ?_⟩
  · obtain ⟨x, y, u, e⟩ := n a ha
    refine ⟨x, y, ?_⟩
    by_cases z : a = p
    · exact ⟨o, by rw [z, upd_same]⟩
    · exact ⟨u, by rw [upd_ne z]; exact e⟩
  · have z : b ≠ p := fun z => by rw [z, (n p (List.mem_append_left _ hp)).1] at e; cases e
    rw [upd_ne z]; exact h.hF _ _ e
  · have z : b ≠ p := fun z => by rw [z, (n p (List.mem_append_left _ hp)).2.1] at e; cases e
    rw [upd_ne z]; exact h.hR _ _ e
theorem Shape.own_upd {s : Shape} {o : HO} (h : s.own H p dx) (ne : dx ≠ p) : s.own (upd H p o) p dx := by
  cases s with
  | obj C ns => exact (upd_ne ne).trans h
  | _ => trivial
theorem Shape.ne_of_nodup {s : Shape} {Zs : List Addr} (h : ((s.adr p dx ++ Xs) ++ Zs).Nodup) (hs : ∀ C ns, s = .obj C ns → True) : s.own H p dx → (∀ o, s.own (upd H p o) p dx) := by
  intro w o
  cases s with
  | obj C ns =>
    refine (upd_ne ?_).trans w
    intro z
    subst z
    simp [Shape.adr] at h
  | _ => trivial
/-- .. written and closed -/
theorem Hold.closeW {s s' : Shape} (h : Hold K F R H (s.adr p dx ++ Xs) (qs ++ ps)) (e2 : s'.ok qs.length) (e3 : s.own H p dx) (ha : s'.adr p dx = s.adr p dx) (hs : s.own = s'.own) :
    Hold K F R (upd H p (s'.ho dx (qs.map (·.1)))) Xs ((.ref p, .box s' (qs.map (·.2))) :: ps) := by
  have g := h.write (o := s'.ho dx (qs.map (·.1))) (p := p) (List.mem_append_left _ Shape.mem_adr)
  obtain ⟨As, ow, nd, n⟩ := h.own
  rw [← ha] at g
  exact g.close upd_same e2 (by rw [← hs]; exact Shape.ne_of_nodup nd (fun _ _ _ => trivial) e3 _)
/-- a new box, not an instance -/
theorem Hold.new {s : Shape} (h : Hold K F R H Xs (qs ++ ps)) (hp : H p = none) (hs : s.adr p p = [p]) (hw : s.own (upd H p (s.ho p (qs.map (·.1)))) p p) (e2 : s.ok qs.length) :
    Hold K F R (upd H p (s.ho p (qs.map (·.1)))) Xs ((.ref p, .box s (qs.map (·.2))) :: ps) := by
  have g := h.alloc (o := s.ho p (qs.map (·.1))) hp
  obtain ⟨As, ow, nd, n⟩ := h.own
  have hn : ∀ a ∈ Xs ++ As, a ≠ p := fun a z e => by
    obtain ⟨_, _, u, q⟩ := n a z
    rw [e, hp] at q
    cases q
  refine Hold.close (dx := p) (s := s) ?_ upd_same e2 hw
  rw [hs]
  refine ⟨⟨As, ow.mono (Same.refl _) fun a ha => upd_ne (hn a (List.mem_append_right _ ha)), ?_, fun a ha => ?_⟩, g.dis, g.hF, g.hR⟩
  · show (p :: (Xs ++ As)).Nodup
    exact List.nodup_cons.mpr ⟨fun z => hn p z rfl, nd⟩
  · rcases List.mem_cons.mp (show a ∈ p :: (Xs ++ As) from ha) with z | z
    · subst z
      exact ⟨h.hF.free hp, h.hR.free hp, _, upd_same⟩
    · obtain ⟨x, y, u, q⟩ := n a z
      exact ⟨x, y, u, by rw [upd_ne (hn a z)]; exact q⟩
/-- a part of what is held is lent: it is not to be touched -/
theorem Hold.frameX (h : Hold K F R H Xs (ps ++ qs)) (hX : ∀ a ∈ Xs, ∀ xs, H a ≠ some (.tup xs)) : ∃ R', Same R R' ∧ (∀ a ∈ Xs, R' a = H a) ∧ Hold K F R' H [] ps ∧ ∀ F' H' ps', Same F F' → Hold K F' R' H' [] ps' → Hold K F' R H' Xs (ps' ++ qs) := by
  obtain ⟨As, ow, nd, n⟩ := h.own
  obtain ⟨A1, A2, e, o1, o2⟩ := ow.split
  subst e
  have nX : ∀ a, a ∈ Xs ++ A2 → F a = none ∧ R a = none ∧ ∃ o, H a = some o := fun a ha => by
    rcases List.mem_append.mp ha with z | z
    · exact n a (List.mem_append_left _ z)
    · exact n a (List.mem_append_right _ (List.mem_append_right _ z))
  have ndX : (Xs ++ A2).Nodup := List.Nodup.sublist (List.Sublist.append (List.Sublist.refl _) (List.sublist_append_right _ _)) nd
  have dj : ∀ a, a ∈ A1 → a ∉ Xs ++ A2 := fun a h1 h2 => by
    rw [List.nodup_append] at nd
    obtain ⟨q1, q2, q3⟩ := nd
    rw [List.nodup_append] at q2
    rcases List.mem_append.mp h2 with z | z
    · exact q3 a z a (List.mem_append_left _ h1) rfl
    · exact q2.2.2 a h1 a z rfl
  have sR : Same R (fun a => if a ∈ Xs ++ A2 then H a else R a) := fun b u e => by
    show (if b ∈ Xs ++ A2 then H b else R b) = some u
    rw [if_neg (fun z => by rw [(nX b z).2.1] at e; cases e)]
    exact e
  refine ⟨fun a => if a ∈ Xs ++ A2 then H a else R a, sR, fun a ha => if_pos (List.mem_append_left _ ha), ⟨⟨A1, o1, ?_, fun a ha => ?_⟩, fun a => ?_, h.hF, fun b u e => ?_⟩, fun F' H' ps' s g => ?_⟩
  · rw [List.nodup_append] at nd
    exact (List.nodup_append.mp nd.2.1).1
  · have ha : a ∈ A1 := ha
    obtain ⟨x, y, z⟩ := n a (List.mem_append_right _ (List.mem_append_left _ ha))
    exact ⟨x, by show (if a ∈ Xs ++ A2 then H a else R a) = none; rw [if_neg (dj a ha)]; exact y, z⟩
  · by_cases e : a ∈ Xs ++ A2
    · exact .inr (.inl (nX a e).1)
    · rcases h.dis a with q | q | ⟨xs, q⟩
      · exact .inl (by show (if a ∈ Xs ++ A2 then H a else R a) = none; rw [if_neg e]; exact q)
      · exact .inr (.inl q)
      · exact .inr (.inr ⟨xs, by show (if a ∈ Xs ++ A2 then H a else R a) = _; rw [if_neg e]; exact q⟩)
  · have e' : (if b ∈ Xs ++ A2 then H b else R b) = some u := e
    by_cases z : b ∈ Xs ++ A2
    · rw [if_pos z] at e'; exact e'
    · rw [if_neg z] at e'; exact h.hR _ _ e'
  · obtain ⟨B, ob, ndB, nB⟩ := g.own
    have Rin : ∀ a, a ∈ Xs ++ A2 → (if a ∈ Xs ++ A2 then H a else R a) = H a := fun a ha => if_pos ha
    have there : ∀ a, a ∈ Xs ++ A2 → H' a = H a := fun a ha => by
      obtain ⟨_, _, u, q⟩ := nX a ha
      rw [q]
      exact g.hR _ _ ((Rin a ha).trans q)
    have djB : ∀ a, a ∈ B → a ∉ Xs ++ A2 := fun a ha hb => by
      have z : (if a ∈ Xs ++ A2 then H a else R a) = none := (nB a ha).2.1
      obtain ⟨_, _, u, q⟩ := nX a hb
      rw [if_pos hb, q] at z
      cases z
    refine ⟨⟨B ++ A2, ob.join (o2.mono s fun a ha => there a (List.mem_append_right _ ha)), ?_, fun a ha => ?_⟩, fun a => ?_, g.hF, fun b u e => g.hR _ _ (sR b u e)⟩
    · rw [List.nodup_append] at ndX ⊢
      refine ⟨ndX.1, ?_, fun a ha b hb => ?_⟩
      · rw [List.nodup_append]
        exact ⟨ndB, ndX.2.1, fun a ha b hb e => djB a ha (List.mem_append_right _ (e ▸ hb))⟩
      · rcases List.mem_append.mp hb with z | z
        · exact fun e => djB b z (List.mem_append_left _ (e ▸ ha))
        · exact ndX.2.2 a ha b z
    · have hc : a ∈ B ∨ a ∈ Xs ++ A2 := by
        rcases List.mem_append.mp ha with z | z
        · exact .inr (List.mem_append_left _ z)
        · rcases List.mem_append.mp z with z | z
          · exact .inl z
          · exact .inr (List.mem_append_right _ z)
      rcases hc with z | z
      · obtain ⟨x, y, w⟩ := nB a z
        have y : (if a ∈ Xs ++ A2 then H a else R a) = none := y
        rw [if_neg (djB a z)] at y
        exact ⟨x, y, w⟩
      · obtain ⟨_, y, u, q⟩ := nX a z
        refine ⟨?_, y, u, (there a z).trans q⟩
        rcases g.dis a with d | d | ⟨xs, d⟩
        · have d : (if a ∈ Xs ++ A2 then H a else R a) = none := d
          rw [if_pos z, q] at d
          cases d
        · exact d
        · have d : (if a ∈ Xs ++ A2 then H a else R a) = some (.tup xs) := d
          rw [if_pos z] at d
          rcases List.mem_append.mp z with z | z
          · exact absurd d (hX a z xs)
          · exact absurd d (o2.nt a z xs)
    · rcases g.dis a with d | d | ⟨xs, d⟩
      · have d : (if a ∈ Xs ++ A2 then H a else R a) = none := d
        by_cases z : a ∈ Xs ++ A2
        · exact .inl (nX a z).2.1
        · rw [if_neg z] at d; exact .inl d
      · exact .inr (.inl d)
      · have d : (if a ∈ Xs ++ A2 then H a else R a) = some (.tup xs) := d
        by_cases z : a ∈ Xs ++ A2
        · exact .inl (nX a z).2.1
        · rw [if_neg z] at d; exact .inr (.inr ⟨xs, d⟩)
theorem Hold.frame (h : Hold K F R H Xs (ps ++ qs)) (hX : ∀ a ∈ Xs, ∀ xs, H a ≠ some (.tup xs) := by intro a ha; cases ha) : ∃ R', Same R R' ∧ Hold K F R' H [] ps ∧ ∀ F' H' ps', Same F F' → Hold K F' R' H' [] ps' → Hold K F' R H' Xs (ps' ++ qs) := by
  obtain ⟨R', s, _, g, b⟩ := h.frameX hX
  exact ⟨R', s, g, b⟩
theorem Hold.monoF (h : Hold K F R H Xs ps) : Same F H := h.hF
end

/-! ### slots -/
def slotsP : List (Option V) → List (Option L) → List (V × L)
  | some v :: σ, some l :: env => (v, l) :: slotsP σ env
  | _ :: σ, _ :: env => slotsP σ env
  | _, _ => []
/-- what is told of a slot is of a value -/
def Wf : List (Option V) → List (Option L) → Prop
  | [], [] => True
  | o :: σ, e :: env => (e.isSome = true → o.isSome = true) ∧ Wf σ env
  | _, _ => False
theorem slotsP_none (o : Option V) (σ : List (Option V)) (env : List (Option L)) : slotsP (o :: σ) (none :: env) = slotsP σ env := by
  cases o <;> simp [slotsP]
theorem Wf.get : ∀ {σ : List (Option V)} {env : List (Option L)} {i : Nat} {l : L}, Wf σ env → env[i]? = some (some l) → ∃ v, σ[i]? = some (some v)
  | o :: σ, e :: env, 0, l, h, q => by
    simp at q
    subst q
    have := h.1 rfl
    cases o with
    | none => cases this
    | some v => exact ⟨v, by simp⟩
  | o :: σ, e :: env, i + 1, l, h, q => by
    obtain ⟨v, r⟩ := Wf.get (i := i) h.2 (by simpa using q)
    exact ⟨v, by simpa using r⟩
  | [], [], _, _, _, q => by simp at q
theorem Wf.none : ∀ {σ : List (Option V)} {env : List (Option L)} {i : Nat}, Wf σ env → Wf σ (env.set i .none)
  | [], [], _, _ => trivial
  | o :: σ, e :: env, 0, h => ⟨(fun q => by cases q), h.2⟩
  | o :: σ, e :: env, i + 1, h => ⟨h.1, Wf.none h.2⟩
theorem Wf.setV : ∀ {σ : List (Option V)} {env : List (Option L)} {i : Nat} {v : V} {e : Option L}, Wf σ env → Wf (σ.set i (some v)) (env.set i e)
  | [], [], _, _, _, _ => trivial
  | o :: σ, e :: env, 0, v, _, h => ⟨fun _ => rfl, h.2⟩
  | o :: σ, e :: env, i + 1, v, _, h => ⟨h.1, Wf.setV h.2⟩
theorem Wf.setL : ∀ {σ : List (Option V)} {env : List (Option L)} {i : Nat} {v : V} {e : Option L}, Wf σ env → σ[i]? = some (some v) → Wf σ (env.set i e)
  | [], [], _, _, _, _, _ => trivial
  | o :: σ, e :: env, 0, v, _, h, q => ⟨fun _ => by simp at q; subst q; rfl, h.2⟩
  | o :: σ, e :: env, i + 1, v, _, h, q => ⟨h.1, Wf.setL h.2 (by simpa using q)⟩
theorem Wf.len : ∀ {σ : List (Option V)} {env : List (Option L)}, Wf σ env → σ.length = env.length
  | [], [], _ => rfl
  | o :: σ, e :: env, h => by simp [Wf.len h.2]
theorem slots_get : ∀ {σ : List (Option V)} {env : List (Option L)} {i : Nat} {l : L} {v : V}, env[i]? = some (some l) → σ[i]? = some (some v) → (slotsP σ env).Perm ((v, l) :: slotsP σ (env.set i none))
  | o :: σ, e :: env, 0, l, v, h, q => by
    simp at h q
    subst h; subst q
    simp only [List.set_cons_zero, slotsP_none, slotsP]
    exact .refl _
  | o :: σ, e :: env, i + 1, l, v, h, q => by
    have ih := slots_get (σ := σ) (env := env) (i := i) (by simpa using h) (by simpa using q)
    rw [List.set_cons_succ]
    cases o with
    | none => simpa only [slotsP] using ih
    | some w =>
      cases e with
      | none => simpa only [slotsP] using ih
      | some m =>
        simp only [slotsP]
        exact (List.Perm.cons _ ih).trans (List.Perm.swap _ _ _)
  | [], _, _, _, _, _, q => by simp at q
  | _ :: _, [], _, _, _, h, _ => by simp at h
theorem slots_set : ∀ {σ : List (Option V)} {env : List (Option L)} {i : Nat} {l : L} {v : V}, i < σ.length → σ.length = env.length → (slotsP (σ.set i (some v)) (env.set i (some l))).Perm ((v, l) :: slotsP σ (env.set i none))
  | o :: σ, e :: env, 0, l, v, h, q => by
    simp only [List.set_cons_zero, slotsP_none, slotsP]
    exact .refl _
  | o :: σ, e :: env, i + 1, l, v, h, q => by
    have ih := slots_set (σ := σ) (env := env) (i := i) (l := l) (v := v) (by simpa using h) (by simpa using q)
    rw [List.set_cons_succ, List.set_cons_succ, List.set_cons_succ]
    cases o with
    | none => simpa only [slotsP] using ih
    | some w =>
      cases e with
      | none => simpa only [slotsP] using ih
      | some m =>
        simp only [slotsP]
        exact (List.Perm.cons _ ih).trans (List.Perm.swap _ _ _)
  | [], _, _, _, _, h, _ => by simp at h
  | _ :: _, [], _, _, _, _, q => by simp at q
theorem slots_setN : ∀ {σ : List (Option V)} {env : List (Option L)} {i : Nat} {o : Option V}, slotsP (σ.set i o) (env.set i none) = slotsP σ (env.set i none)
  | o :: σ, e :: env, 0, _ => by simp only [List.set_cons_zero, slotsP_none]
  | o :: σ, e :: env, i + 1, _ => by
    have ih := fun o => slots_setN (σ := σ) (env := env) (i := i) (o := o)
    rw [List.set_cons_succ, List.set_cons_succ]
    cases o <;> cases e <;> simp only [slotsP, ih]
  | [], _, _, _ => by simp
  | _ :: _, [], i, _ => by cases i <;> simp [slotsP]
theorem slots_put : ∀ {σ : List (Option V)} {env : List (Option L)} {i : Nat} {l : L} {v : V}, σ[i]? = some (some v) → i < env.length → (slotsP σ (env.set i (some l))).Perm ((v, l) :: slotsP σ (env.set i none)) := fun {σ env i l v} h q => by
  have r := slots_get (σ := σ) (env := env.set i (some l)) (i := i) (l := l) (v := v) (by simp [q]) h
  simpa using r
end TL

namespace TL
open PySem PySem.Spec PyProof.Rows L2

/-! ### what stands in the slots, as trees -/
abbrev Ev := List (Option L)
abbrev DE := Ev → (L → Ev → Prop) → Prop
abbrev DT := Ev → (Bool → Ev → Prop) → Prop
abbrev DA := Ev → (List (L × Option Nat) → Ev → Prop) → Prop
structure DEnds where
  nx : Ev → Prop
  rt : L → Ev → Prop
  bk : Ev → Prop := fun _ => False
  ct : Ev → Prop := fun _ => False
abbrev DS := DEnds → Ev → Prop
abbrev DG := L → Ev → (Ev → Prop) → Prop
abbrev DGs := List L → Ev → (Ev → Prop) → Prop
/-- an exception: its class, its fields -/
structure DX where
  cls : Value
  ns : List Str
  ds : List D
/-- a def's contract: the arguments, what is wanted of the answer and the arguments behind it, what is wanted of an exception -/
abbrev Con := List L → (L → List L → Prop) → (DX → List L → Prop) → Prop

/-- the frame of one call: what is known and what is not to be touched at its entry, the slots that keep their value -/
structure Act where
  F0 : Hp
  R0 : Hp
  fx : List (Nat × Option V)
  n : Nat
structure At (Y : Act) (K : PySem.W.Frag) (F R H : Hp) (σ : L2.St) (env : Ev) : Prop where
  f : Same Y.F0 F
  r : Same Y.R0 R
  fx : ∀ q ∈ Y.fx, σ[q.1]? = some q.2
  len : σ.length = Y.n
  wf : Wf σ env
  hold : Hold K F R H [] (slotsP σ env)
theorem At.to {Y : Act} {K : PySem.W.Frag} {F F' R H H' : Hp} {σ : L2.St} {env env' : Ev} (a : At Y K F R H σ env) (s : Same F F') (w : Wf σ env') (h : Hold K F' R H' [] (slotsP σ env')) : At Y K F' R H' σ env' :=
  ⟨a.f.trans s, a.r, a.fx, a.len, w, h⟩

def lift (Y : Act) (K : PySem.W.Frag) (t : DE) : TE := fun σ H Q => ∃ F R env k, At Y K F R H σ env ∧ t env k ∧
  ∀ l env' v F' H', k l env' → Same F F' → Wf σ env' → Hold K F' R H' [] ((v, l) :: slotsP σ env') → Q v H'
def liftT (Y : Act) (K : PySem.W.Frag) (t : DT) : TT := fun σ H Q => ∃ F R env k, At Y K F R H σ env ∧ t env k ∧
  ∀ b env' F' H', k b env' → Same F F' → Wf σ env' → Hold K F' R H' [] (slotsP σ env') → Q b H'
def Marks (σ : L2.St) : List V → List (L × Option Nat) → Prop
  | [], [] => True
  | v :: vs, x :: xs => (∀ i, x.2 = some i → σ[i]? = some (some v)) ∧ Marks σ vs xs
  | _, _ => False
def liftA (Y : Act) (K : PySem.W.Frag) (t : DA) : TA := fun σ H Q => ∃ F R env k, At Y K F R H σ env ∧ t env k ∧
  ∀ xs env' vs F' H', k xs env' → Same F F' → Wf σ env' → Marks σ vs xs → Hold K F' R H' [] (vs.zip (xs.map (·.1)) ++ slotsP σ env') → Q vs H'
structure Link (Y : Act) (K : PySem.W.Frag) (F R : Hp) (De : DEnds) (D : Ends) : Prop where
  nx : ∀ env' σ' F' H', De.nx env' → Same F F' → At Y K F' R H' σ' env' → D.nx σ' H'
  rt : ∀ l env' v σ' F' H', De.rt l env' → Same F F' → (∀ q ∈ Y.fx, σ'[q.1]? = some q.2) → Wf σ' env' → Hold K F' R H' [] ((v, l) :: slotsP σ' env') → D.rt v H'
  bk : ∀ env' σ' F' H', De.bk env' → Same F F' → At Y K F' R H' σ' env' → D.bk σ' H'
  ct : ∀ env' σ' F' H', De.ct env' → Same F F' → At Y K F' R H' σ' env' → D.ct σ' H'
theorem Link.to {Y : Act} {K : PySem.W.Frag} {F F' R : Hp} {De : DEnds} {D : Ends} (k : Link Y K F R De D) (s : Same F F') : Link Y K F' R De D :=
  ⟨fun _ _ _ _ h e => k.nx _ _ _ _ h (s.trans e), fun _ _ _ _ _ _ h e => k.rt _ _ _ _ _ _ h (s.trans e), fun _ _ _ _ h e => k.bk _ _ _ _ h (s.trans e), fun _ _ _ _ h e => k.ct _ _ _ _ h (s.trans e)⟩
def liftS (Y : Act) (K : PySem.W.Frag) (t : DS) : TS := fun D σ H => ∃ F R env De, At Y K F R H σ env ∧ t De env ∧ Link Y K F R De D
def liftG (Y : Act) (K : PySem.W.Frag) (g : DG) : TG := fun v σ H Q => ∃ F R env l k, At Y K F R H σ env ∧ Hold K F R H [] ((v, l) :: slotsP σ env) ∧ g l env k ∧
  ∀ env' σ' F' H', k env' → Same F F' → At Y K F' R H' σ' env' → Q σ' H'
def liftGs (Y : Act) (K : PySem.W.Frag) (g : DGs) : TGs := fun vs σ H Q => ∃ F R env ls k, At Y K F R H σ env ∧ vs.length = ls.length ∧ Hold K F R H [] (vs.zip ls ++ slotsP σ env) ∧ g ls env k ∧
  ∀ env' σ' F' H', k env' → Same F F' → At Y K F' R H' σ' env' → Q σ' H'

/-- weaker readings -/
theorem PE.imp {X : Cx} {e : Expr} {t t' : TE} (h : PE X e t) (i : ∀ σ H Q, t' σ H Q → t σ H Q) : PE X e t' := ⟨fun pins s σ H Q I q => h.run pins s σ H Q I (i _ _ _ q)⟩
theorem PT.imp {X : Cx} {e : Expr} {t t' : TT} (h : PT X e t) (i : ∀ σ H Q, t' σ H Q → t σ H Q) : PT X e t' := ⟨fun pins s σ H Q I q => h.run pins s σ H Q I (i _ _ _ q)⟩
theorem PW.imp {X : Cx} {e : Expr} {t t' : TT} (h : PW X e t) (i : ∀ σ H Q, t' σ H Q → t σ H Q) : PW X e t' := ⟨fun wh pins s σ H Q I q => h.run wh pins s σ H Q I (i _ _ _ q)⟩
theorem PA.imp {X : Cx} {e : List Expr} {t t' : TA} (h : PA X e t) (i : ∀ σ H Q, t' σ H Q → t σ H Q) : PA X e t' := ⟨fun p pins s σ H Q I q => h.run p pins s σ H Q I (i _ _ _ q)⟩
theorem PS.imp {X : Cx} {e : Stmt} {t t' : TS} (h : PS X e t) (i : ∀ D σ H, t' D σ H → t D σ H) : PS X e t' := ⟨fun pins s σ H Q I q => h.run pins s σ H Q I (i _ _ _ q)⟩
theorem PSs.imp {X : Cx} {e : List Stmt} {t t' : TS} (h : PSs X e t) (i : ∀ D σ H, t' D σ H → t D σ H) : PSs X e t' := ⟨fun pins s σ H Q I q => h.run pins s σ H Q I (i _ _ _ q)⟩
theorem PG.imp {X : Cx} {e : Expr} {t t' : TG} (h : PG X e t) (i : ∀ v σ H Q, t' v σ H Q → t v σ H Q) : PG X e t' := ⟨fun pins s σ H v u Q I r q => h.run pins s σ H v u Q I r (i _ _ _ _ q)⟩
theorem PGs.imp {X : Cx} {e : List Expr} {t t' : TGs} (h : PGs X e t) (i : ∀ v σ H Q, t' v σ H Q → t v σ H Q) : PGs X e t' := ⟨fun pins s σ H v u Q I r q => h.run pins s σ H v u Q I r (i _ _ _ _ q)⟩

section
variable {X : Cx} {Y : Act} {e a b c : Expr} {es : List Expr} {pos : Pos} {ta tb : DE} {t u : DE}

/-! ### names, constants -/
/-- the name's value; what was owned is known from now on -/
def dVar (i : Nat) : DE := fun env Q => match env[i]? with
  | some (some (.fr d)) => Q (.fr d) env
  | some (some l) => Q (.fr l.toD) (env.set i (some (.fr l.toD)))
  | _ => False
/-- the name's value is handed on, with all that it owns -/
def dTake (i : Nat) : DE := fun env Q => match env[i]? with
  | some (some l) => Q l (env.set i none)
  | _ => False
def dC (d : D) : DE := fun env Q => Q (.fr d) env
theorem set_self : ∀ {env : Ev} {i : Nat} {o : Option L}, env[i]? = some o → env.set i o = env := fun {env i o} h => by
  obtain ⟨hi, e⟩ := List.getElem?_eq_some_iff.mp h
  rw [← e]
  exact List.set_getElem_self hi
theorem de_take {i : Nat} (h : PE X e (tVar i)) : PE X e (lift Y X.K (dTake i)) := by
  refine PE.imp h fun σ H Q ⟨F, R, env, k, a, q, kk⟩ => ?_
  unfold dTake at q
  cases he : env[i]? with
  | none => rw [he] at q; exact q.elim
  | some o =>
    cases o with
    | none => rw [he] at q; exact q.elim
    | some l =>
      rw [he] at q
      obtain ⟨v, hv⟩ := a.wf.get he
      exact ⟨v, hv, kk _ _ v F H q (Same.refl _) a.wf.none (a.hold.perm (slots_get he hv))⟩
theorem de_var {i : Nat} (h : PE X e (tVar i)) : PE X e (lift Y X.K (dVar i)) := by
  refine PE.imp h fun σ H Q ⟨F, R, env, k, a, q, kk⟩ => ?_
  unfold dVar at q
  cases he : env[i]? with
  | none => rw [he] at q; exact q.elim
  | some o =>
    cases o with
    | none => rw [he] at q; exact q.elim
    | some l =>
      obtain ⟨v, hv⟩ := a.wf.get he
      have hp := a.hold.perm (slots_get he hv)
      have hi : i < env.length := (List.getElem?_eq_some_iff.mp he).1
      cases l with
      | fr d =>
        rw [he] at q
        exact ⟨v, hv, kk _ _ v F H q (Same.refl _) a.wf (a.hold.push hp.head)⟩
      | box s ls =>
        rw [he] at q
        obtain ⟨F', s', g⟩ := hp.frz
        exact ⟨v, hv, kk _ _ v F' H q s' (a.wf.setL hv) (Hold.push (g.perm (slots_put hv hi).symm) g.head)⟩
theorem de_c {v : V} {d : D} (h : PE X e (tC v)) (r : ∀ F, Rep X.K F v d) : PE X e (lift Y X.K (dC d)) := by
  refine PE.imp h fun σ H Q ⟨F, R, env, k, a, q, kk⟩ => ?_
  exact kk _ _ v F H q (Same.refl _) a.wf (a.hold.push (r F))
theorem de_int {i j} : PE X (.Constant (.int i) j pos) (lift Y X.K (dC (.int i))) := de_c pe_int fun _ => .int i
theorem de_bl {i j} : PE X (.Constant (.bool i) j pos) (lift Y X.K (dC (.bl i))) := de_c pe_bl fun _ => .bl i
theorem de_non {j} : PE X (.Constant .none j pos) (lift Y X.K (dC .non)) := de_c pe_non fun _ => .non
theorem de_str {i j} : PE X (.Constant (.str i) j pos) (lift Y X.K (dC (.str i))) := de_c pe_str fun _ => .str i

/-! ### operators by trees -/
abbrev Op2 := D → D → (L → Prop) → Prop
def liftO (K : PySem.W.Frag) (f : Op2) : R2 := fun x y H Q => ∃ F R ps da db k, Hold K F R H [] ps ∧ Rep K F x da ∧ Rep K F y db ∧ f da db k ∧
  ∀ l v F' H', k l → Same F F' → Hold K F' R H' [] ((v, l) :: ps) → Q v H'
def dOp (f : Op2) (ta tb : DE) : DE := fun env Q => ta env fun la env1 => tb env1 fun lb env2 => f la.toD lb.toD fun r => Q r env2
theorem lift_op {f : Op2} {σ : L2.St} {H : Hp} {Q : VK} (h : lift Y X.K (dOp f ta tb) σ H Q) : tOp (liftO X.K f) (lift Y X.K ta) (lift Y X.K tb) σ H Q := by
  obtain ⟨F, R, env, k, a, q, kk⟩ := h
  refine ⟨F, R, env, _, a, q, fun la env1 x F1 H1 q1 s1 w1 g1 => ?_⟩
  obtain ⟨F2, s2, g2⟩ := g1.frz
  refine ⟨F2, R, env1, _, a.to (s1.trans s2) w1 g2.drop, q1, fun lb env2 y F3 H3 q3 s3 w3 g3 => ?_⟩
  obtain ⟨F4, s4, g4⟩ := g3.frz
  exact ⟨F4, R, _, _, _, _, g4.drop, (g2.head).mono (s3.trans s4), g4.head, q3, fun l v F5 H5 q5 s5 g5 => kk l env2 v F5 H5 q5 (((s1.trans s2).trans (s3.trans s4)).trans s5) w3 g5⟩
theorem de_op {op : Operator} {f : Op2} (ho : OpR X (binaryOp op) (liftO X.K f)) (ha : PE X a (lift Y X.K ta)) (hb : PE X b (lift Y X.K tb)) : PE X (.BinOp a op b pos) (lift Y X.K (dOp f ta tb)) :=
  PE.imp (pe_op ho ha hb) fun _ _ _ h => lift_op h
theorem de_cmp {op : CmpOp} {f : Op2} (ho : OpR X (compareOp op) (liftO X.K f)) (ha : PE X a (lift Y X.K ta)) (hb : PE X b (lift Y X.K tb)) (hm : behindInMarks op b = false) : PE X (.Compare a [op] [b] pos) (lift Y X.K (dOp f ta tb)) :=
  PE.imp (pe_cmpR ho ha hb hm) fun _ _ _ h => lift_op h
/-- a value that is a bool, as a test -/
def dB (t : DE) : DT := fun env Q => t env fun l env' => ∃ c, l = .fr (.bl c) ∧ Q c env'
theorem Rep.bl_inv {K : PySem.W.Frag} {F : Hp} {v : V} {c : Bool} (h : Rep K F v (.bl c)) : v = .bl c := by cases h; rfl
theorem Rep.int_inv {K : PySem.W.Frag} {F : Hp} {v : V} {c : Int} (h : Rep K F v (.int c)) : v = .int c := by cases h; rfl
theorem Rep.str_inv {K : PySem.W.Frag} {F : Hp} {v : V} {c : Str} (h : Rep K F v (.str c)) : v = .str c := by cases h; rfl
theorem Rep.non_inv {K : PySem.W.Frag} {F : Hp} {v : V} (h : Rep K F v .non) : v = .non := by cases h; rfl
theorem lift_b {t : DE} {σ : L2.St} {H : Hp} {Q : Bool → Hp → Prop} (h : liftT Y X.K (dB t) σ H Q) : (lift Y X.K t) σ H fun x H1 => ∃ c, x = .bl c ∧ Q c H1 := by
  obtain ⟨F, R, env, k, a, q, kk⟩ := h
  refine ⟨F, R, env, _, a, q, fun l env' v F' H' ⟨c, e, q'⟩ s w g => ?_⟩
  subst e
  exact ⟨c, g.head.bl_inv, kk c env' F' H' q' s w g.drop⟩
theorem dt_val {t : DE} (h : PE X e (lift Y X.K t)) (he : ∀ whole, isTrue e X.env whole = (do let v ← whole; standAt e.pos; holding [v] (truthy v)) := by intro _; rfl) : PT X e (liftT Y X.K (dB t)) :=
  PT.imp (pt_val h he) fun _ _ _ h => lift_b h
theorem dt_cmp {op : CmpOp} {f : Op2} (ho : OpR X (compareOp op) (liftO X.K f)) (ha : PE X a (lift Y X.K ta)) (hb : PE X b (lift Y X.K tb)) (hm : behindInMarks op b = false) : PT X (.Compare a [op] [b] pos) (liftT Y X.K (dB (dOp f ta tb))) :=
  PT.imp (pt_cmpR ho ha hb hm) fun σ H Q h => by
    obtain ⟨F, R, env, k, a, q, kk⟩ := h
    refine lift_op (Y := Y) ⟨F, R, env, _, a, q, fun l env' v F' H' ⟨c, e, q'⟩ s w g => ?_⟩
    subst e
    exact ⟨c, g.head.bl_inv, kk c env' F' H' q' s w g.drop⟩
/-- a chain of two comparisons -/
def dChain (f f' : Op2) (ta tb tc : DE) : DE := fun env Q => ta env fun la env1 => tb env1 fun lb env2 => f la.toD lb.toD fun r => ∃ c, r = .fr (.bl c) ∧
  (if c = true then tc env2 fun lc env3 => f' lb.toD lc.toD fun r' => Q r' env3 else Q (.fr (.bl false)) env2)
theorem lift_chain {f f' : Op2} {tc : DE} {σ : L2.St} {H : Hp} {Q : VK} (h : lift Y X.K (dChain f f' ta tb tc) σ H Q) : tChain (liftO X.K f) (liftO X.K f') (lift Y X.K ta) (lift Y X.K tb) (lift Y X.K tc) σ H Q := by
  obtain ⟨F, R, env, k, a, q, kk⟩ := h
  refine ⟨F, R, env, _, a, q, fun la env1 x F1 H1 q1 s1 w1 g1 => ?_⟩
  obtain ⟨F2, s2, g2⟩ := g1.frz
  refine ⟨F2, R, env1, _, a.to (s1.trans s2) w1 g2.drop, q1, fun lb env2 y F3 H3 q3 s3 w3 g3 => ?_⟩
  obtain ⟨F4, s4, g4⟩ := g3.frz
  refine ⟨F4, R, _, _, _, _, g4.drop, (g2.head).mono (s3.trans s4), g4.head, q3, fun l v F5 H5 q5 s5 g5 => ?_⟩
  obtain ⟨c, e, q5⟩ := q5
  subst e
  refine ⟨c, g5.head.bl_inv, ?_⟩
  have s05 := ((s1.trans s2).trans (s3.trans s4)).trans s5
  cases c with
  | false =>
    rw [if_neg Bool.false_ne_true] at q5 ⊢
    exact kk _ env2 _ F5 H5 q5 s05 w3 (g5.drop.push (.bl false))
  | true =>
    rw [if_pos rfl] at q5 ⊢
    refine ⟨F5, R, env2, _, a.to s05 w3 g5.drop, q5, fun lc env3 z F6 H6 q6 s6 w6 g6 => ?_⟩
    obtain ⟨F7, s7, g7⟩ := g6.frz
    exact ⟨F7, R, _, _, _, _, g7.drop, (g4.head).mono (s5.trans (s6.trans s7)), g7.head, q6, fun l v F8 H8 q8 s8 g8 => kk l env3 v F8 H8 q8 (s05.trans ((s6.trans s7).trans s8)) w6 g8⟩
theorem de_chain {op op' : CmpOp} {f f' : Op2} {tc : DE} (ho : OpR X (compareOp op) (liftO X.K f)) (ho' : OpR X (compareOp op') (liftO X.K f')) (ha : PE X a (lift Y X.K ta)) (hb : PE X b (lift Y X.K tb)) (hc : PE X c (lift Y X.K tc))
    (hm : lastMarks [op, op'] [b, c] = false := by with_unfolding_all rfl) : PE X (.Compare a [op, op'] [b, c] pos) (lift Y X.K (dChain f f' ta tb tc)) :=
  PE.imp (pe_chain ho ho' ha hb hc hm) fun _ _ _ h => lift_chain h
theorem dt_chain {op op' : CmpOp} {f f' : Op2} {tc : DE} (ho : OpR X (compareOp op) (liftO X.K f)) (ho' : OpR X (compareOp op') (liftO X.K f')) (ha : PE X a (lift Y X.K ta)) (hb : PE X b (lift Y X.K tb)) (hc : PE X c (lift Y X.K tc))
    (hm : lastMarks [op, op'] [b, c] = false := by with_unfolding_all rfl) : PT X (.Compare a [op, op'] [b, c] pos) (liftT Y X.K (dB (dChain f f' ta tb tc))) :=
  PT.imp (pt_chain ho ho' ha hb hc hm) fun σ H Q h => by
    obtain ⟨F, R, env, k, a, q, kk⟩ := h
    refine lift_chain (Y := Y) ⟨F, R, env, _, a, q, fun l env' v F' H' ⟨c, e, q'⟩ s w g => ?_⟩
    subst e
    exact ⟨c, g.head.bl_inv, kk c env' F' H' q' s w g.drop⟩

/-! ### and, or, not, if else -/
def dAnd (t u : DT) : DT := fun env Q => t env fun c env1 => if c = true then u env1 Q else Q false env1
def dOr (t u : DT) : DT := fun env Q => t env fun c env1 => if c = true then Q true env1 else u env1 Q
def dNot (t : DT) : DT := fun env Q => t env fun c env1 => Q (!c) env1
theorem dw_and1 {tA : DT} (h : PT X a (liftT Y X.K tA)) : PW X (.BoolOp .And [a] pos) (liftT Y X.K tA) := pw_and1 h
theorem dw_or1 {tA : DT} (h : PT X a (liftT Y X.K tA)) : PW X (.BoolOp .Or [a] pos) (liftT Y X.K tA) := pw_or1 h
theorem dw_and {tA tB' : DT} {rest : List Expr} (ha : PT X a (liftT Y X.K tA)) (hb : PW X (.BoolOp .And (b :: rest) pos) (liftT Y X.K tB')) : PW X (.BoolOp .And (a :: b :: rest) pos) (liftT Y X.K (dAnd tA tB')) :=
  PW.imp (pw_and ha hb) fun σ H Q ⟨F, R, env, k, a, q, kk⟩ => by
    refine ⟨F, R, env, _, a, q, fun c env' F' H' q' s w g => ?_⟩
    cases c with
    | true => exact ⟨F', R, env', k, a.to s w g, (if_pos rfl).mp q', fun b env2 F2 H2 q2 s2 w2 g2 => kk b env2 F2 H2 q2 (s.trans s2) w2 g2⟩
    | false => exact kk false env' F' H' ((if_neg Bool.false_ne_true).mp q') s w g
theorem dw_or {tA tB' : DT} {rest : List Expr} (ha : PT X a (liftT Y X.K tA)) (hb : PW X (.BoolOp .Or (b :: rest) pos) (liftT Y X.K tB')) : PW X (.BoolOp .Or (a :: b :: rest) pos) (liftT Y X.K (dOr tA tB')) :=
  PW.imp (pw_or ha hb) fun σ H Q ⟨F, R, env, k, a, q, kk⟩ => by
    refine ⟨F, R, env, _, a, q, fun c env' F' H' q' s w g => ?_⟩
    cases c with
    | false => exact ⟨F', R, env', k, a.to s w g, (if_neg Bool.false_ne_true).mp q', fun b env2 F2 H2 q2 s2 w2 g2 => kk b env2 F2 H2 q2 (s.trans s2) w2 g2⟩
    | true => exact kk true env' F' H' ((if_pos rfl).mp q') s w g
theorem dt_not {tA : DT} (ha : PT X a (liftT Y X.K tA)) : PT X (.UnaryOp .Not a pos) (liftT Y X.K (dNot tA)) :=
  PT.imp (pt_not ha) fun σ H Q ⟨F, R, env, k, a, q, kk⟩ => ⟨F, R, env, _, a, q, fun c env' F' H' q' s w g => kk _ env' F' H' q' s w g⟩
/-- .. as values -/
def dAndV (ta tb : DE) : DE := fun env Q => ta env fun l env1 => ∃ c, l = .fr (.bl c) ∧ if c = true then tb env1 Q else Q (.fr (.bl false)) env1
def dOrV (ta tb : DE) : DE := fun env Q => ta env fun l env1 => ∃ c, l = .fr (.bl c) ∧ if c = true then Q (.fr (.bl true)) env1 else tb env1 Q
def dNotV (ta : DE) : DE := fun env Q => ta env fun l env1 => ∃ c, l = .fr (.bl c) ∧ Q (.fr (.bl (!c))) env1
theorem de_one {op} (h : PE X a (lift Y X.K t)) : PE X (.BoolOp op [a] pos) (lift Y X.K t) := pe_one h
theorem de_and {rest : List Expr} (ha : PE X a (lift Y X.K ta)) (hb : PE X (.BoolOp .And (b :: rest) pos) (lift Y X.K tb)) : PE X (.BoolOp .And (a :: b :: rest) pos) (lift Y X.K (dAndV ta tb)) :=
  PE.imp (pe_and ha hb) fun σ H Q ⟨F, R, env, k, a, q, kk⟩ => by
    refine ⟨F, R, env, _, a, q, fun l env' v F' H' ⟨c, e, q'⟩ s w g => ?_⟩
    subst e
    refine ⟨c, g.head.bl_inv, ?_⟩
    cases c with
    | true => exact (if_pos rfl).mpr ⟨F', R, env', k, a.to s w g.drop, (if_pos rfl).mp q', fun l env2 v F2 H2 q2 s2 w2 g2 => kk l env2 v F2 H2 q2 (s.trans s2) w2 g2⟩
    | false => exact (if_neg Bool.false_ne_true).mpr (kk _ env' _ F' H' ((if_neg Bool.false_ne_true).mp q') s w (g.drop.push (.bl false)))
theorem de_or {rest : List Expr} (ha : PE X a (lift Y X.K ta)) (hb : PE X (.BoolOp .Or (b :: rest) pos) (lift Y X.K tb)) : PE X (.BoolOp .Or (a :: b :: rest) pos) (lift Y X.K (dOrV ta tb)) :=
  PE.imp (pe_or ha hb) fun σ H Q ⟨F, R, env, k, a, q, kk⟩ => by
    refine ⟨F, R, env, _, a, q, fun l env' v F' H' ⟨c, e, q'⟩ s w g => ?_⟩
    subst e
    refine ⟨c, g.head.bl_inv, ?_⟩
    cases c with
    | false => exact (if_neg Bool.false_ne_true).mpr ⟨F', R, env', k, a.to s w g.drop, (if_neg Bool.false_ne_true).mp q', fun l env2 v F2 H2 q2 s2 w2 g2 => kk l env2 v F2 H2 q2 (s.trans s2) w2 g2⟩
    | true => exact (if_pos rfl).mpr (kk _ env' _ F' H' ((if_pos rfl).mp q') s w (g.drop.push (.bl true)))
theorem de_not (ha : PE X a (lift Y X.K ta)) : PE X (.UnaryOp .Not a pos) (lift Y X.K (dNotV ta)) :=
  PE.imp (pe_not ha) fun σ H Q ⟨F, R, env, k, a, q, kk⟩ => by
    refine ⟨F, R, env, _, a, q, fun l env' v F' H' ⟨c, e, q'⟩ s w g => ?_⟩
    subst e
    exact ⟨c, g.head.bl_inv, kk _ env' _ F' H' q' s w (g.drop.push (.bl _))⟩
def dIf (t : DT) (ta tb : DE) : DE := fun env Q => t env fun c env1 => if c = true then ta env1 Q else tb env1 Q
theorem de_if {tc : DT} (hc : PT X c (liftT Y X.K tc)) (ha : PE X a (lift Y X.K ta)) (hb : PE X b (lift Y X.K tb)) : PE X (.IfExp c a b pos) (lift Y X.K (dIf tc ta tb)) :=
  PE.imp (pe_ifExp hc ha hb) fun σ H Q ⟨F, R, env, k, a, q, kk⟩ => by
    refine ⟨F, R, env, _, a, q, fun c env' F' H' q' s w g => ?_⟩
    cases c with
    | true => exact (if_pos rfl).mpr ⟨F', R, env', k, a.to s w g, (if_pos rfl).mp q', fun l env2 v F2 H2 q2 s2 w2 g2 => kk l env2 v F2 H2 q2 (s.trans s2) w2 g2⟩
    | false => exact (if_neg Bool.false_ne_true).mpr ⟨F', R, env', k, a.to s w g, (if_neg Bool.false_ne_true).mp q', fun l env2 v F2 H2 q2 s2 w2 g2 => kk l env2 v F2 H2 q2 (s.trans s2) w2 g2⟩

/-! ### arguments, displays -/
def daNil : DA := fun env Q => Q [] env
/-- by value: known for good from now on -/
def daCons (t : DE) (r : DA) : DA := fun env Q => t env fun l env1 => r env1 fun xs env2 => Q ((.fr l.toD, none) :: xs) env2
/-- handed on with all that it owns -/
def daOwn (t : DE) (r : DA) : DA := fun env Q => t env fun l env1 => r env1 fun xs env2 => Q ((l, none) :: xs) env2
/-- lent by the slot i, behind the arguments that follow -/
def daBor (i : Nat) (r : DA) : DA := fun env Q => match env[i]? with
  | some (some _) => r env fun xs env2 => (match env2[i]? with
    | some (some l) => Q ((l, some i) :: xs) (env2.set i none)
    | _ => False)
  | _ => False
theorem da_nil : PA X [] (liftA Y X.K daNil) := PA.imp pa_nil fun σ H Q ⟨F, R, env, k, a, q, kk⟩ => kk [] env [] F H q (Same.refl _) a.wf True.intro a.hold
theorem da_cons {r : DA} (ha : PE X e (lift Y X.K t)) (hr : PA X es (liftA Y X.K r)) (hs : starEach (e :: es) X.env = (false, eval e X.env) :: starEach es X.env := by rfl) : PA X (e :: es) (liftA Y X.K (daCons t r)) :=
  PA.imp (pa_cons ha hr hs) fun σ H Q ⟨F, R, env, k, a, q, kk⟩ => by
    refine ⟨F, R, env, _, a, q, fun l env1 v F1 H1 q1 s1 w1 g1 => ?_⟩
    obtain ⟨F2, s2, g2⟩ := g1.frz
    refine ⟨F2, R, env1, _, a.to (s1.trans s2) w1 g2.drop, q1, fun xs env2 vs F3 H3 q3 s3 w3 m3 g3 => ?_⟩
    exact kk _ env2 (v :: vs) F3 H3 q3 ((s1.trans s2).trans s3) w3 ⟨fun i z => by (simp at z), m3⟩ (g3.push (g2.head.mono s3))
theorem da_own {r : DA} (ha : PE X e (lift Y X.K t)) (hr : PA X es (liftA Y X.K r)) (hs : starEach (e :: es) X.env = (false, eval e X.env) :: starEach es X.env := by rfl) : PA X (e :: es) (liftA Y X.K (daOwn t r)) :=
  PA.imp (pa_cons ha hr hs) fun σ H Q ⟨F, R, env, k, a, q, kk⟩ => by
    refine ⟨F, R, env, _, a, q, fun l env1 v F1 H1 q1 s1 w1 g1 => ?_⟩
    obtain ⟨R', sR, g2, back⟩ := Hold.frame (ps := slotsP σ env1) (qs := [(v, l)]) (g1.perm (List.perm_append_comm (l₁ := [(v, l)])))
    refine ⟨F1, R', env1, _, ⟨a.f.trans s1, a.r.trans sR, a.fx, a.len, w1, g2⟩, q1, fun xs env2 vs F3 H3 q3 s3 w3 m3 g3 => ?_⟩
    refine kk _ env2 (v :: vs) F3 H3 q3 (s1.trans s3) w3 ⟨fun i z => by (simp at z), m3⟩ ?_
    refine (back F3 H3 _ s3 g3).perm ?_
    exact (List.perm_append_comm (l₂ := [(v, l)]))
theorem da_bor {i : Nat} {r : DA} (ha : PE X e (tVar i)) (hr : PA X es (liftA Y X.K r)) (hs : starEach (e :: es) X.env = (false, eval e X.env) :: starEach es X.env := by rfl) : PA X (e :: es) (liftA Y X.K (daBor i r)) :=
  PA.imp (pa_cons ha hr hs) fun σ H Q ⟨F, R, env, k, a, q, kk⟩ => by
    unfold daBor at q
    cases he0 : env[i]? with
    | none => rw [he0] at q; exact q.elim
    | some o =>
      cases o with
      | none => rw [he0] at q; exact q.elim
      | some l0 =>
        rw [he0] at q
        obtain ⟨v, hv⟩ := a.wf.get he0
        refine ⟨v, hv, F, R, env, _, a, q, fun xs env2 vs F3 H3 q3 s3 w3 m3 g3 => ?_⟩
        cases he : env2[i]? with
        | none => rw [he] at q3; exact q3.elim
        | some o =>
          cases o with
          | none => rw [he] at q3; exact q3.elim
          | some l =>
            rw [he] at q3
            have g4 : Hold X.K F3 R H3 [] (slotsP σ env2 ++ vs.zip (xs.map (·.1))) := g3.perm List.perm_append_comm
            have g5 : Hold X.K F3 R H3 [] ((v, l) :: (slotsP σ (env2.set i none) ++ vs.zip (xs.map (·.1)))) := g4.perm (List.Perm.append_right _ (slots_get he hv))
            refine kk _ (env2.set i none) (v :: vs) F3 H3 q3 s3 w3.none ⟨fun j z => ?_, m3⟩ (g5.perm (List.Perm.cons _ List.perm_append_comm))
            have z : some i = some j := z
            cases z
            exact hv
theorem Marks.len : ∀ {σ : L2.St} {vs : List V} {xs : List (L × Option Nat)}, Marks σ vs xs → vs.length = xs.length
  | _, [], [], _ => rfl
  | σ, v :: vs, x :: xs, h => by simp [Marks.len h.2]
/-- a list of written items: owned, with what it is made of -/
def dLst (t : DA) : DE := fun env Q => t env fun xs env1 => xs.length ≤ sizeLine ∧ Q (.lst (xs.map (·.1))) env1
/-- a tuple of them: known for good -/
def dTup (t : DA) : DE := fun env Q => t env fun xs env1 => xs.length ≤ sizeLine ∧ Q (.fr (.tup (L.toDs (xs.map (·.1))))) env1
theorem de_lst {t : DA} (h : PA X es (liftA Y X.K t)) : PE X (.List es pos) (lift Y X.K (dLst t)) :=
  PE.imp (pe_lst h) fun σ H Q ⟨F, R, env, k, a, q, kk⟩ => by
    refine ⟨F, R, env, _, a, q, fun xs env1 vs F1 H1 ⟨z, q1⟩ s1 w1 m1 g1 => ⟨by rw [m1.len]; exact z, fun p hp => ?_⟩⟩
    have hl : vs.length = (xs.map (·.1)).length := by rw [m1.len, List.length_map]
    have := Hold.new (s := .lst) g1 hp rfl True.intro True.intro
    rw [map_zip1 hl, map_zip2 hl] at this
    exact kk _ env1 _ F1 _ q1 s1 w1 this
theorem Hold.frzs {K : PySem.W.Frag} {R H : Hp} {Xs : List Addr} : ∀ {vs : List V} {ls : List L} {F : Hp} {ps : List (V × L)}, vs.length = ls.length → Hold K F R H Xs (vs.zip ls ++ ps) → ∃ F', Same F F' ∧ Reps K F' vs (L.toDs ls) ∧ Hold K F' R H Xs ps
  | [], [], F, ps, _, h => ⟨F, Same.refl _, by rw [L.toDs]; exact .nil, h⟩
  | v :: vs, l :: ls, F, ps, e, h => by
    obtain ⟨F1, s1, g1⟩ := Hold.frz (ps := vs.zip ls ++ ps) h
    obtain ⟨F2, s2, r, g2⟩ := Hold.frzs (by simpa using e) g1.drop
    exact ⟨F2, s1.trans s2, by rw [L.toDs]; exact .cons (g1.head.mono s2) r, g2⟩
  | [], _ :: _, _, _, e, _ => by simp at e
  | _ :: _, [], _, _, e, _ => by simp at e
theorem de_tup {t : DA} {x1} (h : PA X es (liftA Y X.K t)) : PE X (.Tuple es x1 pos) (lift Y X.K (dTup t)) :=
  PE.imp (pe_tup h) fun σ H Q ⟨F, R, env, k, a, q, kk⟩ => by
    refine ⟨F, R, env, _, a, q, fun xs env1 vs F1 H1 ⟨z, q1⟩ s1 w1 m1 g1 => ⟨by rw [m1.len]; exact z, fun p hp => ?_⟩⟩
    have hl : vs.length = (xs.map (·.1)).length := by rw [m1.len, List.length_map]
    obtain ⟨F2, s2, r, g2⟩ := g1.frzs hl
    obtain ⟨s3, g3⟩ := g2.known (o := .tup vs) hp
    exact kk _ env1 _ _ _ q1 ((s1.trans s2).trans s3) w1 (g3.push (.tup upd_same (r.mono s3)))
end
end TL

namespace TL
open PySem PySem.Spec PyProof.Rows L2

/-! ### contracts -/
def RepX (K : PySem.W.Frag) (F : Hp) (x : DX) (cls : Value) (d : Option Addr) : Prop :=
  x.cls = cls ∧ ∃ dd vs, d = some dd ∧ F dd = some (.xd (x.ns.zip vs)) ∧ x.ns.length = vs.length ∧ Reps K F vs x.ds
def spD (K : PySem.W.Frag) (C : Con) : Sp := fun vs H Q E => ∃ F R ls k kx, vs.length = ls.length ∧ Hold K F R H [] (vs.zip ls) ∧ C ls k kx ∧
  (∀ r ls' v F' H', k r ls' → Same F F' → ls'.length = vs.length → Hold K F' R H' [] ((v, r) :: vs.zip ls') → Q v H') ∧
  (∀ x ls' cls d F' H', kx x ls' → Same F F' → ls'.length = vs.length → RepX K F' x cls d → Hold K F' R H' [] (vs.zip ls') → E cls d H')
/-- what was lent comes back -/
def restore : Ev → List (Option Nat) → List L → Ev
  | env, some i :: ms, l :: ls => restore (env.set i (some l)) ms ls
  | env, none :: ms, _ :: ls => restore env ms ls
  | env, _, _ => env
def kF : DX → List L → Prop := fun _ _ => False
def dCall (C : Con) (dds : List D) (t : DA) : DE := fun env Q => t env fun xs env1 => C (xs.map (·.1) ++ dds.map L.fr) (fun r ls' => Q r (restore env1 (xs.map (·.2)) ls')) kF

theorem Hold.unslot {K : PySem.W.Frag} {F R H : Hp} {Xs : List Addr} {σ : L2.St} {env : Ev} {qs : List (V × L)} (i : Nat) (w : Wf σ env) (h : Hold K F R H Xs (slotsP σ env ++ qs)) : Hold K F R H Xs (slotsP σ (env.set i none) ++ qs) := by
  cases he : env[i]? with
  | none =>
    rw [List.set_eq_of_length_le (List.getElem?_eq_none_iff.mp he)]
    exact h
  | some o =>
    cases o with
    | none => rw [set_self he]; exact h
    | some l =>
      obtain ⟨v, hv⟩ := w.get he
      exact (h.perm (List.Perm.append_right qs (slots_get he hv))).drop
theorem restore_wf : ∀ {σ : L2.St} {vs : List V} {xs : List (L × Option Nat)} {env : Ev} (ls : List L), Marks σ vs xs → Wf σ env → Wf σ (restore env (xs.map (·.2)) ls)
  | σ, [], [], env, ls, _, w => by cases ls <;> simpa [restore] using w
  | σ, v :: vs, (x, none) :: xs, env, [], m, w => by simpa [restore] using w
  | σ, v :: vs, (x, some i) :: xs, env, [], m, w => by simpa [restore] using w
  | σ, v :: vs, (x, none) :: xs, env, l :: ls, m, w => by
    have := restore_wf (xs := xs) ls m.2 w
    simpa [restore] using this
  | σ, v :: vs, (x, some i) :: xs, env, l :: ls, m, w => by
    have := restore_wf (xs := xs) (env := env.set i (some l)) ls m.2 (w.setL (m.1 i rfl))
    simpa [restore] using this
theorem Hold.restore {K : PySem.W.Frag} {F R H : Hp} {Xs : List Addr} : ∀ {σ : L2.St} {vs : List V} {xs : List (L × Option Nat)} {env : Ev} {ls : List L} {qs : List (V × L)}, Marks σ vs xs → Wf σ env → vs.length ≤ ls.length →
    Hold K F R H Xs (vs.zip ls ++ (slotsP σ env ++ qs)) → Hold K F R H Xs (slotsP σ (restore env (xs.map (·.2)) ls) ++ qs)
  | σ, [], [], env, ls, qs, _, w, _, h => by
    have e : TL.restore env [] ls = env := by cases ls <;> rfl
    simpa [e] using h
  | σ, v :: vs, x :: xs, env, [], qs, m, w, z, h => by simp at z
  | σ, v :: vs, (x, none) :: xs, env, l :: ls, qs, m, w, z, h => by
    have := Hold.restore (xs := xs) m.2 w (by simpa using z) (Hold.drop (ps := vs.zip ls ++ (slotsP σ env ++ qs)) h)
    simpa [TL.restore] using this
  | σ, v :: vs, (x, some i) :: xs, env, l :: ls, qs, m, w, z, h => by
    have hv := m.1 i rfl
    have h1 : Hold K F R H Xs (slotsP σ env ++ ((v, l) :: (vs.zip ls ++ qs))) := h.perm (by
      show ((v, l) :: (vs.zip ls ++ (slotsP σ env ++ qs))).Perm (slotsP σ env ++ ((v, l) :: (vs.zip ls ++ qs)))
      refine List.Perm.trans ?_ (List.perm_middle.symm)
      refine List.Perm.cons _ ?_
      rw [← List.append_assoc, ← List.append_assoc]
      exact List.Perm.append_right _ List.perm_append_comm)
    have h2 := h1.unslot i w
    have hi : i < env.length := by
      rw [← w.len]
      exact (List.getElem?_eq_some_iff.mp hv).1
    have h3 : Hold K F R H Xs (vs.zip ls ++ (slotsP σ (env.set i (some l)) ++ qs)) := h2.perm (by
      refine List.Perm.trans List.perm_middle ?_
      refine List.Perm.trans ?_ (List.Perm.append_left _ (List.Perm.append_right qs (slots_put hv hi).symm))
      show ((v, l) :: (slotsP σ (env.set i none) ++ (vs.zip ls ++ qs))).Perm (vs.zip ls ++ ((v, l) :: (slotsP σ (env.set i none) ++ qs)))
      refine List.Perm.trans ?_ (List.perm_middle.symm)
      refine List.Perm.cons _ ?_
      rw [← List.append_assoc, ← List.append_assoc]
      exact List.Perm.append_right _ List.perm_append_comm)
    have := Hold.restore (xs := xs) m.2 (w.setL hv) (by simpa using z) h3
    simpa [TL.restore] using this
theorem perm_call {α : Type} (a : α) (x y z : List α) : ((a :: (x ++ y)) ++ z).Perm (y ++ (x ++ (z ++ [a]))) := by
  have e1 : ((a :: (x ++ y)) ++ z) = [a] ++ ((x ++ y) ++ z) := rfl
  have e2 : y ++ (x ++ (z ++ [a])) = ((y ++ x) ++ z) ++ [a] := by simp [List.append_assoc]
  rw [e1, e2]
  exact List.perm_append_comm.trans (List.Perm.append_right _ (List.Perm.append_right _ List.perm_append_comm))
theorem zip_app {vs ws : List V} {ls ms : List L} (h : vs.length = ls.length) : (vs ++ ws).zip (ls ++ ms) = vs.zip ls ++ ws.zip ms := List.zip_append h

section
variable {X : Cx} {Y : Act}
theorem lift_call {C : Con} {dds : List D} {dvs : List V} {t : DA} {E : XK} (hd : Reps X.K (fun _ => none) dvs dds) {σ : L2.St} {H : Hp} {Q : VK} (h : lift Y X.K (dCall C dds t) σ H Q) : liftA Y X.K t σ H fun vs H1 => spD X.K C (vs ++ dvs) H1 Q E := by
  obtain ⟨F, R, env, k, a, q, kk⟩ := h
  refine ⟨F, R, env, _, a, q, fun xs env1 vs F1 H1 q1 s1 w1 m1 g1 => ?_⟩
  obtain ⟨R', sR, g2, back⟩ := Hold.frame g1
  have hl : vs.length = (xs.map (·.1)).length := by rw [m1.len, List.length_map]
  have rd : Reps X.K F1 dvs dds := hd.mono fun _ _ e => by cases e
  have g3 : Hold X.K F1 R' H1 [] ((vs ++ dvs).zip (xs.map (·.1) ++ dds.map L.fr)) := by
    rw [zip_app hl]
    exact (Hold.pushs rd g2).perm List.perm_append_comm
  refine ⟨F1, R', _, _, _, by rw [List.length_append, List.length_append, hl, List.length_map, List.length_map, rd.length], g3, q1, fun r ls' v F' H' q2 s2 z g4 => ?_, fun x ls' cls d F' H' q2 => q2.elim⟩
  have g5 := back F' H' _ s2 g4
  have z' : ls'.length = vs.length + dvs.length := by rw [z, List.length_append]
  have g6 : Hold X.K F' R H' [] (vs.zip ls' ++ (slotsP σ env1 ++ [(v, r)])) := by
    have e : ls' = ls'.take vs.length ++ ls'.drop vs.length := (List.take_append_drop _ _).symm
    have hl2 : vs.length = (ls'.take vs.length).length := by rw [List.length_take]; omega
    rw [e, zip_app hl2] at g5
    have e2 : vs.zip ls' = vs.zip (ls'.take vs.length) := by
      conv => lhs; rw [e]
      have := zip_app (ws := []) (ms := ls'.drop vs.length) hl2
      simpa using this
    rw [e2]
    refine Hold.dropN (ps := dvs.zip (ls'.drop vs.length)) (g5.perm ?_)
    exact perm_call _ _ _ _
  have g7 := Hold.restore m1 w1 (by omega) g6
  exact kk _ _ v F' H' q2 (s1.trans s2) (restore_wf ls' m1 w1) (g7.perm List.perm_append_comm)
theorem de_call {C : Con} {dds : List D} {dvs : List V} {ds : List Value} {t : DA} {k : Nat} {f : Addr} {fd : FuncData} {ps : List Str} {x : Str} {p pos : Pos} {e : Expr} {es : List Expr}
    (F : FnOk X.prog X.w X.K X.mg X.base (L2.CX X.prog X.w) k f fd ps (spD X.K C)) (hr : Room k X.A) (hg : Gl X x) (hm : X.mg x = some (.ref f)) (hk : PySem.W.keepIn X.K (.ref f) = true) (hb : Binds X.K fd ps ds) (hd : Vals dvs ds) (hD : Reps X.K (fun _ => none) dvs dds)
    (ha : PA X (e :: es) (liftA Y X.K t)) (hdb : (x == ("__debug__" : Str)) = false := by decide) (he : starEach (e :: es) X.env = (false, eval e X.env) :: starEach es X.env := by rfl) (hpl : (backTo pos (starEach es X.env)).any (·.1) = false := by rfl) :
    PE X (.Call (.Name x p) (e :: es) [] pos) (lift Y X.K (dCall C dds t)) :=
  PE.imp (pe_call F hr hg hm hk hb hd passL ha hdb he hpl) fun _ _ _ h => lift_call hD h
/-- a built-in, by its contract -/
def BiOk (X : Cx) (f : Value) (C : Con) : Prop := CallR X f fun vs H Q => spD X.K C vs H Q E0
theorem de_bi {C : Con} {t : DA} {id : String} {x : Str} {p pos : Pos} {e : Expr} {es : List Expr} (hc : BiOk X (.builtin id) C) (hg : Gl X x) (hm : X.mg x = none) (hv : bootBuiltins x = some (.builtin id)) (ha : PA X (e :: es) (liftA Y X.K t))
    (hn : x ≠ "__name__" := by decide) (hdb : (x == ("__debug__" : Str)) = false := by decide) (he : starEach (e :: es) X.env = (false, eval e X.env) :: starEach es X.env := by rfl) (hpl : (backTo pos (starEach es X.env)).any (·.1) = false := by rfl) :
    PE X (.Call (.Name x p) (e :: es) [] pos) (lift Y X.K (dCall C [] t)) :=
  PE.imp (pe_callB hc hg hm hv ha hn hdb he hpl) fun _ _ _ h => by
    have := lift_call (dvs := []) (E := E0) .nil h
    unfold tCB
    simpa only [List.append_nil] using this
theorem de_ty {C : Con} {t : DA} {id : String} {x : Str} {p pos : Pos} {e : Expr} {es : List Expr} (hc : BiOk X (.type id) C) (hg : Gl X x) (hm : X.mg x = none) (hv : bootBuiltins x = some (.type id)) (ha : PA X (e :: es) (liftA Y X.K t))
    (hn : x ≠ "__name__" := by decide) (hdb : (x == ("__debug__" : Str)) = false := by decide) (he : starEach (e :: es) X.env = (false, eval e X.env) :: starEach es X.env := by rfl) (hpl : (backTo pos (starEach es X.env)).any (·.1) = false := by rfl) :
    PE X (.Call (.Name x p) (e :: es) [] pos) (lift Y X.K (dCall C [] t)) :=
  PE.imp (pe_callTy hc hg hm hv ha hn hdb he hpl) fun _ _ _ h => by
    have := lift_call (dvs := []) (E := E0) .nil h
    unfold tCB
    simpa only [List.append_nil] using this
end
end TL

namespace TL
open PySem PySem.Spec PyProof.Rows L2

section
variable {X : Cx} {Y : Act} {e a b c : Expr} {es : List Expr} {pos : Pos} {st : Stmt} {rest body : List Stmt}

/-! ### blocks -/
def dsNext : DS := fun De env => De.nx env
def dsSeq (t u : DS) : DS := fun De env => t { De with nx := u De } env
theorem dss_nil : PSs X [] (liftS Y X.K dsNext) := PSs.imp pss_nil fun D σ H ⟨F, R, env, De, a, q, k⟩ => k.nx _ _ _ _ q (Same.refl _) a
theorem dss_cons {t u : DS} (h1 : PS X st (liftS Y X.K t)) (h2 : PSs X rest (liftS Y X.K u)) : PSs X (st :: rest) (liftS Y X.K (dsSeq t u)) :=
  PSs.imp (pss_cons h1 h2) fun D σ H ⟨F, R, env, De, a, q, k⟩ =>
    ⟨F, R, env, { De with nx := u De }, a, q, ⟨fun env' σ' F' H' q' s a' => ⟨F', R, env', De, a', q', k.to s⟩, k.rt, k.bk, k.ct⟩⟩
theorem dss_one {t : DS} (h1 : PS X st (liftS Y X.K t)) : PSs X [st] (liftS Y X.K t) := pss_one h1
theorem ds_pass : PS X (.Pass pos) (liftS Y X.K dsNext) := PS.imp ps_pass fun D σ H ⟨F, R, env, De, a, q, k⟩ => k.nx _ _ _ _ q (Same.refl _) a
def dsExpr (t : DE) : DS := fun De env => t env fun _ env1 => De.nx env1
theorem ds_expr {t : DE} (he : PE X e (lift Y X.K t)) (hs : swapsWith e none pos.line X.env = pure false := by rfl) : PS X (.Expr e pos) (liftS Y X.K (dsExpr t)) :=
  PS.imp (ps_expr he hs) fun D σ H ⟨F, R, env, De, a, q, k⟩ => ⟨F, R, env, _, a, q, fun l env' v F' H' q' s w g => k.nx _ _ _ _ q' s (a.to s w g.drop)⟩
def dsRet (t : DE) : DS := fun De env => t env De.rt
theorem ds_ret {t : DE} (he : PE X e (lift Y X.K t)) : PS X (.Return (some e) pos) (liftS Y X.K (dsRet t)) :=
  PS.imp (ps_ret he) fun D σ H ⟨F, R, env, De, a, q, k⟩ => ⟨F, R, env, _, a, q, fun l env' v F' H' q' s w g => k.rt _ _ _ _ _ _ q' s a.fx w g⟩
def dsRetN : DS := fun De env => De.rt (.fr .non) env
theorem ds_retN : PS X (.Return none pos) (liftS Y X.K dsRetN) :=
  PS.imp ps_retN fun D σ H ⟨F, R, env, De, a, q, k⟩ => k.rt _ _ _ _ _ _ q (Same.refl _) a.fx a.wf (a.hold.push .non)
def dsIf (c : DT) (t u : DS) : DS := fun De env => c env fun b env1 => if b = true then t De env1 else u De env1
theorem ds_if {p q : List Stmt} {tc : DT} {t u : DS} (hc : PT X c (liftT Y X.K tc)) (ha : PSs X p (liftS Y X.K t)) (hb : PSs X q (liftS Y X.K u)) : PS X (.If c p q pos) (liftS Y X.K (dsIf tc t u)) :=
  PS.imp (ps_if hc ha hb) fun D σ H ⟨F, R, env, De, a, q, k⟩ => by
    refine ⟨F, R, env, _, a, q, fun b env' F' H' q' s w g => ?_⟩
    cases b with
    | true => exact (if_pos rfl).mpr ⟨F', R, env', De, a.to s w g, (if_pos rfl).mp q', k.to s⟩
    | false => exact (if_neg Bool.false_ne_true).mpr ⟨F', R, env', De, a.to s w g, (if_neg Bool.false_ne_true).mp q', k.to s⟩
def dsNever : DS := fun _ _ => False
theorem ds_never : PS X st (liftS Y X.K dsNever) := PS.imp ps_never fun D σ H ⟨_, _, _, _, _, q, _⟩ => q

/-! ### stores -/
theorem At.set {K : PySem.W.Frag} {F F' R H H' : Hp} {σ : L2.St} {env env' : Ev} {i : Nat} {v : V} {l : L} (a : At Y K F R H σ env) (s : Same F F') (hx : ∀ q ∈ Y.fx, q.1 ≠ i) (w : Wf σ env') (g : Hold K F' R H' [] ((v, l) :: slotsP σ env')) :
    At Y K F' R H' (σ.set i (some v)) (env'.set i (some l)) := by
  refine ⟨a.f.trans s, a.r, fun q hq => ?_, by rw [List.length_set]; exact a.len, w.setV, ?_⟩
  · rw [List.getElem?_set_ne (Ne.symm (hx q hq))]
    exact a.fx q hq
  · by_cases hi : i < σ.length
    · have g1 : Hold K F' R H' [] (slotsP σ env' ++ [(v, l)]) := g.perm (List.perm_append_comm (l₁ := [(v, l)]))
      have g2 := g1.unslot i w
      refine (g2.perm List.perm_append_comm).perm ?_
      exact (slots_set hi w.len).symm
    · rw [List.set_eq_of_length_le (by omega), List.set_eq_of_length_le (by rw [← w.len]; omega)]
      exact g.drop
def dsSet (i : Nat) (t : DE) : DS := fun De env => t env fun l env1 => De.nx (env1.set i (some l))
theorem ds_set {i : Nat} {x : Str} {t : DE} {pos' : Pos} (hx0 : ∀ q ∈ Y.fx, q.1 ≠ i) (hN : X.N.Nodup) (hi : X.N[i]? = some x) (hx : Loc X.env.scope x) (he : PE X e (lift Y X.K t)) (hs : swapsWith e (some (.Name x pos')) pos.line X.env = pure false := by rfl)
    (hf : X.fn x = true ∨ X.env.scope.names.lookup x = some .local := by first | exact .inl rfl | exact .inr rfl | assumption) : PS X (.Assign [.Name x pos'] e pos) (liftS Y X.K (dsSet i t)) :=
  PS.imp (ps_set hN hi hx he hs hf) fun D σ H ⟨F, R, env, De, a, q, k⟩ => ⟨F, R, env, _, a, q, fun l env' v F' H' q' s w g => k.nx _ _ _ _ q' s (a.set s hx0 w g)⟩
def dgName (i : Nat) : DG := fun l env Q => Q (env.set i (some l))
theorem dg_name {i : Nat} {x : Str} (hx0 : ∀ q ∈ Y.fx, q.1 ≠ i) (hN : X.N.Nodup) (hi : X.N[i]? = some x) (hx : Loc X.env.scope x) (hf : X.fn x = true ∨ X.env.scope.names.lookup x = some .local := by first | exact .inl rfl | exact .inr rfl | assumption) : PG X (.Name x pos) (liftG Y X.K (dgName i)) :=
  PG.imp (pg_name hN hi hx hf) fun v σ H Q ⟨F, R, env, l, k, a, g, q, kk⟩ => kk _ _ F H q (Same.refl _) (a.set (Same.refl _) hx0 a.wf g)
def dgsNil : DGs := fun ls env Q => ls = [] ∧ Q env
def dgsCons (g : DG) (gs : DGs) : DGs := fun ls env Q => match ls with
  | l :: r => g l env fun env1 => gs r env1 Q
  | [] => False
theorem dgs_nil : PGs X [] (liftGs Y X.K dgsNil) := PGs.imp pgs_nil fun vs σ H Q ⟨F, R, env, ls, k, a, hl, g, ⟨e, q⟩, kk⟩ => by
  subst e
  exact ⟨List.length_eq_zero_iff.mp hl, kk _ _ F H q (Same.refl _) a⟩
theorem lift_gs {g : DG} {gs : DGs} {vs : List V} {σ : L2.St} {H : Hp} {Q : L2.St → Hp → Prop} (h : liftGs Y X.K (dgsCons g gs) vs σ H Q) : gCons (liftG Y X.K g) (liftGs Y X.K gs) vs σ H Q := by
  obtain ⟨F, R, env, ls, k, a, hl, g0, q, kk⟩ := h
  cases ls with
  | nil => exact q.elim
  | cons l ls =>
    cases vs with
    | nil => simp at hl
    | cons v vs =>
      obtain ⟨R', sR, g1, back⟩ := Hold.frame (ps := (v, l) :: slotsP σ env) (qs := vs.zip ls) (g0.perm (by
        show ((v, l) :: (vs.zip ls ++ slotsP σ env)).Perm ((v, l) :: (slotsP σ env ++ vs.zip ls))
        exact List.Perm.cons _ List.perm_append_comm))
      refine ⟨v, vs, rfl, F, R', env, l, _, ⟨a.f, a.r.trans sR, a.fx, a.len, a.wf, g1.drop⟩, g1, q, fun env' σ' F' H' q' s a' => ?_⟩
      have g2 := back F' H' _ s a'.hold
      exact ⟨F', R, env', ls, k, ⟨a.f.trans s, a.r, a'.fx, a'.len, a'.wf, g2.takeN⟩, by simpa using hl, g2.perm List.perm_append_comm, q', fun env2 σ2 F2 H2 q2 s2 a2 => kk _ _ _ _ q2 (s.trans s2) a2⟩
theorem dgs_cons {g : DG} {gs : DGs} (h1 : PG X e (liftG Y X.K g)) (h2 : PGs X es (liftGs Y X.K gs)) (hs : (assignEach (e :: es) X.env).map (·.2) = assign e X.env :: (assignEach es X.env).map (·.2) := by rfl) : PGs X (e :: es) (liftGs Y X.K (dgsCons g gs)) :=
  PGs.imp (pgs_cons h1 h2 hs) fun _ _ _ _ h => lift_gs h
theorem dgs_star {g : DG} {gs : DGs} {p : Pos} (h1 : PG X e (liftG Y X.K g)) (h2 : PGs X es (liftGs Y X.K gs)) (hs : (assignEach (.Starred e p :: es) X.env).map (·.2) = assign e X.env :: (assignEach es X.env).map (·.2) := by rfl) :
    PGs X (.Starred e p :: es) (liftGs Y X.K (dgsCons g gs)) := by
  refine PGs.imp (t := gCons (liftG Y X.K g) (liftGs Y X.K gs)) ⟨fun pins s σ H vs us Q I r h => ?_⟩ fun _ _ _ _ h => lift_gs h
  obtain ⟨v, vr, e1, h⟩ := h
  subst e1
  cases r with
  | cons r rr =>
    rw [hs]
    refine assignInOrder_cons (thn (h1.run pins s σ H _ _ _ I r h) fun _ s1 ⟨σ1, H1, I1, q1⟩ => ?_)
    exact h2.run pins s1 σ1 H1 _ _ Q I1 rr q1
def dgTup (n : Nat) (gs : DGs) : DG := fun l env Q => match l.toD with
  | .tup ds => ds.length = n ∧ gs (ds.map L.fr) env Q
  | _ => False
theorem Rep.tup_inv {K : PySem.W.Frag} {F : Hp} {v : V} {ds : List D} (h : Rep K F v (.tup ds)) : ∃ p vs, v = .ref p ∧ TupAt K F p vs ∧ Reps K F vs ds := by
  cases h with
  | tup a b => exact ⟨_, _, rfl, a, b⟩
theorem Rep.lst_inv {K : PySem.W.Frag} {F : Hp} {v : V} {ds : List D} (h : Rep K F v (.box .lst ds)) : ∃ p vs, v = .ref p ∧ F p = some (.lst vs) ∧ Reps K F vs ds := by
  cases h with
  | box a b c d => exact ⟨_, _, rfl, a, d⟩
theorem Rep.ro_inv {K : PySem.W.Frag} {F : Hp} {v : V} {ds : List D} (h : Rep K F v (.ro ds)) : ∃ p vs, v = .ref p ∧ SqL K F p vs ∧ Reps K F vs ds := by
  cases h with
  | ro a b => exact ⟨_, _, rfl, a, b⟩
theorem dg_tup {k n : Nat} {gs : DGs} (hc : X.calm = true) (h : PGs X es (liftGs Y X.K gs)) (hn : (assignEach es X.env).length = n := by rfl) (hst : (assignEach es X.env).findIdx? (·.1) = none := by rfl) :
    PG X (.Tuple es k pos) (liftG Y X.K (dgTup n gs)) :=
  PG.imp (pg_tup hc h hn hst) fun v σ H Q ⟨F, R, env, l, k, a, g, q, kk⟩ => by
    obtain ⟨F1, s1, g1⟩ := g.frz
    unfold dgTup at q
    have hr := g1.head
    cases hl : l.toD with
    | tup ds =>
      rw [hl] at q hr
      obtain ⟨p, vs, e, t, r⟩ := hr.tup_inv
      exact ⟨p, vs, e, Same.seqT g1.hF t.sq, by rw [r.length]; exact q.1, F1, R, env, ds.map L.fr, k, a.to s1 a.wf g1.drop, by rw [r.length, List.length_map], Hold.pushs r g1.drop, q.2, fun env2 σ2 F2 H2 q2 s2 a2 => kk _ _ _ _ q2 (s1.trans s2) a2⟩
    | _ => rw [hl] at q; exact q.elim
def dsAsg (t : DE) (g : DG) : DS := fun De env => t env fun l env1 => g l env1 De.nx
theorem ds_asg {tg : Expr} {t : DE} {g : DG} (he : PE X e (lift Y X.K t)) (hg : PG X tg (liftG Y X.K g)) (hs : swapsWithSole [tg] e pos.line X.env = pure false := by rfl) (hw : swappedStores [tg] e X.env = pure none := by rfl)
    (h1 : (assignEach [tg] X.env).map (·.2) = [assign tg X.env] := by rfl) : PS X (.Assign [tg] e pos) (liftS Y X.K (dsAsg t g)) :=
  PS.imp (ps_asg he hg hs hw h1) fun D σ H ⟨F, R, env, De, a, q, k⟩ =>
    ⟨F, R, env, _, a, q, fun l env' v F' H' q' s w g => ⟨F', R, env', l, _, a.to s w g.drop, g, q', fun env2 σ2 F2 H2 q2 s2 a2 => k.nx _ _ _ _ q2 (s.trans s2) a2⟩⟩
/-- a, b = x, y -/
def dsPar (i j : Nat) (t : DA) : DS := fun De env => t env fun xs env1 => match xs with
  | [(l, _), (m, _)] => De.nx ((env1.set i (some l)).set j (some m))
  | _ => False
theorem ds_par {i j : Nat} {x y : Str} {t : DA} {px py pt : Pos} {kt k2 pt2} (hx0 : ∀ q ∈ Y.fx, q.1 ≠ i) (hy0 : ∀ q ∈ Y.fx, q.1 ≠ j) (hc : X.calm = true) (hN : X.N.Nodup) (hi : X.N[i]? = some x) (hj : X.N[j]? = some y) (hij : i ≠ j)
    (hx : X.env.scope.names.lookup x = some .local) (hy : X.env.scope.names.lookup y = some .local) (ha : PA X [a, b] (liftA Y X.K t))
    (hw : swappedStores [.Tuple [.Name x px, .Name y py] kt pt] (.Tuple [a, b] k2 pt2) X.env = pure (some [x, y]))
    (hs : swapsWithSole [.Tuple [.Name x px, .Name y py] kt pt] (.Tuple [a, b] k2 pt2) pos.line X.env = pure false := by rfl) :
    PS X (.Assign [.Tuple [.Name x px, .Name y py] kt pt] (.Tuple [a, b] k2 pt2) pos) (liftS Y X.K (dsPar i j t)) :=
  PS.imp (ps_par hc hN hi hj hij hx hy ha hw hs) fun D σ H ⟨F, R, env, De, a, q, k⟩ => by
    refine ⟨F, R, env, _, a, q, fun xs env' vs F' H' q' s w m g => ?_⟩
    match xs, vs, m, q' with
    | [(l, o1), (m1, o2)], [v, u], m, q' =>
      refine ⟨v, u, rfl, k.nx _ _ _ _ q' s ?_⟩
      have g : Hold X.K F' R H' [] ((v, l) :: (u, m1) :: slotsP σ env') := g
      obtain ⟨R', sR, g2, back⟩ := Hold.frame (ps := (v, l) :: slotsP σ env') (qs := [(u, m1)]) (g.perm ((List.Perm.swap _ _ _).trans (List.perm_append_comm (l₁ := [(u, m1)]))))
      have a1 : At ⟨Y.F0, R', Y.fx, Y.n⟩ X.K F' R' H' σ env' := ⟨a.f.trans s, Same.refl _, a.fx, a.len, w, g2.drop⟩
      have a2 := At.set (i := i) a1 (Same.refl _) hx0 w g2
      have g3 := back F' H' _ (Same.refl _) a2.hold
      have a3 : At Y X.K F' R H' (σ.set i (some v)) (env'.set i (some l)) := ⟨a.f.trans s, a.r, a2.fx, a2.len, a2.wf, g3.takeN⟩
      exact a3.set (Same.refl _) hy0 a2.wf (g3.perm (List.perm_append_comm (l₂ := [(u, m1)])))
    | [], _, _, q' => exact q'.elim
    | [_], _, _, q' => exact q'.elim
    | _ :: _ :: _ :: _, _, _, q' => exact q'.elim
def dsAug (i : Nat) (t : DE) (f : Op2) : DS := fun De env => match env[i]? with
  | some (some (.fr d)) => t env fun l env1 => f d l.toD fun r => De.nx (env1.set i (some r))
  | _ => False
theorem ds_aug {i : Nat} {x : Str} {t : DE} {f : Op2} {op : Operator} {pos' : Pos} (hx0 : ∀ q ∈ Y.fx, q.1 ≠ i) (hN : X.N.Nodup) (hi : X.N[i]? = some x) (hx : Loc X.env.scope x) (he : PE X e (lift Y X.K t)) (ho : OpR X (inplaceOp op) (liftO X.K f))
    (hf : X.fn x = true ∨ X.env.scope.names.lookup x = some .local := by first | exact .inl rfl | exact .inr rfl | assumption) : PS X (.AugAssign (.Name x pos') op e pos) (liftS Y X.K (dsAug i t f)) :=
  PS.imp (ps_aug hN hi hx he ho hf) fun D σ H ⟨F, R, env, De, a, q, k⟩ => by
    unfold dsAug at q
    cases hev : env[i]? with
    | none => rw [hev] at q; exact q.elim
    | some o =>
      rw [hev] at q
      cases o with
      | none => exact q.elim
      | some l =>
        cases l with
        | box s ls => exact q.elim
        | fr d =>
          obtain ⟨v, hv⟩ := a.wf.get hev
          have hr := (a.hold.perm (slots_get hev hv)).head
          refine ⟨v, hv, F, R, env, _, a, q, fun l env' u F' H' q' s w g => ?_⟩
          obtain ⟨F1, s1, g1⟩ := g.frz
          exact ⟨F1, R, _, _, _, _, g1.drop, hr.mono (s.trans s1), g1.head, q', fun r z F2 H2 q2 s2 g2 => k.nx _ _ _ _ q2 ((s.trans s1).trans s2) (a.set ((s.trans s1).trans s2) hx0 w g2)⟩

/-! ### while -/
def whileN (c : DT) (tb : DS) (De : DEnds) : Nat → Ev → Prop
  | 0, _ => False
  | n + 1, env => c env fun b env1 => if b = true then tb { De with nx := whileN c tb De n, ct := whileN c tb De n, bk := De.nx } env1 else De.nx env1
def dsWhile (c : DT) (tb : DS) : DS := fun De env => ∃ n, whileN c tb De n env
theorem ds_while {c : Expr} {tc : DT} {tb : DS} (hp : PassesOwn (model X.prog X.w) X.A X.env X.xe) (hc : PT X c (liftT Y X.K tc)) (hb : PSs X body (liftS Y X.K tb)) : PS X (.While c body [] pos) (liftS Y X.K (dsWhile tc tb)) :=
  PS.imp (ps_while hp hc hb) fun D σ H ⟨F, R, env, De, a, ⟨n, q⟩, k⟩ => by
    refine ⟨fun m σ' H' => ∃ F' env', Same F F' ∧ At Y X.K F' R H' σ' env' ∧ whileN tc tb De m env', ⟨n, F, env, Same.refl _, a, q⟩, ?_⟩
    rintro m σ' H' ⟨F', env', s, a', q'⟩
    cases m with
    | zero => exact q'.elim
    | succ m =>
      refine ⟨F', R, env', _, a', q', fun b env2 F2 H2 q2 s2 w2 g2 => ?_⟩
      cases b with
      | false => exact (if_neg Bool.false_ne_true).mpr (k.nx _ _ _ _ ((if_neg Bool.false_ne_true).mp q2) (s.trans s2) (a'.to s2 w2 g2))
      | true =>
        refine (if_pos rfl).mpr ⟨fun σ' H' => ∃ F' env', Same F F' ∧ At Y X.K F' R H' σ' env' ∧ whileN tc tb De m env', fun σ3 H3 h3 => ⟨m, Nat.lt_succ_self m, h3⟩, ?_⟩
        exact ⟨F2, R, env2, _, a'.to s2 w2 g2, (if_pos rfl).mp q2, ⟨fun env3 σ3 F3 H3 q3 s3 a3 => ⟨F3, env3, (s.trans s2).trans s3, a3, q3⟩, (k.to (s.trans s2)).rt, (k.to (s.trans s2)).nx, fun env3 σ3 F3 H3 q3 s3 a3 => ⟨F3, env3, (s.trans s2).trans s3, a3, q3⟩⟩⟩

/-! ### what a loop walks -/
structure WalkD (K : PySem.W.Frag) (F R : Hp) (J : It) (ds : List D) : Prop where
  goes : ∀ i F' H, i < ds.length → Same F F' → Same F' H → Same R H → J.go i H
  stops : ∀ F' H, Same F F' → Same F' H → Same R H → J.stop ds.length H
  yields : ∀ i x H H' F' R ps d, J.yld i H x H' → ds[i]? = some d → Same F F' → Hold K F' R H [] ps → ∃ F3, Same F' F3 ∧ Hold K F3 R H' [] ps ∧ Rep K F3 x d
theorem WalkD.mono {K : PySem.W.Frag} {F F' R : Hp} {J : It} {ds : List D} (w : WalkD K F R J ds) (s : Same F F') : WalkD K F' R J ds :=
  ⟨fun i F2 H h a b c => w.goes i F2 H h (s.trans a) b c, fun F2 H a b c => w.stops F2 H (s.trans a) b c, fun i x H H' F2 R ps d y e a g => w.yields i x H H' F2 R ps d y e (s.trans a) g⟩
abbrev DI := Ev → (List D → Ev → Prop) → Prop
def liftI (Y : Act) (K : PySem.W.Frag) (t : DI) : TI := fun σ H Q => ∃ F R env k, At Y K F R H σ env ∧ t env k ∧
  ∀ ds env' F' H' J, k ds env' → Same F F' → Wf σ env' → Hold K F' R H' [] (slotsP σ env') → WalkD K F' R J ds → Q J H'
theorem PI.imp {tg : Expr} {t t' : TI} (h : PI X tg e t) (i : ∀ σ H Q, t' σ H Q → t σ H Q) : PI X tg e t' := ⟨fun pins s σ H Q I q => h.run pins s σ H Q I (i _ _ _ q)⟩
def forD (g : DG) (tb : DS) (De : DEnds) : List D → Ev → Prop
  | [], env => De.nx env
  | d :: ds, env => g (.fr d) env fun env1 => tb { De with nx := forD g tb De ds, ct := forD g tb De ds, bk := De.nx } env1
def dsFor (ti : DI) (g : DG) (tb : DS) : DS := fun De env => ti env fun ds env1 => forD g tb De ds env1
theorem ds_for {tg iter : Expr} {ti : DI} {g : DG} {tb : DS} (hp : PassesOwn (model X.prog X.w) X.A X.env X.xe) (hc : X.calm = true) (hi : PI X tg iter (liftI Y X.K ti)) (hg : PG X tg (liftG Y X.K g)) (hb : PSs X body (liftS Y X.K tb)) (hs : ∀ x, foldedSetIterable iter X.env x = pure x := by intro _; rfl) :
    PS X (.For tg iter body [] pos) (liftS Y X.K (dsFor ti g tb)) :=
  PS.imp (ps_for hp hc hi hg hb hs) fun D σ H ⟨F, R, env, De, a, q, k⟩ => by
    refine ⟨F, R, env, _, a, q, fun ds env1 F1 H1 J q1 s1 w1 g1 wk => ?_⟩
    refine ⟨fun i m σ' H' => m = ds.length - i ∧ i ≤ ds.length ∧ ∃ F' env', Same F1 F' ∧ At Y X.K F' R H' σ' env' ∧ forD g tb De (ds.drop i) env', ⟨_, rfl, Nat.zero_le _, F1, env1, Same.refl _, a.to s1 w1 g1, q1⟩, ?_⟩
    rintro i m σ' H' ⟨rfl, hi, F', env', s, a', q'⟩
    by_cases hlt : i < ds.length
    · refine .inr ⟨wk.goes i F' H' hlt s a'.hold.hF a'.hold.hR, fun σ' H' => ∃ F' env', Same F1 F' ∧ At Y X.K F' R H' σ' env' ∧ forD g tb De (ds.drop (i + 1)) env', fun σ3 H3 h3 => ⟨ds.length - (i + 1), by omega, rfl, hlt, h3⟩, fun x H2 y => ?_⟩
      have hd : ds[i]? = some ds[i] := List.getElem?_eq_getElem hlt
      obtain ⟨F3, s3, g3, r3⟩ := wk.yields i x H' H2 F' R _ _ y hd s a'.hold
      rw [List.drop_eq_getElem_cons hlt] at q'
      refine ⟨F3, R, env', _, _, a'.to s3 a'.wf g3, g3.push r3, q', fun env4 σ4 F4 H4 q4 s4 a4 => ?_⟩
      have s04 := s.trans (s3.trans s4)
      refine ⟨F4, R, env4, _, a4, q4, ⟨fun env5 σ5 F5 H5 q5 s5 a5 => ⟨F5, env5, s04.trans s5, a5, q5⟩, (k.to (s1.trans s04)).rt, (k.to (s1.trans s04)).nx, fun env5 σ5 F5 H5 q5 s5 a5 => ⟨F5, env5, s04.trans s5, a5, q5⟩⟩⟩
    · have e : i = ds.length := by omega
      subst e
      rw [List.drop_length] at q'
      exact .inl ⟨wk.stops F' H' s a'.hold.hF a'.hold.hR, k.nx _ _ _ _ q' (s1.trans s) a'⟩
end
end TL

namespace TL
open PySem PySem.Spec PyProof.Rows L2

theorem Reps.get {K : PySem.W.Frag} {F : Hp} : ∀ {vs : List V} {ds : List D} {i : Nat} {v : V} {d : D}, Reps K F vs ds → vs[i]? = some v → ds[i]? = some d → Rep K F v d
  | _, _, 0, _, _, .cons r _, h, q => by simp at h q; subst h; subst q; exact r
  | _, _, i + 1, _, _, .cons _ r, h, q => Reps.get (i := i) r (by simpa using h) (by simpa using q)
  | _, _, _, _, _, .nil, h, _ => by simp at h
theorem Reps.some {K : PySem.W.Frag} {F : Hp} {vs : List V} {ds : List D} {i : Nat} (r : Reps K F vs ds) (h : i < ds.length) : ∃ v, vs[i]? = Option.some v :=
  ⟨_, List.getElem?_eq_getElem (by rw [r.length]; exact h)⟩
section
variable {K : PySem.W.Frag} {F R0 : Hp} {p : Addr} {vs : List V} {ds : List D}
theorem walkL (h : SqL K F p vs) (r : Reps K F vs ds) : WalkD K F R0 (Itl K p) ds where
  goes := fun i F' H hi s s' _ => by
    obtain ⟨v, hv⟩ := r.some hi
    exact ⟨vs, v, (s.trans s').seq h, hv⟩
  stops := fun F' H s s' _ => ⟨vs, (s.trans s').seq h, by rw [r.length]; exact Nat.le_refl _⟩
  yields := fun i x H H' F' R ps d ⟨e, y⟩ hd s g => by
    subst e
    exact ⟨F', Same.refl _, g, (r.get (y vs ((s.trans g.hF).seq h)) hd).mono s⟩
theorem walkT (h : SqT K F p vs) (r : Reps K F vs ds) : WalkD K F R0 (Itt K p) ds where
  goes := fun i F' H hi s s' _ => by
    obtain ⟨v, hv⟩ := r.some hi
    exact ⟨vs, v, Same.seqT (s.trans s') h, hv⟩
  stops := fun F' H s s' _ => ⟨vs, Same.seqT (s.trans s') h, by rw [r.length]; exact Nat.le_refl _⟩
  yields := fun i x H H' F' R ps d ⟨e, y⟩ hd s g => by
    subst e
    exact ⟨F', Same.refl _, g, (r.get (y vs (Same.seqT (s.trans g.hF) h)) hd).mono s⟩
/-- the ints from lo on -/
def rngD (lo : Int) (n : Nat) : List D := (List.range n).map fun i : Nat => D.int (lo + (i : Int))
theorem rngD_length (lo : Int) (n : Nat) : (rngD lo n).length = n := by simp [rngD]
theorem walkR (lo : Int) (n : Nat) : WalkD K F R0 (Itr lo n) (rngD lo n) where
  goes := fun i F' H hi s s' _ => by rw [rngD_length] at hi; exact hi
  stops := fun F' H s s' _ => by rw [rngD_length]; exact Nat.le_refl _
  yields := fun i x H H' F' R ps d ⟨e, y⟩ hd s g => by
    subst e; subst y
    have hi : i < n := by
      have := (List.getElem?_eq_some_iff.mp hd).1
      rwa [rngD_length] at this
    simp [rngD, hi] at hd
    subst hd
    exact ⟨F', Same.refl _, g, .int _⟩
end

section
variable {X : Cx} {Y : Act} {e a b c : Expr} {es : List Expr} {pos : Pos} {tg : Expr}
def diSeq (t : DE) : DI := fun env Q => t env fun l env1 => match l.toD with
  | .box .lst ds => Q ds env1
  | _ => False
def diTup (t : DE) : DI := fun env Q => t env fun l env1 => match l.toD with
  | .tup ds => Q ds env1
  | _ => False
theorem di_list {t : DE} (h : PE X e (lift Y X.K t)) : PI X tg e (liftI Y X.K (diSeq t)) :=
  PI.imp (pi_list h) fun σ H Q ⟨F, R, env, k, a, q, kk⟩ => by
    refine ⟨F, R, env, _, a, q, fun l env1 v F1 H1 q1 s1 w1 g1 => ?_⟩
    obtain ⟨F2, s2, g2⟩ := g1.frz
    have hr := g2.head
    split at q1
    · rename_i ds hl
      rw [hl] at hr
      obtain ⟨p, vs, e, h, r⟩ := hr.lst_inv
      have hs : SqL X.K F2 p vs := SqL.of h
      exact ⟨p, e, ⟨vs, g2.hF.seq hs⟩, kk _ _ F2 H1 _ q1 (s1.trans s2) w1 g2.drop (walkL hs r)⟩
    · exact q1.elim
theorem di_tup {t : DE} (h : PE X e (lift Y X.K t)) : PI X tg e (liftI Y X.K (diTup t)) :=
  PI.imp (pi_tup h) fun σ H Q ⟨F, R, env, k, a, q, kk⟩ => by
    refine ⟨F, R, env, _, a, q, fun l env1 v F1 H1 q1 s1 w1 g1 => ?_⟩
    obtain ⟨F2, s2, g2⟩ := g1.frz
    have hr := g2.head
    split at q1
    · rename_i ds hl
      rw [hl] at hr
      obtain ⟨p, vs, e, h, r⟩ := hr.tup_inv
      exact ⟨p, e, ⟨vs, Same.seqT g2.hF h.sq⟩, kk _ _ F2 H1 _ q1 (s1.trans s2) w1 g2.drop (walkT h.sq r)⟩
    · exact q1.elim
def diRange1 (t : DA) : DI := fun env Q => t env fun xs env1 => match xs with
  | [(.fr (.int j), _)] => (-(2 ^ 62) ≤ j ∧ j < 2 ^ 62) ∧ Q (rngD 0 j.toNat) env1
  | _ => False
def diRange2 (t : DA) : DI := fun env Q => t env fun xs env1 => match xs with
  | [(.fr (.int i), _), (.fr (.int j), _)] => (-(2 ^ 62) ≤ i ∧ i < 2 ^ 62 ∧ -(2 ^ 62) ≤ j ∧ j < 2 ^ 62) ∧ Q (rngD i (j - i).toNat) env1
  | _ => False
theorem di_range1 {t : DA} {p : Pos} (hg : Gl X "range") (hm : X.mg "range" = none) (ha : PA X [a] (liftA Y X.K t)) (hs : starEach [a] X.env = [(false, eval a X.env)] := by rfl) : PI X tg (.Call (.Name "range" p) [a] [] pos) (liftI Y X.K (diRange1 t)) :=
  PI.imp (pi_range1 hg hm ha hs) fun σ H Q ⟨F, R, env, k, a, q, kk⟩ => by
    refine ⟨F, R, env, _, a, q, fun xs env1 vs F1 H1 q1 s1 w1 m1 g1 => ?_⟩
    split at q1
    · rename_i j o
      match vs, m1 with
      | [v], m =>
        have g : Hold X.K F1 R H1 [] ((v, .fr (.int j)) :: slotsP σ env1) := g1
        exact ⟨j, by rw [g.head.int_inv], q1.1.1, q1.1.2, kk _ _ F1 H1 _ q1.2 s1 w1 g.drop (walkR 0 _)⟩
    · exact q1.elim
theorem di_range2 {t : DA} {p : Pos} (hg : Gl X "range") (hm : X.mg "range" = none) (ha : PA X [a, b] (liftA Y X.K t)) (hs : starEach [a, b] X.env = [(false, eval a X.env), (false, eval b X.env)] := by rfl) (hs2 : starEach [b] X.env = [(false, eval b X.env)] := by rfl) :
    PI X tg (.Call (.Name "range" p) [a, b] [] pos) (liftI Y X.K (diRange2 t)) :=
  PI.imp (pi_range2 hg hm ha hs hs2) fun σ H Q ⟨F, R, env, k, a, q, kk⟩ => by
    refine ⟨F, R, env, _, a, q, fun xs env1 vs F1 H1 q1 s1 w1 m1 g1 => ?_⟩
    split at q1
    · rename_i i o j o'
      match vs, m1 with
      | [v, u], m =>
        have g : Hold X.K F1 R H1 [] ((v, .fr (.int i)) :: (u, .fr (.int j)) :: slotsP σ env1) := g1
        exact ⟨i, j, by rw [g.head.int_inv, g.drop.head.int_inv], q1.1, kk _ _ F1 H1 _ q1.2 s1 w1 g.drop.drop (walkR i _)⟩
    · exact q1.elim
end

/-! ### comprehensions -/
def wipeE : Ev → List Nat → Ev
  | env, [] => env
  | env, v :: vs => (wipeE env vs).set v none
theorem wipeE_wf : ∀ {own : List Nat} {σ : L2.St} {env : Ev}, Wf σ env → Wf σ (wipeE env own)
  | [], _, _, w => w
  | v :: vs, _, _, w => (wipeE_wf (own := vs) w).none
theorem wipeE_length : ∀ {own : List Nat} {env : Ev}, (wipeE env own).length = env.length
  | [], _ => rfl
  | v :: vs, env => by rw [wipeE, List.length_set, wipeE_length]
theorem wipeE_at : ∀ {own : List Nat} {env : Ev} {i : Nat}, i ∈ own → i < env.length → (wipeE env own)[i]? = some none
  | v :: vs, env, i, h, hl => by
    rw [wipeE]
    by_cases e : i = v
    · rw [e, List.getElem?_set_self (by rw [wipeE_length]; omega)]
    · rw [List.getElem?_set_ne (Ne.symm e)]
      rcases List.mem_cons.mp h with z | z
      · exact absurd z e
      · exact wipeE_at z hl
theorem wipe_at : ∀ {own : List Nat} {σ : L2.St} {i : Nat}, i ∈ own → i < σ.length → (wipe σ own)[i]? = some none
  | v :: vs, σ, i, h, hl => by
    rw [wipe]
    by_cases e : i = v
    · rw [e, List.getElem?_set_self (by rw [wipe_length]; omega)]
    · rw [List.getElem?_set_ne (Ne.symm e)]
      rcases List.mem_cons.mp h with z | z
      · exact absurd z e
      · exact wipe_at z hl
theorem slots_wipe : ∀ {own : List Nat} {σ : L2.St} {env : Ev}, (∀ i ∈ own, i < env.length → env[i]? = some none) → slotsP (wipe σ own) env = slotsP σ env
  | [], _, _, _ => rfl
  | v :: vs, σ, env, h => by
    rw [wipe]
    by_cases hv : v < env.length
    · conv => lhs; rw [← set_self (h v List.mem_cons_self hv)]
      rw [slots_setN, set_self (h v List.mem_cons_self hv)]
      exact slots_wipe fun i hi => h i (List.mem_cons_of_mem _ hi)
    · have e : ∀ {τ : L2.St}, slotsP (τ.set v none) env = slotsP τ env := fun {τ} => by
        have e2 : env = env.set v none := (List.set_eq_of_length_le (by omega)).symm
        rw [e2, slots_setN, ← e2]
      rw [e]
      exact slots_wipe fun i hi => h i (List.mem_cons_of_mem _ hi)
theorem Wf.unset : ∀ {σ : L2.St} {env : Ev} {v : Nat}, Wf (σ.set v .none) env → Wf σ env
  | [], [], _, _ => trivial
  | [], _ :: _, v, h => by simp [Wf] at h
  | o :: σ, e :: env, 0, h => ⟨(fun q => by have := h.1 q; cases this), h.2⟩
  | o :: σ, e :: env, v + 1, h => ⟨h.1, Wf.unset h.2⟩
  | o :: σ, [], v, h => by cases v <;> simp [Wf] at h
theorem Wf.unwipe : ∀ {own : List Nat} {σ : L2.St} {env : Ev}, Wf (wipe σ own) env → Wf σ env
  | [], _, _, w => w
  | v :: vs, _, _, w => Wf.unwipe (own := vs) (Wf.unset w)
theorem Wf.reset : ∀ {σ : L2.St} {env : Ev} {v : Nat}, (v < env.length → env[v]? = Option.some Option.none) → Wf σ env → Wf (σ.set v Option.none) env
  | [], [], _, _, _ => trivial
  | o :: σ, e :: env, 0, h, w => ⟨(fun q => by have := h (by simp); simp at this; subst this; cases q), w.2⟩
  | o :: σ, e :: env, v + 1, h, w => ⟨w.1, Wf.reset (fun hl => by simpa using h (by simpa using hl)) w.2⟩
theorem Wf.wipe : ∀ {own : List Nat} {σ : L2.St} {env : Ev}, (∀ i ∈ own, i < env.length → env[i]? = some Option.none) → Wf σ env → Wf (L2.wipe σ own) env
  | [], _, _, _, w => w
  | v :: vs, σ, env, h, w => Wf.reset (h v List.mem_cons_self) (Wf.wipe (own := vs) (fun i hi => h i (List.mem_cons_of_mem _ hi)) w)
theorem Hold.unwipe {K : PySem.W.Frag} {F R H : Hp} {Xs : List Addr} {qs : List (V × L)} : ∀ {own : List Nat} {σ : L2.St} {env : Ev}, Wf σ env → Hold K F R H Xs (slotsP σ env ++ qs) → Hold K F R H Xs (slotsP σ (wipeE env own) ++ qs)
  | [], _, _, _, h => h
  | v :: vs, σ, env, w, h => (Hold.unwipe (own := vs) w h).unslot v (wipeE_wf w)

def compD (own : List Nat) (g : DG) (tt : DT) (te : DE) (Q : List L → Ev → Prop) : List D → List L → Ev → Prop
  | [], acc, env => Q acc env
  | d :: ds, acc, env => g (.fr d) env fun env1 => tt env1 fun b env2 => if b = true then te env2 fun l env3 => acc.length < sizeLine ∧ compD own g tt te Q ds (acc ++ [l]) (wipeE env3 own) else compD own g tt te Q ds acc (wipeE env2 own)
def dComp (ti : DI) (own : List Nat) (g : DG) (tt : DT) (te : DE) : DE := fun env Q => ti env fun ds env1 => compD own g tt te (fun acc env2 => Q (.lst acc) env2) ds [] (wipeE env1 own)
def dtYes : DT := fun env Q => Q true env
/-- the frame of a comprehension's turn -/
def blkFx (σ : L2.St) (own : List Nat) : List (Nat × Option V) := (List.range σ.length).filterMap fun i => if i ∈ own then none else some (i, (σ[i]?).getD none)
theorem blkFx_out {σ : L2.St} {own : List Nat} : ∀ q ∈ blkFx σ own, q.1 ∉ own := fun q h => by
  obtain ⟨i, hi, e⟩ := List.mem_filterMap.mp h
  split at e
  · cases e
  · cases e; assumption
theorem blkFx_in {σ : L2.St} {own : List Nat} : ∀ q ∈ blkFx σ own, σ[q.1]? = some q.2 := fun q h => by
  obtain ⟨i, hi, e⟩ := List.mem_filterMap.mp h
  split at e
  · cases e
  · cases e
    have hl : i < σ.length := List.mem_range.mp hi
    show σ[i]? = some ((σ[i]?).getD none)
    rw [List.getElem?_eq_getElem hl]
    rfl
theorem blkFx_mem {σ : L2.St} {own : List Nat} {i : Nat} (h : i < σ.length) (ho : i ∉ own) : (i, (σ[i]?).getD none) ∈ blkFx σ own :=
  List.mem_filterMap.mpr ⟨i, List.mem_range.mpr h, by rw [if_neg ho]⟩
theorem wipe_eq {σ σ2 : L2.St} {own : List Nat} (hl : σ2.length = σ.length) (h : ∀ q ∈ blkFx (L2.wipe σ own) own, σ2[q.1]? = some q.2) : L2.wipe σ2 own = L2.wipe σ own := by
  refine List.ext_getElem? fun i => ?_
  by_cases hi : i < σ.length
  · by_cases ho : i ∈ own
    · rw [wipe_at ho hi, wipe_at ho (by omega)]
    · rw [wipe_out ho]
      have := h _ (blkFx_mem (σ := L2.wipe σ own) (by rw [wipe_length]; exact hi) ho)
      rw [this]
      have hl : i < (L2.wipe σ own).length := by rw [wipe_length]; exact hi
      rw [List.getElem?_eq_getElem hl]
      rfl
  · rw [List.getElem?_eq_none_iff.mpr (by rw [wipe_length]; omega), List.getElem?_eq_none_iff.mpr (by rw [wipe_length]; omega)]

section
variable {X : Cx} {Y : Act} {elt tg iter : Expr} {pos : Pos}
/-- some frame of a turn -/
def YOk (own : List Nat) (Y : Act) : Prop := ∀ q ∈ Y.fx, q.1 ∉ own
theorem pg_some {X : Cx} {g : DG} {own : List Nat} (h : ∀ Y, YOk own Y → PG X tg (liftG Y X.K g)) : PG X tg (fun v σ H Q => ∃ Y, YOk own Y ∧ liftG Y X.K g v σ H Q) :=
  ⟨fun pins s σ H v u Q I r ⟨Y, y, q⟩ => (h Y y).run pins s σ H v u Q I r q⟩
theorem pe_some {X : Cx} {t : DE} {own : List Nat} (h : ∀ Y, YOk own Y → PE X elt (lift Y X.K t)) : PE X elt (fun σ H Q => ∃ Y, YOk own Y ∧ lift Y X.K t σ H Q) :=
  ⟨fun pins s σ H Q I ⟨Y, y, q⟩ => (h Y y).run pins s σ H Q I q⟩
theorem pts_some {X : Cx} {ifs : List Expr} {t : DT} {own : List Nat} (h : ∀ Y, YOk own Y → PTs X ifs (liftT Y X.K t)) : PTs X ifs (fun σ H Q => ∃ Y, YOk own Y ∧ liftT Y X.K t σ H Q) :=
  ⟨fun pins s σ H Q I ⟨Y, y, q⟩ => (h Y y).run pins s σ H Q I q⟩
theorem PTs.imp {X : Cx} {ifs : List Expr} {t t' : TT} (h : PTs X ifs t) (i : ∀ σ H Q, t' σ H Q → t σ H Q) : PTs X ifs t' := ⟨fun pins s σ H Q I q => h.run pins s σ H Q I (i _ _ _ q)⟩
theorem dts_nil : PTs X [] (liftT Y X.K dtYes) := PTs.imp pts_nil fun σ H Q ⟨F, R, env, k, a, q, kk⟩ => kk _ _ F H q (Same.refl _) a.wf a.hold
theorem dts_one {c : Expr} {t : DT} (h : PT X c (liftT Y X.K t)) : PTs X [c] (liftT Y X.K t) := pts_one h

theorem comp_core {own : List Nat} {g : DG} {tt : DT} {te : DE} {σ : L2.St} {Q : VK} {F1 R H1 : Hp} {ds : List D} {env1 : Ev} {J : It} {k : L → Ev → Prop} (w1 : Wf σ env1) (g1 : Hold X.K F1 R H1 [] (slotsP σ env1)) (wk : WalkD X.K F1 R J ds)
    (q1 : compD own g tt te (fun acc env2 => k (.lst acc) env2) ds [] (wipeE env1 own)) (kk : ∀ l env' v F' H', k l env' → Same F1 F' → Wf σ env' → Hold X.K F' R H' [] ((v, l) :: slotsP σ env') → Q v H') (Da : Addr) (hD : H1 Da = none) :
    ∃ W : Nat → Nat → Hp → Prop, (∃ m, W 0 m (upd H1 Da (.lst []))) ∧ ∀ i m H, W i m H →
      (J.stop i H ∧ Q (.ref Da) H) ∨ (J.go i H ∧ ∃ Nx : Hp → Prop, (∀ H', Nx H' → ∃ m', m' < m ∧ W (i + 1) m' H') ∧ ∀ x H', J.yld i H x H' → (∃ Y, YOk own Y ∧ liftG Y X.K g x (L2.wipe σ own) H' fun σ2 H2 => L2.wipe σ2 own = L2.wipe σ own ∧ ∃ Y, YOk own Y ∧ liftT Y X.K tt σ2 H2 fun b H3 =>
        if b = true then ∃ Y, YOk own Y ∧ lift Y X.K te σ2 H3 fun y H4 => ∃ acc, H4 Da = some (.lst acc) ∧ acc.length < sizeLine ∧ Nx (upd H4 Da (.lst (acc ++ [y]))) else Nx H3)) := by
  have no1 : ∀ (e : Ev), ∀ i ∈ own, i < (wipeE e own).length → (wipeE e own)[i]? = some none := fun e i hi hl => wipeE_at hi (by rw [wipeE_length] at hl; exact hl)
  have sl : ∀ (e : Ev), slotsP (L2.wipe σ own) (wipeE e own) = slotsP σ (wipeE e own) := fun e => slots_wipe (no1 e)
  have g1' : Hold X.K F1 R H1 [] (slotsP (L2.wipe σ own) (wipeE env1 own)) := by
    rw [sl]
    have := Hold.unwipe (own := own) (qs := []) w1 (by simpa using g1)
    simpa using this
  have g2 : Hold X.K F1 R (upd H1 Da (.lst [])) [] ((.ref Da, .lst []) :: slotsP (L2.wipe σ own) (wipeE env1 own)) := Hold.new (s := .lst) (qs := []) g1' hD rfl True.intro True.intro
  refine ⟨fun i m H' => m = ds.length - i ∧ i ≤ ds.length ∧ ∃ F' env' acc, Same F1 F' ∧ (∀ i ∈ own, i < env'.length → env'[i]? = some none) ∧ Wf (L2.wipe σ own) env' ∧ Hold X.K F' R H' [] ((.ref Da, .lst acc) :: slotsP (L2.wipe σ own) env') ∧
      compD own g tt te (fun acc env2 => k (.lst acc) env2) (ds.drop i) acc env', ⟨_, rfl, Nat.zero_le _, F1, wipeE env1 own, [], Same.refl _, no1 env1, Wf.wipe (no1 env1) (wipeE_wf w1), g2, q1⟩, ?_⟩
  rintro i m H' ⟨rfl, hi, F', env', acc, s, no, w, g, q'⟩
  by_cases hlt : i < ds.length
  · refine .inr ⟨wk.goes i F' H' hlt s g.hF g.hR, fun H' => ∃ F' env' acc, Same F1 F' ∧ (∀ i ∈ own, i < env'.length → env'[i]? = some none) ∧ Wf (L2.wipe σ own) env' ∧ Hold X.K F' R H' [] ((.ref Da, .lst acc) :: slotsP (L2.wipe σ own) env') ∧
        compD own _ tt te (fun acc env2 => k (.lst acc) env2) (ds.drop (i + 1)) acc env', fun H3 h3 => ⟨ds.length - (i + 1), by omega, rfl, hlt, h3⟩, fun x H2 y => ?_⟩
    have hd : ds[i]? = some ds[i] := List.getElem?_eq_getElem hlt
    obtain ⟨R', sR, ga, back⟩ := Hold.frame (ps := slotsP (L2.wipe σ own) env') (qs := [(.ref Da, .lst acc)]) (g.perm (List.perm_append_comm (l₁ := [(V.ref Da, L.lst acc)])))
    obtain ⟨F3, s3, g3, r3⟩ := wk.yields i x H' H2 F' R' _ _ y hd s ga
    rw [List.drop_eq_getElem_cons hlt] at q'
    have hY : YOk own ⟨F3, R', blkFx (L2.wipe σ own) own, σ.length⟩ := blkFx_out
    have hA : At ⟨F3, R', blkFx (L2.wipe σ own) own, σ.length⟩ X.K F3 R' H2 (L2.wipe σ own) env' := ⟨Same.refl _, Same.refl _, blkFx_in, wipe_length σ own, w, g3⟩
    refine ⟨_, hY, F3, R', env', _, _, hA, g3.push r3, q', fun env4 σ4 F4 H4 q4 s4 a4 => ?_⟩
    have we : L2.wipe σ4 own = L2.wipe σ own := wipe_eq a4.len a4.fx
    refine ⟨we, ?_⟩
    have hY4 : YOk own ⟨F4, R', blkFx (L2.wipe σ own) own, σ.length⟩ := blkFx_out
    have sl4 : ∀ (e : Ev), slotsP σ4 (wipeE e own) = slotsP (L2.wipe σ own) (wipeE e own) := fun e => by rw [← we]; exact (slots_wipe (no1 e)).symm
    refine ⟨_, hY4, F4, R', env4, _, ⟨Same.refl _, Same.refl _, a4.fx, a4.len, a4.wf, a4.hold⟩, q4, fun b env5 F5 H5 q5 s5 w5 g5 => ?_⟩
    have s05 : Same F' F5 := s3.trans (s4.trans s5)
    cases b with
    | false =>
      refine (if_neg Bool.false_ne_true).mpr ⟨F5, wipeE env5 own, acc, s.trans s05, no1 env5, ?_, ?_, (if_neg Bool.false_ne_true).mp q5⟩
      · rw [← we]; exact Wf.wipe (no1 env5) (wipeE_wf w5)
      · have b1 := back F5 H5 _ s05 g5
        have b2 := Hold.unwipe (own := own) w5 b1
        rw [sl4] at b2
        exact b2.perm (List.perm_append_comm (l₂ := [(V.ref Da, L.lst acc)]))
    | true =>
      have hY5 : YOk own ⟨F5, R', blkFx (L2.wipe σ own) own, σ.length⟩ := blkFx_out
      refine (if_pos rfl).mpr ⟨_, hY5, F5, R', env5, _, ⟨Same.refl _, Same.refl _, a4.fx, a4.len, w5, g5⟩, (if_pos rfl).mp q5, fun l env6 v F6 H6 q6 s6 w6 g6 => ?_⟩
      have b1 := back F6 H6 _ (s05.trans s6) g6
      have b2 : Hold X.K F6 R H6 [] ((.ref Da, .lst acc) :: ((v, l) :: slotsP σ4 env6)) := b1.perm (List.perm_append_comm (l₂ := [(V.ref Da, L.lst acc)]))
      obtain ⟨p, dx, vs, ep, eH, _, _, el, b3⟩ := b2.open
      cases ep
      have hlen : acc.length < sizeLine := q6.1
      refine ⟨vs, eH, by rw [el]; exact hlen, ?_⟩
      have b4 : Hold X.K F6 R H6 (Shape.lst.adr Da dx ++ []) ((vs.zip acc ++ [(v, l)]) ++ slotsP σ4 env6) := b3.perm (by simp)
      have b5 := Hold.closeW (s := .lst) (s' := .lst) b4 True.intro True.intro rfl rfl
      have e1 : (vs.zip acc ++ [(v, l)]).map (·.1) = vs ++ [v] := by rw [List.map_append, map_zip1 el]; rfl
      have e2 : (vs.zip acc ++ [(v, l)]).map (·.2) = acc ++ [l] := by rw [List.map_append, map_zip2 el]; rfl
      rw [e1, e2] at b5
      have b6 : Hold X.K F6 R (upd H6 Da (.lst (vs ++ [v]))) [] (slotsP σ4 env6 ++ [(.ref Da, .lst (acc ++ [l]))]) := b5.perm (List.perm_append_comm (l₁ := [(V.ref Da, L.lst (acc ++ [l]))]))
      have b7 := Hold.unwipe (own := own) w6 b6
      rw [sl4] at b7
      refine ⟨F6, wipeE env6 own, acc ++ [l], (s.trans s05).trans s6, no1 env6, ?_, b7.perm (List.perm_append_comm (l₂ := [(V.ref Da, L.lst (acc ++ [l]))])), q6.2⟩
      rw [← we]; exact Wf.wipe (no1 env6) (wipeE_wf w6)
  · have e : i = ds.length := by omega
    subst e
    rw [List.drop_length] at q'
    refine .inl ⟨wk.stops F' H' s g.hF g.hR, kk _ _ _ F' H' q' s w.unwipe ?_⟩
    rw [slots_wipe no] at g
    exact g
theorem lift_comp {ti : DI} {own : List Nat} {g : DG} {tt : DT} {te : DE} {σ : L2.St} {H : Hp} {Q : VK} (h : lift Y X.K (dComp ti own g tt te) σ H Q) :
    tLc (liftI Y X.K ti) (fun v σ H Q => ∃ Y, YOk own Y ∧ liftG Y X.K g v σ H Q) (fun σ H Q => ∃ Y, YOk own Y ∧ liftT Y X.K tt σ H Q) (fun σ H Q => ∃ Y, YOk own Y ∧ lift Y X.K te σ H Q) own σ H Q := by
  obtain ⟨F, R, env, k, a, q, kk⟩ := h
  exact ⟨F, R, env, _, a, q, fun ds env1 F1 H1 J q1 s1 w1 g1 wk Da hD => comp_core w1 g1 wk q1 (fun l env' v F' H' q' s w g => kk l env' v F' H' q' (s1.trans s) w g) Da hD⟩
theorem de_comp {scope : Scope} {ifs : List Expr} {own : List (Str × Nat)} {ti : DI} {g : DG} {tt : DT} {te : DE} (hc : X.calm = true) (hN : X.N.Nodup) (hi : PI X tg iter (liftI Y X.K ti)) (ok : BlkOk X.N X.env.scope scope own)
    (hg : ∀ (Y : Act), YOk (own.map (·.2)) Y → ∀ (s : Shared) (H : Hp) (C : Addr) (cl : List (Str × Addr)) (fp : List Addr), PG (X.blk s H scope (compEnvC scope cl C X.env) fp) tg (liftG Y X.K g))
    (ht : ∀ (Y : Act), YOk (own.map (·.2)) Y → ∀ (s : Shared) (H : Hp) (C : Addr) (cl : List (Str × Addr)) (fp : List Addr), PTs (X.blk s H scope (compEnvC scope cl C X.env) fp) ifs (liftT Y X.K tt))
    (he : ∀ (Y : Act), YOk (own.map (·.2)) Y → ∀ (s : Shared) (H : Hp) (C : Addr) (cl : List (Str × Addr)) (fp : List Addr), PE (X.blk s H scope (compEnvC scope cl C X.env) fp) elt (lift Y X.K te)) (hs : ∀ x, foldedSetIterable iter X.env x = pure x := by intro _; rfl) :
    PE X (.ListComp elt [⟨tg, iter, ifs, 0⟩] scope pos) (lift Y X.K (dComp ti (own.map (·.2)) g tt te)) :=
  PE.imp (pe_lc hc hN hi ok (fun s H C cl fp => pg_some (X := X.blk s H scope (compEnvC scope cl C X.env) fp) fun Y y => hg Y y s H C cl fp) (fun s H C cl fp => pts_some (X := X.blk s H scope (compEnvC scope cl C X.env) fp) fun Y y => ht Y y s H C cl fp)
    (fun s H C cl fp => pe_some (X := X.blk s H scope (compEnvC scope cl C X.env) fp) fun Y y => he Y y s H C cl fp) hs) fun _ _ _ h => lift_comp h
end
end TL

namespace TL
open PySem PySem.Spec PyProof.Rows L2

/-! ### a def keeps its contract -/
def entryL (bs : List Nat) : Nat → List L → List L
  | _, [] => []
  | j, l :: ls => (if j ∈ bs then l else .fr l.toD) :: entryL bs (j + 1) ls
def entry (bs : List Nat) (n : Nat) (ls : List L) : Ev := (entryL bs 0 ls).map some ++ List.replicate (n - ls.length) none
def slotL (env : Ev) (j : Nat) : Option L := (env[j]?).getD none
def outs (bs : List Nat) (env : Ev) : Nat → List L → List L
  | _, [] => []
  | j, l :: ls => (if j ∈ bs then (slotL env j).getD (.fr .non) else .fr l.toD) :: outs bs env (j + 1) ls
def OutOk : List Nat → Ev → Prop
  | [], _ => True
  | j :: bs, env => (slotL env j).isSome = true ∧ OutOk bs env
theorem OutOk.get : ∀ {bs : List Nat} {env : Ev} {j : Nat}, OutOk bs env → j ∈ bs → ∃ l, env[j]? = some (some l) ∧ slotL env j = some l
  | b :: bs, env, j, h, hj => by
    rcases List.mem_cons.mp hj with e | e
    · subst e
      have h1 := h.1
      unfold slotL at h1 ⊢
      cases q : env[j]? with
      | none => rw [q] at h1; cases h1
      | some o =>
        rw [q] at h1
        cases o with
        | none => cases h1
        | some l => exact ⟨l, rfl, rfl⟩
    · exact OutOk.get h.2 e
theorem entryL_length (bs : List Nat) : ∀ (j : Nat) (ls : List L), (entryL bs j ls).length = ls.length
  | _, [] => rfl
  | j, l :: ls => by simp [entryL, entryL_length bs (j + 1) ls]
theorem outs_length (bs : List Nat) (env : Ev) : ∀ (j : Nat) (ls : List L), (outs bs env j ls).length = ls.length
  | _, [] => rfl
  | j, l :: ls => by simp [outs, outs_length bs env (j + 1) ls]
theorem slotsP_nil : ∀ (m n : Nat), slotsP (List.replicate m none) (List.replicate n none) = []
  | 0, n => by simp [slotsP]
  | m + 1, 0 => by simp [slotsP]
  | m + 1, n + 1 => by simp only [List.replicate_succ, slotsP_none]; exact slotsP_nil m n
theorem slots_entry : ∀ (vs : List V) (ls : List L) (m n : Nat), vs.length = ls.length → slotsP (vs.map some ++ List.replicate m none) (ls.map some ++ List.replicate n none) = vs.zip ls
  | [], [], m, n, _ => by simpa using slotsP_nil m n
  | v :: vs, l :: ls, m, n, h => by
    simp only [List.map_cons, List.cons_append, slotsP, List.zip_cons_cons]
    rw [slots_entry vs ls m n (by simpa using h)]
  | [], l :: ls, _, _, h => by simp at h
  | v :: vs, [], _, _, h => by simp at h
theorem Wf_nil : ∀ m : Nat, Wf (List.replicate m none) (List.replicate m none)
  | 0 => trivial
  | m + 1 => by
    simp only [List.replicate_succ]
    exact ⟨(fun q => by cases q), Wf_nil m⟩
theorem Wf_entry : ∀ (vs : List V) (ls : List L) (m : Nat), vs.length = ls.length → Wf (vs.map some ++ List.replicate m none) (ls.map some ++ List.replicate m none)
  | [], [], m, _ => by simpa using Wf_nil m
  | v :: vs, l :: ls, m, h => ⟨fun _ => rfl, Wf_entry vs ls m (by simpa using h)⟩
  | [], l :: ls, _, h => by simp at h
  | v :: vs, [], _, h => by simp at h
/-- by-value arguments become known for good -/
theorem Hold.entry {K : PySem.W.Frag} {R H : Hp} {Xs : List Addr} {bs : List Nat} : ∀ {vs : List V} {ls : List L} {F : Hp} {qs : List (V × L)} (j : Nat), vs.length = ls.length → Hold K F R H Xs (vs.zip ls ++ qs) →
    ∃ F', Same F F' ∧ Hold K F' R H Xs (vs.zip (entryL bs j ls) ++ qs)
  | [], [], F, qs, j, _, h => ⟨F, Same.refl _, h⟩
  | v :: vs, l :: ls, F, qs, j, e, h => by
    have e' : vs.length = ls.length := by simpa using e
    by_cases hj : j ∈ bs
    · obtain ⟨F', s, g⟩ := Hold.entry (bs := bs) (qs := (v, l) :: qs) (j + 1) e' (h.perm (List.perm_middle.symm))
      refine ⟨F', s, ?_⟩
      simp only [entryL, if_pos hj]
      exact g.perm List.perm_middle
    · obtain ⟨F1, s1, g1⟩ := Hold.frz (ps := vs.zip ls ++ qs) h
      obtain ⟨F', s, g⟩ := Hold.entry (bs := bs) (qs := (v, .fr l.toD) :: qs) (j + 1) e' (g1.perm (List.perm_middle.symm))
      refine ⟨F', s1.trans s, ?_⟩
      simp only [entryL, if_neg hj]
      exact g.perm List.perm_middle
  | [], _ :: _, _, _, _, e, _ => by simp at e
  | _ :: _, [], _, _, _, e, _ => by simp at e
/-- what is known of the by-value arguments -/
def Known (K : PySem.W.Frag) (F : Hp) (bs : List Nat) : Nat → List V → List L → Prop
  | _, [], [] => True
  | j, v :: vs, l :: ls => (j ∉ bs → Rep K F v l.toD) ∧ Known K F bs (j + 1) vs ls
  | _, _, _ => False
theorem Known.mono {K : PySem.W.Frag} {F F' : Hp} {bs : List Nat} (s : Same F F') : ∀ {j : Nat} {vs : List V} {ls : List L}, Known K F bs j vs ls → Known K F' bs j vs ls
  | _, [], [], _ => trivial
  | j, v :: vs, l :: ls, h => ⟨fun q => (h.1 q).mono s, Known.mono s h.2⟩
theorem Known.of {K : PySem.W.Frag} {F R H : Hp} {Xs : List Addr} {bs : List Nat} : ∀ {vs : List V} {ls : List L} {qs : List (V × L)} (j : Nat), vs.length = ls.length → Hold K F R H Xs (vs.zip (entryL bs j ls) ++ qs) → Known K F bs j vs ls
  | [], [], qs, j, _, _ => trivial
  | v :: vs, l :: ls, qs, j, e, h => by
    refine ⟨fun q => ?_, Known.of (j + 1) (by simpa using e) (Hold.drop h)⟩
    simp only [entryL, if_neg q] at h
    exact Hold.head h
  | [], _ :: _, _, _, e, _ => by simp at e
  | _ :: _, [], _, _, e, _ => by simp at e
theorem outs_set {bs : List Nat} {env : Ev} {i : Nat} {o : Option L} : ∀ {j : Nat} {ls : List L}, i < j → outs bs (env.set i o) j ls = outs bs env j ls
  | _, [], _ => rfl
  | j, l :: ls, h => by
    have e : slotL (env.set i o) j = slotL env j := by unfold slotL; rw [List.getElem?_set_ne (by omega)]
    simp only [outs, e, outs_set (ls := ls) (show i < j + 1 by omega)]
theorem Hold.outs {K : PySem.W.Frag} {F R H : Hp} {Xs : List Addr} {bs : List Nat} {σ : L2.St} : ∀ {vs : List V} {ls : List L} {env : Ev} {qs : List (V × L)} (j : Nat), vs.length = ls.length → Wf σ env → (∀ i, i ∈ bs → j ≤ i → ∃ l, env[i]? = some (some l) ∧ slotL env i = some l) →
    (∀ i v, i ∈ bs → vs[i - j]? = some v → j ≤ i → σ[i]? = some (some v)) → Known K F bs j vs ls → Hold K F R H Xs (slotsP σ env ++ qs) → Hold K F R H Xs (vs.zip (TL.outs bs env j ls) ++ qs)
  | [], [], env, qs, j, _, w, _, _, _, h => Hold.dropN h
  | v :: vs, l :: ls, env, qs, j, e, w, ho, hs, kn, h => by
    have e' : vs.length = ls.length := by simpa using e
    by_cases hj : j ∈ bs
    · obtain ⟨m, h1, h2⟩ := ho j hj (Nat.le_refl _)
      have hv : σ[j]? = some (some v) := hs j v hj (by simp) (Nat.le_refl _)
      have g : Hold K F R H Xs (slotsP σ (env.set j none) ++ ((v, m) :: qs)) := h.perm ((List.Perm.append_right qs (slots_get h1 hv)).trans List.perm_middle.symm)
      have g2 := Hold.outs (bs := bs) (env := env.set j none) (j + 1) e' w.none (fun i hi hl => by
        obtain ⟨m', q1, q2⟩ := ho i hi (by omega)
        refine ⟨m', by rw [List.getElem?_set_ne (by omega)]; exact q1, ?_⟩
        unfold slotL at q2 ⊢
        rw [List.getElem?_set_ne (by omega)]; exact q2) (fun i v' hi hv' hl => hs i v' hi (by
          have : i - j = (i - (j + 1)) + 1 := by omega
          rw [this]; simpa using hv') (by omega)) kn.2 g
      rw [outs_set (show j < j + 1 by omega)] at g2
      simp only [TL.outs, if_pos hj, h2, Option.getD_some]
      exact g2.perm List.perm_middle
    · have g2 := Hold.outs (bs := bs) (env := env) (qs := qs) (j + 1) e' w (fun i hi hl => ho i hi (by omega)) (fun i v' hi hv' hl => hs i v' hi (by
          have : i - j = (i - (j + 1)) + 1 := by omega
          rw [this]; simpa using hv') (by omega)) kn.2 h
      simp only [TL.outs, if_neg hj]
      exact g2.push (kn.1 hj)
  | [], _ :: _, _, _, _, e, _, _, _, _, _ => by simp at e
  | _ :: _, [], _, _, _, e, _, _, _, _, _ => by simp at e

/-- the frame of a def whose slots bs keep their value -/
def YFn (bs : List Nat) (Y : Act) : Prop := ∀ q ∈ Y.fx, q.1 ∈ bs
theorem nofx {bs : List Nat} {Y : Act} {i : Nat} (h : YFn bs Y) (hi : i ∉ bs) : ∀ q ∈ Y.fx, q.1 ≠ i := fun q hq e => hi (e ▸ h q hq)
theorem nofxB {own : List Nat} {Y : Act} {i : Nat} (h : YOk own Y) (hi : i ∈ own) : ∀ q ∈ Y.fx, q.1 ≠ i := fun q hq e => h q hq (e ▸ hi)
/-- the ends of a def: what was lent comes back -/
def endsOf (bs : List Nat) (ls : List L) (k : L → List L → Prop) : DEnds := { nx := fun env => OutOk bs env ∧ k (.fr .non) (outs bs env 0 ls), rt := fun r env => OutOk bs env ∧ k r (outs bs env 0 ls) }
section
variable {P : Program} {w : World} {K : PySem.W.Frag} {mg : Str → Option Value} {base : Heap}
theorem okD {x qual : Str} {st : Stmt} {f : Addr} {fd : FuncData} {N ps : List Str} {k : Nat} {C : Con} (bs : List Nat) (F : Fun K x qual st f fd) (S : FnScope N ps (defScope st)) (hlen : ∀ ls k kx, C ls k kx → ls.length = ps.length) (t : DS)
    (hbody : ∀ (cdv : Value) (A : Around) (outer : List Env) (s : Shared) (H : Hp) (E : XK) (Y : Act), Room k (A.deeper (envOfC qual (defScope st) s.heap.objs.size f cdv)) → YFn bs Y →
      PSs (cxOf (L2.CX P w) P w K mg base N qual (defScope st) f cdv A outer s H E) (defBody st) (liftS Y K t))
    (hC : ∀ ls k kx, C ls k kx → t (endsOf bs ls k) (entry bs N.length ls)) :
    FnOk P w K mg base (L2.CX P w) (k + 1) f fd ps (spD K C) := by
  refine F.okX S (fun vs H Q E ⟨F, R, ls, k, kx, h1, _, h3, _⟩ => h1.trans (hlen _ _ _ h3)) fun cdv A outer s H vs Q E hr ⟨Fr, R, ls, kk, kx, hl, hold, hc, hq, _⟩ => ?_
  obtain ⟨F1, s1, g1⟩ := Hold.entry (bs := bs) (qs := []) 0 hl (by simpa using hold)
  have kn := Known.of 0 hl g1
  have hle : vs.length = (entryL bs 0 ls).length := by rw [entryL_length]; exact hl
  have hps : vs.length = ps.length := hl.trans (hlen _ _ _ hc)
  have hN : ps.length ≤ N.length := by
    have := congrArg List.length S.pre
    rw [List.length_take] at this
    omega
  have hY : YFn bs ⟨F1, R, bs.filterMap fun j => (vs[j]?).map fun v => (j, some v), N.length⟩ := fun q hq => by
    obtain ⟨j, hj, e⟩ := List.mem_filterMap.mp hq
    cases hv : vs[j]? with
    | none => rw [hv] at e; cases e
    | some v => rw [hv] at e; cases e; exact hj
  refine ⟨_, hbody cdv A outer s H E _ hr hY, F1, R, entry bs N.length ls, _, ⟨Same.refl _, Same.refl _, fun q hq => ?_, ?_, ?_, ?_⟩, hC ls kk kx hc, ?_⟩
  · obtain ⟨j, hj, e⟩ := List.mem_filterMap.mp hq
    cases hv : vs[j]? with
    | none => rw [hv] at e; cases e
    | some v =>
      rw [hv] at e
      cases e
      have hjl : j < vs.length := (List.getElem?_eq_some_iff.mp hv).1
      show (vs.map some ++ List.replicate (N.length - vs.length) none)[j]? = some (some v)
      rw [List.getElem?_append_left (by rw [List.length_map]; exact hjl), List.getElem?_map, hv]
      rfl
  · show (vs.map some ++ List.replicate (N.length - vs.length) none).length = N.length
    simp only [List.length_append, List.length_map, List.length_replicate]
    omega
  · unfold entry L2.start
    rw [← hl]
    exact Wf_entry vs _ _ hle
  · unfold entry L2.start
    rw [slots_entry _ _ _ _ hle]
    simpa using g1
  · have fin : ∀ (l : L) (env' : Ev) (v : V) (σ' : L2.St) (F' H' : Hp), (OutOk bs env' ∧ kk l (outs bs env' 0 ls)) → Same F1 F' → (∀ q ∈ (bs.filterMap fun j => (vs[j]?).map fun v => (j, some v)), σ'[q.1]? = some q.2) → Wf σ' env' → Hold K F' R H' [] ((v, l) :: slotsP σ' env') → Q v H' := by
      intro l env' v σ' F' H' ⟨q1, q2⟩ s' fx w g
      refine hq l _ v F' H' q2 (s1.trans s') (by rw [outs_length]; exact hl.symm) ?_
      have g2 : Hold K F' R H' [] (slotsP σ' env' ++ [(v, l)]) := g.perm (List.perm_append_comm (l₁ := [(v, l)]))
      have g3 := Hold.outs (bs := bs) (σ := σ') (env := env') (qs := [(v, l)]) 0 hl w (fun i hi _ => q1.get hi) (fun i v' hi hv' _ => fx (i, some v') (List.mem_filterMap.mpr ⟨i, hi, by rw [show vs[i]? = some v' by simpa using hv']; rfl⟩)) (kn.mono s') g2
      exact g3.perm (List.perm_append_comm (l₂ := [(v, l)]))
    refine ⟨fun env' σ' F' H' q s' a => ?_, fun l env' v σ' F' H' q s' fx w g => fin l env' v σ' F' H' q s' fx w g, fun _ _ _ _ q => q.elim, fun _ _ _ _ q => q.elim⟩
    exact fin (.fr .non) env' .non σ' F' H' q s' a.fx a.wf (a.hold.push .non)
end
end TL

namespace TL
open PySem PySem.Spec PyProof.Rows L2

/-! ### a, *b = a tuple -/
theorem star_tup {prog : Program} {w : World} {A : Around} {E : Value → Shared → Prop} {s : Shared} {l : Addr} {items : Array Value} {n i : Nat} {Q : List Value → Shared → Prop} (hl : IsTup s.heap l items) (hh : A.handled = none) (hi : i < n) (hn : n ≤ items.size + 1) (hz : items.size ≤ 16384)
    (h : ∀ h' tk D, (∀ b o, s.heap.get? b = some o → h'.get? b = some o) → s.heap.get? D = none → h'.get? D = some { cls := .type "list", data := .seq ((items.toList.drop i).take (items.size + 1 - n)).toArray } →
      Q (items.toList.take i ++ [.ref D] ++ (items.toList.drop i).drop (items.size + 1 - n)) { s with heap := h', toks := tk }) : wpAny (model prog w) A (unpackItems (.ref l) n (some i)) Q E s := by
  have hlt : l ≠ s.heap.objs.size := by obtain ⟨o, ho, _⟩ := hl; exact Nat.ne_of_lt (Heap.lt_size ho)
  have hll : l < s.heap.objs.size := by obtain ⟨o, ho, _⟩ := hl; exact Heap.lt_size ho
  unfold unpackItems
  refine wpAny_bind ?_
  unfold notIterableAtAll
  refine wpAny_bind (wpAny_specialOf hl.typeIs slot_tuple_iter.lookup ?_)
  refine wpAny_pure ?_
  simp only [Bool.false_eq_true, if_false]
  refine wpAny_bind (wpAny_holding (iter_tuple hl ?_))
  refine wpAny_bind (wpAny_holding (draw_tuple hlt i 0 _ _ ⟨_, Heap.get?_push_size _ rfl, rfl, rfl⟩ (hl.push _) (by omega) fun h₁ hit₁ hs₁ => ?_))
  have hl₁ : IsTup h₁ l items := (hl.push _).extBut hs₁.extBut hlt
  rw [Nat.zero_add] at hit₁
  have hit₁' := hit₁
  obtain ⟨oi, hoi, _⟩ := hit₁'
  have hl₁' := hl₁
  obtain ⟨ol, hol, _⟩ := hl₁'
  rw [List.drop_zero]
  have hfl : (items.toList.take i).length = i := by rw [List.length_take, Array.length_toList]; omega
  rw [if_neg (show ¬ ((items.toList.take i).length < i) by rw [hfl]; omega)]
  have hsz2 : s.heap.objs.size ≤ h₁.objs.size := Nat.le_of_lt (Heap.lt_size hoi)
  refine wpAny_bind (wpAny_holding (PySem.W.kun_collect (s := { s with heap := h₁ }) (T := "tuple_iterator") (.inr (.inr (.inr rfl))) (Walks.tuple (A := A.in1) hh s.heap.objs.size l hlt items) (fun j u st => st.1.typeIs) (k := i) (by omega) ⟨hit₁, hl₁⟩ (Heap.lt_size hoi) (Heap.lt_size hol) (fun h₂ tk hk => ?_) (by rw [sizeLine_eq]; omega)))
  have hrl : (items.toList.drop i).length = items.size - i := by rw [List.length_drop, Array.length_toList]
  have hmid : (items.toList.drop i).length - (n - 1 - i) = items.size + 1 - n := by rw [hrl]; omega
  show wpAny _ _ (if (items.toList.drop i).length < n - 1 - i then _ else _) _ _ _
  rw [if_neg (by rw [hrl]; omega)]
  show wpAny _ _ (newList ((items.toList.drop i).take ((items.toList.drop i).length - (n - 1 - i))) >>= fun d => pure (items.toList.take i ++ [d] ++ (items.toList.drop i).drop ((items.toList.drop i).length - (n - 1 - i)))) _ _ _
  rw [hmid]
  have he : Heap.ExtBut s.heap.objs.size s.heap h₂ := fun b o hb e => hk b o hb (hs₁.extBut b o hb (Heap.get?_push_of_some _ e))
  have kp : ∀ b o, s.heap.get? b = some o → h₂.get? b = some o := fun b o e => he b o (Nat.ne_of_lt (Heap.lt_size e)) e
  have hol2 : h₂.get? l = some ol := hk l ol hlt hol
  refine wpAny_bind (wpAny_newList (wpAny_pure (h _ tk _ (fun b o e => Heap.get?_push_of_some _ (kp b o e)) ?_ (Heap.get?_push_size _ rfl))) ?_)
  · cases q : s.heap.get? h₂.objs.size with
    | none => rfl
    | some o => exact absurd (Heap.lt_size (kp _ _ q)) (Nat.lt_irrefl _)
  · rw [List.length_take, hrl, sizeLine_eq]; omega
theorem ObjOk.there {P : Program} {w : World} {H : Hp} {h : Heap} {a : Addr} {o : HO} (x : ObjOk P w H h a o) : ∃ ob, h.get? a = some ob := by
  cases o with
  | lst xs => obtain ⟨_, _, _, _, e⟩ := x; exact ⟨_, e⟩
  | tup xs => obtain ⟨_, _, _, ob, e, _⟩ := x; exact ⟨_, e⟩
  | dK kvs => obtain ⟨_, _, _, _, o, _, _, e, _⟩ := x; exact ⟨_, e⟩
  | dT kvs => obtain ⟨_, _, _, _, o, _, _, e, _⟩ := x; exact ⟨_, e⟩
  | set S n => obtain ⟨o, _, _, _, e, _⟩ := x; exact ⟨_, e⟩
  | ins C dx fs => obtain ⟨_, _, _, e, _⟩ := x; exact ⟨_, e⟩
  | own y => obtain ⟨_, e⟩ := x; exact ⟨_, e⟩
  | xd fs => obtain ⟨_, ⟨_, _, _, e, _⟩, _⟩ := x; exact ⟨_, e⟩
  | rng lo hi => obtain ⟨_, _, _, e⟩ := x; exact ⟨_, e⟩
  | frz ob u => obtain ⟨e, _⟩ := x; exact ⟨_, e⟩
  | tbl ps => exact ⟨_, (show h.get? a = some _ from x)⟩
  | met f y => exact ⟨_, (show h.get? a = some _ from x)⟩
  | ext φ => obtain ⟨_, ⟨_, e⟩, _⟩ := x; exact ⟨_, e⟩
theorem HOk.free {P : Program} {w : World} {H : Hp} {h : Heap} {a : Addr} (x : HOk P w H h) (n : h.get? a = none) : H a = none := by
  cases q : H a with
  | none => rfl
  | some o => obtain ⟨ob, e⟩ := ObjOk.there (x a o q); rw [n] at e; cases e
theorem HOk.laidN {P : Program} {w : World} {H : Hp} {h h' : Heap} {a : Addr} {o : HO} (x : HOk P w H h) (k : ∀ b u, h.get? b = some u → h'.get? b = some u) (hn : H a = none) (new : ObjOk P w (upd H a o) h' a o) : HOk P w (upd H a o) h' := fun b u e => by
  by_cases hb : b = a
  · subst hb; rw [upd_same] at e; cases e; exact new
  · rw [upd_ne hb] at e
    exact (x b u e).stay (fun c v _ q => k c v q) (fun c q => by rw [upd_ne (ne_of_none q hn)]; exact q) fun c xs q => by rw [upd_ne (ne_of_none q hn)]; exact q
theorem Un.laidN {fs ex : List Addr} {H : Hp} {h h' : Heap} {a : Addr} {o : HO} (k : ∀ b u, h.get? b = some u → h'.get? b = some u) (hp : h.get? a = none) (hn : H a = none) : Un fs ex H (upd H a o) h h' where
  keep := fun b u q _ _ _ => k b u q
  slot := fun b u q _ _ _ => ⟨u.slots, k b u q⟩
  free := fun b u q n _ => by rw [upd_ne (fun z => by rw [z, hp] at q; cases q)]; exact n
  there := fun b u q _ => ⟨u, k b u q⟩
  tups := fun b xs q => by rw [upd_ne (ne_of_none q hn)]; exact q
  frzs := fun b u xs q => by rw [upd_ne (ne_of_none q hn)]; exact q
  tbls := fun b ps q => ⟨#[], by rw [upd_ne (ne_of_none q hn), q]; simp⟩
theorem Inv.laidN {X : Cx} {pins : List (Addr × Obj)} {σ : L2.St} {H : Hp} {s : Shared} {h' : Heap} {a : Addr} {o : HO} {t' : Nat} (I : Inv X pins σ H s) (k : ∀ b u, s.heap.get? b = some u → h'.get? b = some u) (hp : s.heap.get? a = none) (new : ObjOk X.prog X.w (upd H a o) h' a o) :
    Inv X pins σ (upd H a o) { s with heap := h', toks := t' } := I.un (Un.laidN k hp (HOk.free I.hok hp)) (HOk.laidN I.hok k (HOk.free I.hok hp) new)
/-- a, *b, c = a tuple: n targets, the i-th starred -/
def gStar (K : PySem.W.Frag) (n i : Nat) (t : TGs) : TG := fun v σ H Q => ∃ a xs, v = .ref a ∧ SqT K H a xs ∧ n ≤ xs.length + 1 ∧ xs.length ≤ 16384 ∧
  ∀ D, H D = none → t (xs.take i ++ [.ref D] ++ (xs.drop i).drop (xs.length + 1 - n)) σ (upd H D (.lst ((xs.drop i).take (xs.length + 1 - n)))) Q
theorem pg_star {X : Cx} {es : List Expr} {k n i : Nat} {t : TGs} {pos : Pos} (hc : X.calm = true) (h : PGs X es t) (hi : i < n) (hn : (assignEach es X.env).length = n := by rfl) (hst : (assignEach es X.env).findIdx? (·.1) = some i := by rfl) : PG X (.Tuple es k pos) (gStar X.K n i t) := by
  refine ⟨fun pins s σ H v u Q I r hw => ?_⟩
  obtain ⟨a, xs, e1, hq, hl, hz, hw⟩ := hw
  subst e1
  cases r
  obtain ⟨its, rv, ht, _⟩ := I.tuple hq
  have hlen := rv.length
  have hsz : its.toArray.size = xs.length := by rw [List.size_toArray]; exact hlen.symm
  rw [assign_Tuple]
  refine wpAny_bind (wpAny_standAt ?_)
  unfold unpack
  rw [hn, hst]
  refine wpAny_bind (wpAny_holding (star_tup ht (I.ok.hd hc) hi (by rw [hsz]; exact hl) (by rw [hsz]; exact hz) fun h' tk D kp hD hob => ?_))
  rw [hsz] at hob ⊢
  have hHD : H D = none := HOk.free I.hok hD
  have rm : Vals ((xs.drop i).take (xs.length + 1 - n)) ((its.drop i).take (xs.length + 1 - n)) := (rv.drop i).take _
  have I1 : Inv X pins σ (upd H D (.lst ((xs.drop i).take (xs.length + 1 - n)))) { s with heap := h', toks := tk } := Inv.laidN I kp hD ⟨by rw [List.length_take, List.length_drop, sizeLine_eq]; omega, _, 0, rm, hob⟩
  refine h.run pins _ σ _ _ _ Q I1 ?_ (hw D hHD)
  exact Vals.append (Vals.append (rv.take i) (.cons rfl .nil)) ((rv.drop i).drop _)
section
variable {X : Cx} {Y : Act} {es : List Expr} {pos : Pos}
def dgStar (n i : Nat) (gs : DGs) : DG := fun l env Q => match l.toD with
  | .tup ds => n ≤ ds.length + 1 ∧ ds.length ≤ 16384 ∧ gs ((ds.take i).map L.fr ++ [.lst (((ds.drop i).take (ds.length + 1 - n)).map L.fr)] ++ ((ds.drop i).drop (ds.length + 1 - n)).map L.fr) env Q
  | _ => False
theorem Reps.take {K : PySem.W.Frag} {F : Hp} : ∀ {vs : List V} {ds : List D} (n : Nat), Reps K F vs ds → Reps K F (vs.take n) (ds.take n)
  | _, _, 0, _ => by simp; exact .nil
  | _, _, n + 1, .nil => by simp; exact .nil
  | _, _, n + 1, .cons h r => by simp; exact .cons h (Reps.take n r)
theorem Reps.drop {K : PySem.W.Frag} {F : Hp} : ∀ {vs : List V} {ds : List D} (n : Nat), Reps K F vs ds → Reps K F (vs.drop n) (ds.drop n)
  | _, _, 0, r => r
  | _, _, n + 1, .nil => by simp; exact .nil
  | _, _, n + 1, .cons h r => by simp; exact Reps.drop n r
theorem Reps.append {K : PySem.W.Frag} {F : Hp} : ∀ {vs ws : List V} {ds es : List D}, Reps K F vs ds → Reps K F ws es → Reps K F (vs ++ ws) (ds ++ es)
  | _, _, _, _, .nil, s => s
  | _, _, _, _, .cons h r, s => .cons h (Reps.append r s)
theorem dg_star {k n i : Nat} {gs : DGs} (hc : X.calm = true) (h : PGs X es (liftGs Y X.K gs)) (hi : i < n) (hn : (assignEach es X.env).length = n := by rfl) (hst : (assignEach es X.env).findIdx? (·.1) = some i := by rfl) :
    PG X (.Tuple es k pos) (liftG Y X.K (dgStar n i gs)) :=
  PG.imp (pg_star hc h hi hn hst) fun v σ H Q ⟨F, R, env, l, k, a, g, q, kk⟩ => by
    obtain ⟨F1, s1, g1⟩ := g.frz
    unfold dgStar at q
    have hr := g1.head
    cases hl : l.toD with
    | tup ds =>
      rw [hl] at q hr
      obtain ⟨p, vs, e, t, r⟩ := hr.tup_inv
      have hlen := r.length
      refine ⟨p, vs, e, Same.seqT g1.hF t.sq, by rw [hlen]; exact q.1, by rw [hlen]; exact q.2.1, fun D hD => ?_⟩
      rw [hlen]
      have rm := (r.drop i).take (ds.length + 1 - n)
      have g2 := Hold.pushs rm g1.drop
      have hlm : ((vs.drop i).take (ds.length + 1 - n)).length = (((ds.drop i).take (ds.length + 1 - n)).map L.fr).length := by rw [rm.length, List.length_map]
      have g3 := Hold.new (s := .lst) g2 hD rfl True.intro True.intro
      rw [map_zip1 hlm, map_zip2 hlm] at g3
      refine ⟨F1, R, env, _, k, a.to s1 a.wf g3.drop, ?_, ?_, q.2.2, fun env2 σ2 F2 H2 q2 s2 a2 => kk _ _ _ _ q2 (s1.trans s2) a2⟩
      · simp only [List.length_append, List.length_map, List.length_cons, List.length_nil, List.length_take, List.length_drop, hlen]
      · have r1 := r.take i
        have r3 := (r.drop i).drop (ds.length + 1 - n)
        rw [zip_app (by simp only [List.length_append, List.length_map, List.length_cons, List.length_nil, r1.length]), zip_app (by rw [List.length_map, r1.length]), List.append_assoc, List.append_assoc]
        refine Hold.pushs r1 ?_
        have g4 : Hold X.K F1 R _ [] ((vs.drop i).drop (ds.length + 1 - n) |>.zip (((ds.drop i).drop (ds.length + 1 - n)).map L.fr) |>.append ((.ref D, .lst (((ds.drop i).take (ds.length + 1 - n)).map L.fr)) :: slotsP σ env)) := Hold.pushs r3 g3
        exact g4.perm List.perm_middle
    | _ => rw [hl] at q; exact q.elim
end
end TL

namespace TL
open PySem PySem.Spec PyProof.Rows L2

theorem OpR.imp {X : Cx} {f : Value → Value → Sem Value} {r r' : R2} (h : OpR X f r) (i : ∀ x y H Q, r' x y H Q → r x y H Q) : OpR X f r' :=
  fun pins s σ H x y v u Q I rx ry q => h pins s σ H x y v u Q I rx ry (i _ _ _ _ q)
theorem IxR.imp {X : Cx} {r r' : R2} (h : IxR X r) (i : ∀ x y H Q, r' x y H Q → r x y H Q) : IxR X r' :=
  fun value slice pins s σ H x y v u Q I rx ry q hs => h value slice pins s σ H x y v u Q I rx ry (i _ _ _ _ q) hs
theorem CallR.imp {X : Cx} {f : Value} {r r' : List V → Hp → VK → Prop} (h : CallR X f r) (i : ∀ xs H Q, r' xs H Q → r xs H Q) : CallR X f r' :=
  fun pins s σ H xs us Q I r q => h pins s σ H xs us Q I r (i _ _ _ q)
theorem UnR.imp {X : Cx} {f : Value → Sem Value} {r r' : V → Hp → VK → Prop} (h : UnR X f r) (i : ∀ x H Q, r' x H Q → r x H Q) : UnR X f r' :=
  fun pins s σ H x v Q I rx q => h pins s σ H x v Q I rx (i _ _ _ q)
/-- a new list of known things -/
theorem Hold.newL {K : PySem.W.Frag} {F R H : Hp} {Xs : List Addr} {ps : List (V × L)} {vs : List V} {ds : List D} {p : Addr} (h : Hold K F R H Xs ps) (r : Reps K F vs ds) (hp : H p = none) :
    Hold K F R (upd H p (.lst vs)) Xs ((.ref p, .lst (ds.map L.fr)) :: ps) := by
  have g := Hold.new (s := .lst) (Hold.pushs r h) hp rfl True.intro True.intro
  have hl : vs.length = (ds.map L.fr).length := by rw [r.length, List.length_map]
  rw [map_zip1 hl, map_zip2 hl] at g
  exact g

/-! ### operators -/
def opAdd : Op2 := fun a b k => match a, b with
  | .int i, .int j => k (.fr (.int (i + j)))
  | .str x, .str y => x.length + y.length ≤ sizeLine ∧ k (.fr (.str (x ++ y)))
  | .box .lst xs, .box .lst ys => xs.length + ys.length ≤ sizeLine ∧ k (.lst ((xs ++ ys).map L.fr))
  | .tup xs, .tup ys => xs.length + ys.length ≤ sizeLine ∧ k (.fr (.tup (xs ++ ys)))
  | _, _ => False
def opSub : Op2 := fun a b k => match a, b with
  | .int i, .int j => k (.fr (.int (i - j)))
  | _, _ => False
def opMul : Op2 := fun a b k => match a, b with
  | .int i, .int j => IntMulOk i j ∧ k (.fr (.int (i * j)))
  | .box .lst xs, .int j => (-(2 ^ 63) ≤ j ∧ j < 2 ^ 63 ∧ xs.length * j.toNat ≤ sizeLine) ∧ k (.lst ((List.replicate j.toNat xs).flatten.map L.fr))
  | _, _ => False
def opMod : Op2 := fun a b k => match a, b with
  | .int i, .int j => j ≠ 0 ∧ k (.fr (.int (i.fmod j)))
  | _, _ => False
def DivOk (j : Int) : Prop := j ≠ 0 ∧ (j.natAbs < 1073741824 ∨ j.natAbs.log2 < 9000)
def opFdiv : Op2 := fun a b k => match a, b with
  | .int i, .int j => DivOk j ∧ k (.fr (.int (i.fdiv j)))
  | _, _ => False
def opPow : Op2 := fun a b k => match a, b with
  | .int i, .int j => (0 ≤ j ∧ j ≤ 1000000 ∧ i.natAbs < 2 ^ 64) ∧ k (.fr (.int (i ^ j.toNat)))
  | _, _ => False
def cmpI (f : Int → Int → Bool) : Op2 := fun a b k => match a, b with
  | .int i, .int j => k (.fr (.bl (f i j)))
  | _, _ => False
abbrev opLt : Op2 := cmpI fun i j => decide (i < j)
abbrev opLe : Op2 := cmpI fun i j => decide (i ≤ j)
abbrev opGt : Op2 := cmpI fun i j => decide (j < i)
abbrev opGe : Op2 := cmpI fun i j => decide (j ≤ i)
mutual
def D.py : D → PyData
  | .non => .none
  | .bl b => .bool b
  | .int i => .int i
  | .str x => .str x
  | .tup ds => .tuple (D.pys ds)
  | .ro ds => .list (D.pys ds)
  | .box .lst ds => .list (D.pys ds)
  | .box (.dT _) _ => .dict []
  | .box (.dK _) _ => .dict []
  | .box (.obj _ _) _ => .dict []
  | .ref _ => .dict []
  | .ty _ => .dict []
  | .kt => .tuple []
def D.pys : List D → List PyData
  | [] => []
  | d :: ds => d.py :: D.pys ds
end
/-- data that == compares item by item -/
def Cmp2 (a b : D) : Prop := SeqAt.shaped a.py = true ∧ SeqAt.shaped b.py = true
def opEq : Op2 := fun a b k => match a, b with
  | .int i, .int j => k (.fr (.bl (decide (i = j))))
  | .str i, .str j => k (.fr (.bl (decide (i = j))))
  | .bl i, .bl j => k (.fr (.bl (decide (i = j))))
  | a, b => Cmp2 a b ∧ k (.fr (.bl (PyData.eqv a.py b.py)))
def opNe : Op2 := fun a b k => match a, b with
  | .int i, .int j => k (.fr (.bl (!decide (i = j))))
  | .str i, .str j => k (.fr (.bl (!decide (i = j))))
  | .bl i, .bl j => k (.fr (.bl (!decide (i = j))))
  | a, b => Cmp2 a b ∧ k (.fr (.bl (!PyData.eqv a.py b.py)))
def D.isNon : D → Bool
  | .non => true
  | _ => false
def opIsN : Op2 := fun a b k => match b with
  | .non => k (.fr (.bl a.isNon))
  | _ => False
def opNotN : Op2 := fun a b k => match b with
  | .non => k (.fr (.bl (!a.isNon)))
  | _ => False
def D.flat : D → Bool
  | .non => true
  | .bl _ => true
  | .int _ => true
  | .str _ => true
  | _ => false
def D.feq : D → D → Bool
  | .non, .non => true
  | .bl a, .bl b => a == b
  | .bl a, .int b => (if a then 1 else 0) == b
  | .int a, .bl b => a == (if b then 1 else 0)
  | .int a, .int b => a == b
  | .str a, .str b => a == b
  | _, _ => false
def D.items : D → Option (List D)
  | .tup ds => some ds
  | .ro ds => some ds
  | .box .lst ds => some ds
  | .kt => some []
  | _ => none
def opIn : Op2 := fun a b k => match b with
  | .str y => (match a with
    | .str x => k (.fr (.bl (!(Builtin.Str.occurrences y x 0 y.length 1).isEmpty)))
    | _ => False)
  | b => match b.items with
    | some ds => a.flat = true ∧ ds.all D.flat = true ∧ k (.fr (.bl (ds.any fun d => d.feq a)))
    | none => False
def opNotIn : Op2 := fun a b k => opIn a b fun r => match r with
  | .fr (.bl c) => k (.fr (.bl (!c)))
  | _ => False
/-- x[i] -/
def opIx : Op2 := fun a b k => match b with
  | .int i => (match a with
    | .str x => x.length ≤ sizeLine ∧ ∃ c, atI x.cps.toList i = some c ∧ k (.fr (.str ⟨#[c]⟩))
    | a => match a.items with
      | some ds => ∃ d, atI ds i = some d ∧ k (.fr d)
      | none => False)
  | _ => False

theorem Rep.items {K : PySem.W.Frag} {F : Hp} {v : V} {d : D} {ds : List D} (h : Rep K F v d) (e : d.items = some ds) : ∃ p vs, v = .ref p ∧ (SqL K F p vs ∨ SqT K F p vs) ∧ Reps K F vs ds := by
  cases h with
  | tup a b => cases e; exact ⟨_, _, rfl, .inr a.sq, b⟩
  | ro a b => cases e; exact ⟨_, _, rfl, .inl a, b⟩
  | kt a => cases e; exact ⟨_, _, rfl, .inr (Same.seqT (fun _ _ e => by cases e) a), .nil⟩
  | @box p dx s vs ds' a b c r =>
    cases s with
    | lst => cases e; exact ⟨_, _, rfl, .inl (SqL.of a), r⟩
    | _ => cases e
  | _ => cases e
mutual
theorem Rep.dp {K : PySem.W.Frag} {F : Hp} : ∀ {v : V} {d : D}, Rep K F v d → d.py.canLay0 = true → Dp K F v d.py
  | _, _, .non, _ => by rw [D.py]; exact .non
  | _, _, .bl b, _ => by rw [D.py]; exact .bl b
  | _, _, .int i, _ => by rw [D.py]; exact .int i
  | _, _, .str x, _ => by rw [D.py]; exact .str x
  | _, _, .ref a, h => by rw [D.py] at h; cases h
  | _, _, .ty a, h => by rw [D.py] at h; cases h
  | _, _, .kt a, _ => by rw [D.py]; exact .tup (Same.seqT (fun _ _ e => by cases e) a) .nil
  | _, _, .tup a r, h => by
    rw [D.py] at h ⊢
    exact .tup a.sq (Reps.dp r h)
  | _, _, .ro a r, h => by
    rw [D.py] at h ⊢
    exact .lst a (Reps.dp r h)
  | _, _, .box (s := s) a _ _ r, h => by
    cases s with
    | lst =>
      rw [D.py] at h ⊢
      exact .lst (SqL.of a) (Reps.dp r h)
    | dT ks => rw [D.py] at h; cases h
    | dK ks => rw [D.py] at h; cases h
    | obj C ns => rw [D.py] at h; cases h
theorem Reps.dp {K : PySem.W.Frag} {F : Hp} : ∀ {vs : List V} {ds : List D}, Reps K F vs ds → PyData.canLayAll0 (D.pys ds) = true → DpAll K F vs (D.pys ds)
  | _, _, .nil, _ => by rw [D.pys]; exact .nil
  | _, _, .cons r rr, h => by
    rw [D.pys] at h ⊢
    rw [PyData.canLayAll0, Bool.and_eq_true] at h
    exact .cons (Rep.dp r h.1) (Reps.dp rr h.2)
end
theorem Dp.mono {K : PySem.W.Frag} {H H' : Hp} (e : Same H H') : ∀ {d : PyData} {v : V}, Dp K H v d → Dp K H' v d := by
  intro d v h
  exact Dp.rec (motive_1 := fun v d _ => Dp K H' v d) (motive_2 := fun vs ds _ => DpAll K H' vs ds) .non .bl .int .str (fun a _ ih => .lst (e.seq a) ih) (fun a _ ih => .tup (Same.seqT e a) ih) .nil (fun _ _ a b => .cons a b) h

section
variable {X : Cx}
theorem opr_add : OpR X (binaryOp .Add) (liftO X.K opAdd) := by
  refine OpR.imp (op_add.or (op_add_str.or (op_cat.or op_catA))) fun x y H Q ⟨F, R, ps, da, db, k, g, ra, rb, q, kk⟩ => ?_
  unfold opAdd at q
  split at q
  · rename_i i j
    exact .inl ⟨i, j, ra.int_inv, rb.int_inv, kk _ _ F H q (Same.refl _) (g.push (.int _))⟩
  · rename_i a b
    exact .inr (.inl ⟨a, b, ra.str_inv, rb.str_inv, q.1, kk _ _ F H q.2 (Same.refl _) (g.push (.str _))⟩)
  · rename_i xs ys
    obtain ⟨p, vs, e1, h1, r1⟩ := ra.lst_inv
    obtain ⟨p2, vs2, e2, h2, r2⟩ := rb.lst_inv
    refine .inr (.inr (.inl ⟨p, p2, vs, vs2, e1, e2, g.hF _ _ h1, g.hF _ _ h2, by rw [r1.length, r2.length]; exact q.1, fun a ha => ?_⟩))
    exact kk _ _ F _ q.2 (Same.refl _) (g.newL (r1.append r2) ha)
  · rename_i xs ys
    obtain ⟨p, vs, e1, h1, r1⟩ := ra.tup_inv
    obtain ⟨p2, vs2, e2, h2, r2⟩ := rb.tup_inv
    have l1 := r1.length
    have l2 := r2.length
    refine .inr (.inr (.inr ⟨p, p2, vs, vs2, e1, e2, Same.seqT g.hF h1.sq, Same.seqT g.hF h2.sq, by rw [l1, l2]; exact q.1, fun z => ?_, fun _ z => ?_, fun _ _ a ha => ?_⟩))
    · subst z
      cases r1
      rw [List.nil_append] at q
      subst e2
      exact kk _ _ F H q.2 (Same.refl _) (g.push (.tup h2 r2))
    · subst z
      cases r2
      rw [List.append_nil] at q
      subst e1
      exact kk _ _ F H q.2 (Same.refl _) (g.push (.tup h1 r1))
    · obtain ⟨s, g2⟩ := g.known (o := .tup (vs ++ vs2)) ha
      exact kk _ _ _ _ q.2 s (g2.push (.tup upd_same ((r1.append r2).mono s)))
  · exact q.elim
theorem opr_sub : OpR X (binaryOp .Sub) (liftO X.K opSub) := OpR.imp op_sub fun x y H Q ⟨F, R, ps, da, db, k, g, ra, rb, q, kk⟩ => by
  unfold opSub at q
  split at q
  · rename_i i j
    exact ⟨i, j, ra.int_inv, rb.int_inv, kk _ _ F H q (Same.refl _) (g.push (.int _))⟩
  · exact q.elim
theorem op_mulG : OpR X (binaryOp .Mult) (rI IntMulOk fun i j => .int (i * j)) := opI fun _ _ _ _ _ _ _ hc q => mul_int q hc
theorem opr_mul : OpR X (binaryOp .Mult) (liftO X.K opMul) := OpR.imp (op_mulG.or op_rep) fun x y H Q ⟨F, R, ps, da, db, k, g, ra, rb, q, kk⟩ => by
  unfold opMul at q
  split at q
  · rename_i i j
    exact .inl ⟨i, j, ra.int_inv, rb.int_inv, q.1, kk _ _ F H q.2 (Same.refl _) (g.push (.int _))⟩
  · rename_i xs j
    obtain ⟨p, vs, e1, h1, r1⟩ := ra.lst_inv
    refine .inr ⟨p, j, vs, e1, rb.int_inv, g.hF _ _ h1, q.1.1, q.1.2.1, by rw [r1.length]; exact q.1.2.2, fun a ha => ?_⟩
    refine kk _ _ F _ q.2 (Same.refl _) (g.newL ?_ ha)
    have rep : ∀ n : Nat, Reps X.K F (List.replicate n vs).flatten (List.replicate n xs).flatten := fun n => by
      induction n with
      | zero => exact .nil
      | succ n ih =>
        rw [List.replicate_succ, List.replicate_succ, List.flatten_cons, List.flatten_cons]
        exact r1.append ih
    exact rep _
  · exact q.elim
theorem opr_mod : OpR X (binaryOp .Mod) (liftO X.K opMod) := OpR.imp op_modN fun x y H Q ⟨F, R, ps, da, db, k, g, ra, rb, q, kk⟩ => by
  unfold opMod at q
  split at q
  · rename_i i j
    exact ⟨i, j, ra.int_inv, rb.int_inv, q.1, kk _ _ F H q.2 (Same.refl _) (g.push (.int _))⟩
  · exact q.elim
theorem op_fdivG : OpR X (binaryOp .FloorDiv) (rI (fun _ j => DivOk j) fun i j => .int (i.fdiv j)) := opI fun i j _ _ _ _ _ hc q =>
  floordiv_int hc.1 q (.inl (hc.2.elim (fun z => PyProof.noPylong_small z) fun z => PyProof.noPylong_of_log2 z))
theorem opr_fdiv : OpR X (binaryOp .FloorDiv) (liftO X.K opFdiv) := OpR.imp op_fdivG fun x y H Q ⟨F, R, ps, da, db, k, g, ra, rb, q, kk⟩ => by
  unfold opFdiv at q
  split at q
  · rename_i i j
    exact ⟨i, j, ra.int_inv, rb.int_inv, q.1, kk _ _ F H q.2 (Same.refl _) (g.push (.int _))⟩
  · exact q.elim
theorem opr_pow : OpR X (binaryOp .Pow) (liftO X.K opPow) := OpR.imp op_pow fun x y H Q ⟨F, R, ps, da, db, k, g, ra, rb, q, kk⟩ => by
  unfold opPow at q
  split at q
  · rename_i i j
    exact ⟨i, j, ra.int_inv, rb.int_inv, q.1, kk _ _ F H q.2 (Same.refl _) (g.push (.int _))⟩
  · exact q.elim
theorem opr_cmp {op : CmpOp} {f : Int → Int → Bool} (h : OpR X (compareOp op) (rI0 fun i j => .bl (f i j))) : OpR X (compareOp op) (liftO X.K (cmpI f)) := OpR.imp h fun x y H Q ⟨F, R, ps, da, db, k, g, ra, rb, q, kk⟩ => by
  unfold cmpI at q
  split at q
  · rename_i i j
    exact ⟨i, j, ra.int_inv, rb.int_inv, kk _ _ F H q (Same.refl _) (g.push (.bl _))⟩
  · exact q.elim
theorem opr_lt : OpR X (compareOp .Lt) (liftO X.K opLt) := opr_cmp op_lt
theorem opr_le : OpR X (compareOp .LtE) (liftO X.K opLe) := opr_cmp op_le
theorem opr_gt : OpR X (compareOp .Gt) (liftO X.K opGt) := opr_cmp op_gt
theorem opr_ge : OpR X (compareOp .GtE) (liftO X.K opGe) := opr_cmp op_ge
theorem dec_i {i j : Int} : decide (V.int i = V.int j) = decide (i = j) := by simp
theorem dec_s {i j : Str} : decide (V.str i = V.str j) = decide (i = j) := by simp
theorem dec_b {i j : Bool} : decide (V.bl i = V.bl j) = decide (i = j) := by simp
theorem opr_eq {j : Nat} (hr : Room j X.A) : OpR X (compareOp .Eq) (liftO X.K opEq) := by
  refine OpR.imp (op_eq.or (op_eqD hr.units)) fun x y H Q ⟨F, R, ps, da, db, k, g, ra, rb, q, kk⟩ => ?_
  unfold opEq at q
  split at q
  · have ea := ra.int_inv; have eb := rb.int_inv
    subst ea; subst eb
    exact .inl ⟨rfl, kk _ _ F H q (Same.refl _) (by rw [dec_i]; exact g.push (.bl _))⟩
  · have ea := ra.str_inv; have eb := rb.str_inv
    subst ea; subst eb
    exact .inl ⟨rfl, kk _ _ F H q (Same.refl _) (by rw [dec_s]; exact g.push (.bl _))⟩
  · have ea := ra.bl_inv; have eb := rb.bl_inv
    subst ea; subst eb
    exact .inl ⟨rfl, kk _ _ F H q (Same.refl _) (by rw [dec_b]; exact g.push (.bl _))⟩
  · exact .inr ⟨_, _, Dp.mono g.hF (ra.dp (SeqAt.canLay_of_shaped q.1.1)), Dp.mono g.hF (rb.dp (SeqAt.canLay_of_shaped q.1.2)), q.1.1, q.1.2, kk _ _ F H q.2 (Same.refl _) (g.push (.bl _))⟩
theorem opr_ne {j : Nat} (hr : Room j X.A) : OpR X (compareOp .NotEq) (liftO X.K opNe) := by
  refine OpR.imp (op_ne.or (op_neD hr.units)) fun x y H Q ⟨F, R, ps, da, db, k, g, ra, rb, q, kk⟩ => ?_
  unfold opNe at q
  split at q
  · have ea := ra.int_inv; have eb := rb.int_inv
    subst ea; subst eb
    exact .inl ⟨rfl, kk _ _ F H q (Same.refl _) (by rw [dec_i]; exact g.push (.bl _))⟩
  · have ea := ra.str_inv; have eb := rb.str_inv
    subst ea; subst eb
    exact .inl ⟨rfl, kk _ _ F H q (Same.refl _) (by rw [dec_s]; exact g.push (.bl _))⟩
  · have ea := ra.bl_inv; have eb := rb.bl_inv
    subst ea; subst eb
    exact .inl ⟨rfl, kk _ _ F H q (Same.refl _) (by rw [dec_b]; exact g.push (.bl _))⟩
  · exact .inr ⟨_, _, Dp.mono g.hF (ra.dp (SeqAt.canLay_of_shaped q.1.1)), Dp.mono g.hF (rb.dp (SeqAt.canLay_of_shaped q.1.2)), q.1.1, q.1.2, kk _ _ F H q.2 (Same.refl _) (g.push (.bl _))⟩
theorem Rep.isNon {K : PySem.W.Frag} {F : Hp} {v : V} {d : D} (h : Rep K F v d) : decide (v = .non) = d.isNon := by
  cases h <;> simp [D.isNon]
theorem opr_isN : OpR X (compareOp .Is) (liftO X.K opIsN) := OpR.imp op_isN fun x y H Q ⟨F, R, ps, da, db, k, g, ra, rb, q, kk⟩ => by
  unfold opIsN at q
  split at q
  · exact ⟨rb.non_inv, kk _ _ F H q (Same.refl _) (by rw [ra.isNon]; exact g.push (.bl _))⟩
  · exact q.elim
theorem opr_notN : OpR X (compareOp .IsNot) (liftO X.K opNotN) := OpR.imp op_notN fun x y H Q ⟨F, R, ps, da, db, k, g, ra, rb, q, kk⟩ => by
  unfold opNotN at q
  split at q
  · exact ⟨rb.non_inv, kk _ _ F H q (Same.refl _) (by rw [ra.isNon]; exact g.push (.bl _))⟩
  · exact q.elim
theorem Rep.flat {K : PySem.W.Frag} {F : Hp} {v : V} {d : D} (h : Rep K F v d) (e : d.flat = true) : flatV v = true := by
  cases h <;> first | rfl | cases e
theorem Rep.feq {K : PySem.W.Frag} {F : Hp} {v u : V} {d c : D} (h : Rep K F v d) (h' : Rep K F u c) (e : d.flat = true) (e' : c.flat = true) : eqV v u = d.feq c := by
  cases h <;> cases h' <;> first | rfl | cases e | cases e'
theorem Reps.flat {K : PySem.W.Frag} {F : Hp} : ∀ {vs : List V} {ds : List D}, Reps K F vs ds → ds.all D.flat = true → vs.all flatV = true
  | _, _, .nil, _ => rfl
  | _, _, .cons r rr, e => by
    rw [List.all_cons, Bool.and_eq_true] at e ⊢
    exact ⟨r.flat e.1, rr.flat e.2⟩
theorem Reps.inV {K : PySem.W.Frag} {F : Hp} {v : V} {d : D} (h : Rep K F v d) (e : d.flat = true) : ∀ {vs : List V} {ds : List D}, Reps K F vs ds → ds.all D.flat = true → L2.inV v vs = ds.any fun c => c.feq d
  | _, _, .nil, _ => rfl
  | _, _, .cons r rr, e' => by
    rw [List.all_cons, Bool.and_eq_true] at e'
    show (eqV _ v || L2.inV v _) = _
    rw [List.any_cons, r.feq h e'.1 e, Reps.inV h e rr e'.2]
theorem opr_in : OpR X (compareOp .In) (liftO X.K opIn) := OpR.imp (op_in_str.or op_in_seq) fun x y H Q ⟨F, R, ps, da, db, k, g, ra, rb, q, kk⟩ => by
  unfold opIn at q
  split at q
  · split at q
    · exact .inl ⟨_, _, ra.str_inv, rb.str_inv, kk _ _ F H q (Same.refl _) (g.push (.bl _))⟩
    · exact q.elim
  · split at q
    · rename_i ds hd
      obtain ⟨p, vs, e, h, r⟩ := rb.items hd
      refine .inr ⟨p, vs, e, h.imp (fun z => g.hF.seq z) (fun z => Same.seqT g.hF z), ra.flat q.1, r.flat q.2.1, ?_⟩
      show Q (.bl (L2.inV x vs)) H
      rw [Reps.inV ra q.1 r q.2.1]
      exact kk _ _ F H q.2.2 (Same.refl _) (g.push (.bl _))
    · exact q.elim
theorem opr_notIn : OpR X (compareOp .NotIn) (liftO X.K opNotIn) := OpR.imp (op_notin_str.or op_notIn_seq) fun x y H Q ⟨F, R, ps, da, db, k, g, ra, rb, q, kk⟩ => by
  unfold opNotIn opIn at q
  split at q
  · split at q
    · exact .inl ⟨_, _, ra.str_inv, rb.str_inv, kk _ _ F H q (Same.refl _) (g.push (.bl _))⟩
    · exact q.elim
  · split at q
    · rename_i ds hd
      obtain ⟨p, vs, e, h, r⟩ := rb.items hd
      refine .inr ⟨p, vs, e, h.imp (fun z => g.hF.seq z) (fun z => Same.seqT g.hF z), ra.flat q.1, r.flat q.2.1, ?_⟩
      show Q (.bl (!L2.inV x vs)) H
      rw [Reps.inV ra q.1 r q.2.1]
      exact kk _ _ F H q.2.2 (Same.refl _) (g.push (.bl _))
    · exact q.elim
theorem atI_len {α β : Type} {xs : List α} {ys : List β} {i : Int} {y : β} (hl : xs.length = ys.length) (h : atI ys i = some y) : ∃ (x : α) (j : Nat), atI xs i = some x ∧ xs[j]? = some x ∧ ys[j]? = some y := by
  unfold atI at h ⊢
  rw [hl]
  cases e : ixN ys.length i with
  | none => rw [e] at h; cases h
  | some j =>
    rw [e] at h
    have hj : j < ys.length := (List.getElem?_eq_some_iff.mp h).1
    have hx : xs[j]? = some xs[j] := List.getElem?_eq_getElem (by omega)
    exact ⟨xs[j], j, hx, hx, h⟩
theorem ixr : IxR X (liftO X.K opIx) := IxR.imp ix_seq fun x y H Q ⟨F, R, ps, da, db, k, g, ra, rb, q, kk⟩ => by
  unfold opIx at q
  split at q
  · rename_i i
    split at q
    · obtain ⟨z, c, e, q⟩ := q
      exact .inr (.inr ⟨_, i, c, ra.str_inv, rb.int_inv, z, e, kk _ _ F H q (Same.refl _) (g.push (.str _))⟩)
    · split at q
      · rename_i ds hd
        obtain ⟨d, e, q⟩ := q
        obtain ⟨p, vs, ex, h, r⟩ := ra.items hd
        obtain ⟨v, j, ea, ev, ed⟩ := atI_len r.length e
        have fin := kk _ _ F H q (Same.refl _) (g.push (r.get ev ed))
        rcases h with h | h
        · exact .inl ⟨p, vs, i, v, ex, rb.int_inv, g.hF.seq h, ea, fin⟩
        · exact .inr (.inl ⟨p, vs, i, v, ex, rb.int_inv, Same.seqT g.hF h, ea, fin⟩)
      · exact q.elim
  · exact q.elim
end
end TL

namespace TL
open PySem PySem.Spec PyProof.Rows L2

/-! ### subscripts -/
section
variable {X : Cx} {Y : Act} {a b e : Expr} {es : List Expr} {pos : Pos}
theorem de_ix {ta tb : DE} (ha : PE X a (lift Y X.K ta)) (hb : PE X b (lift Y X.K tb)) (hs : PlainIx b) : PE X (.Subscript a b pos) (lift Y X.K (dOp opIx ta tb)) :=
  PE.imp (pe_ix ixr ha hb hs) fun _ _ _ h => lift_op h
/-- x[..] where x may be owned: it stays so -/
def dIxV (i : Nat) (tb : DE) : DE := fun env Q => (slotL env i).isSome = true ∧ tb env fun lb env1 => match env1[i]? with
  | some (some (.fr a)) => opIx a lb.toD fun r => Q r env1
  | some (some (.box .lst ls)) => (match lb.toD with
    | .int j => ∃ d, atI ls j = some (.fr d) ∧ Q (.fr d) env1
    | _ => False)
  | _ => False
theorem Owns.get {K : PySem.W.Frag} {F H : Hp} : ∀ {vs : List V} {ls : List L} {As : List Addr} {j : Nat} {v : V} {d : D}, Owns K F H vs ls As → vs[j]? = some v → ls[j]? = some (.fr d) → Rep K F v d
  | _, _, _, 0, _, _, .cons h _, e, q => by simp at e q; subst e; subst q; cases h; assumption
  | _, _, _, j + 1, _, _, .cons _ r, e, q => Owns.get (j := j) r (by simpa using e) (by simpa using q)
  | _, _, _, _, _, _, .nil, e, _ => by simp at e
theorem Hold.item {K : PySem.W.Frag} {F R H : Hp} {Xs : List Addr} {v : V} {ls : List L} {ps : List (V × L)} {i : Int} {d : D} (h : Hold K F R H Xs ((v, .box .lst ls) :: ps)) (e : atI ls i = some (.fr d)) :
    ∃ p vs u, v = .ref p ∧ H p = some (.lst vs) ∧ atI vs i = some u ∧ Rep K F u d := by
  obtain ⟨As, ow, nd, n⟩ := h.own
  cases ow with
  | cons o1 o2 =>
    cases o1 with
    | @box p dx _ _ As vs e1 e2 e3 r =>
      obtain ⟨u, j, h1, h2, h3⟩ := atI_len r.length e
      exact ⟨p, vs, u, rfl, e1, h1, r.get h2 h3⟩
theorem slot_v {σ : L2.St} {env : Ev} {i : Nat} (w : Wf σ env) (h : (slotL env i).isSome = true) : ∃ v l, σ[i]? = some (some v) ∧ env[i]? = some (some l) := by
  unfold slotL at h
  cases q : env[i]? with
  | none => rw [q] at h; cases h
  | some o =>
    rw [q] at h
    cases o with
    | none => cases h
    | some l => obtain ⟨v, hv⟩ := w.get q; exact ⟨v, l, hv, rfl⟩
theorem de_ixv {i : Nat} {tb : DE} (ha : PE X a (tVar i)) (hb : PE X b (lift Y X.K tb)) (hs : PlainIx b) : PE X (.Subscript a b pos) (lift Y X.K (dIxV i tb)) :=
  PE.imp (pe_ix (ix_list.or ixr) ha hb hs) fun σ H Q ⟨F, R, env, k, a, ⟨h0, q⟩, kk⟩ => by
    obtain ⟨v, _, hv, _⟩ := slot_v a.wf h0
    refine ⟨v, hv, F, R, env, _, a, q, fun lb env1 y F1 H1 q1 s1 w1 g1 => ?_⟩
    obtain ⟨F2, s2, g2⟩ := g1.frz
    split at q1
    · rename_i da he
      have hr := (g2.drop.perm (slots_get he hv)).head
      exact .inr ⟨F2, R, _, _, _, _, g2.drop, hr, g2.head, q1, fun l v F3 H3 q3 s3 g3 => kk _ _ _ _ _ q3 ((s1.trans s2).trans s3) w1 g3⟩
    · rename_i ls he
      split at q1
      · rename_i j hb
        obtain ⟨d, e, q1⟩ := q1
        have hy := g2.head
        rw [hb] at hy
        obtain ⟨p, vs, u, ev, eH, ea, ru⟩ := (g2.drop.perm (slots_get he hv)).item e
        exact .inl ⟨p, vs, j, u, ev, hy.int_inv, SqL.of eH, ea, kk _ _ _ F2 H1 q1 (s1.trans s2) w1 (g2.drop.push ru)⟩
      · exact q1.elim
    · exact q1.elim
/-- x[..] = the value, x owned -/
def dgIx (i : Nat) (tb : DE) : DG := fun l env Q => (slotL env i).isSome = true ∧ tb env fun lb env1 => match env1[i]? with
  | some (some (.box .lst ls)) => (match lb.toD with
    | .int j => ∃ n, ixN ls.length j = some n ∧ Q (env1.set i (some (.box .lst (ls.set n l))))
    | _ => False)
  | _ => False
theorem Hold.setN {K : PySem.W.Frag} {F R H : Hp} {Xs : List Addr} {x : V × L} : ∀ {xs ps : List (V × L)} (n : Nat), Hold K F R H Xs (xs ++ x :: ps) → Hold K F R H Xs (xs.set n x ++ ps)
  | [], ps, n, h => by simpa using h.drop
  | y :: xs, ps, 0, h => by
    have h1 : Hold K F R H Xs (x :: (xs ++ ps)) := (Hold.drop (ps := xs ++ x :: ps) h).perm List.perm_middle
    simpa using h1
  | y :: xs, ps, n + 1, h => by
    have h1 : Hold K F R H Xs (xs ++ x :: (y :: ps)) := h.perm (by
      show (y :: (xs ++ x :: ps)).Perm (xs ++ x :: y :: ps)
      exact List.perm_middle.symm.trans (List.Perm.append_left _ (List.Perm.swap _ _ _)))
    have h2 := Hold.setN n h1
    simpa using h2.perm List.perm_middle
theorem map_set1 {xs : List (V × L)} {n : Nat} {x : V × L} : (xs.set n x).map (·.1) = (xs.map (·.1)).set n x.1 := by rw [List.map_set]
theorem map_set2 {xs : List (V × L)} {n : Nat} {x : V × L} : (xs.set n x).map (·.2) = (xs.map (·.2)).set n x.2 := by rw [List.map_set]
theorem dg_ix {i : Nat} {tb : DE} (ho : PE X a (tVar i)) (hi : PE X b (lift Y X.K tb))
    (ha : ∀ v, assign (.Subscript a b pos) X.env v = (do
      let ov ← holding [v] (eval a X.env)
      let iv ← holding [v, ov] (eval b X.env)
      standAt pos
      holding [v, ov, iv] (setItem ov iv v)
      release [v, ov, iv] []) := by intro _; rfl) : PG X (.Subscript a b pos) (liftG Y X.K (dgIx i tb)) :=
  PG.imp (pg_sub ho hi set_list ha) fun v σ H Q ⟨F, R, env, l, k, a, g, ⟨h0, q⟩, kk⟩ => by
    obtain ⟨o, _, ho, _⟩ := slot_v a.wf h0
    obtain ⟨R', sR, g1, back⟩ := Hold.frame (ps := slotsP σ env) (qs := [(v, l)]) (g.perm (List.perm_append_comm (l₁ := [(v, l)])))
    refine ⟨o, ho, F, R', env, _, ⟨a.f, a.r.trans sR, a.fx, a.len, a.wf, g1⟩, q, fun lb env1 y F1 H1 q1 s1 w1 g2 => ?_⟩
    have g3 := back F1 H1 _ s1 g2
    have hy0 := g2.frz
    split at q1
    · rename_i ls he
      split at q1
      · rename_i j hb
        obtain ⟨n, en, q1⟩ := q1
        obtain ⟨F', _, gf⟩ := hy0
        have hy := gf.head
        rw [hb] at hy
        have g4 : Hold X.K F1 R H1 [] ((o, .box .lst ls) :: ((v, l) :: slotsP σ (env1.set i none))) := (Hold.drop (ps := slotsP σ env1 ++ [(v, l)]) g3).perm
          ((List.perm_append_comm (l₂ := [(v, l)])).trans ((List.Perm.cons _ (slots_get he ho)).trans (List.Perm.swap _ _ _)))
        obtain ⟨p, dx, vs, eo, eH, _, _, el, g5⟩ := g4.open
        refine ⟨p, vs, j, n, eo, hy.int_inv, eH, by rw [el]; exact en, ?_⟩
        have g6 := Hold.setN n g5
        have g7 := Hold.closeW (s := .lst) (s' := .lst) g6 True.intro True.intro rfl rfl
        rw [map_set1, map_set2, map_zip1 el, map_zip2 el] at g7
        have hi' : i < env1.length := (List.getElem?_eq_some_iff.mp he).1
        refine kk _ _ F1 _ q1 s1 (a.to s1 (w1.setL ho) ?_)
        subst eo
        exact g7.perm (slots_put ho hi').symm
      · exact q1.elim
    · exact q1.elim

/-! ### slices -/
abbrev DO := Ev → (Option Int → Ev → Prop) → Prop
def liftP (Y : Act) (K : PySem.W.Frag) (t : DO) : TO := fun σ H Q => ∃ F R env k, At Y K F R H σ env ∧ t env k ∧
  ∀ o env' F' H', k o env' → Same F F' → Wf σ env' → Hold K F' R H' [] (slotsP σ env') → Q o H'
theorem PO.imp {e : Option Expr} {t t' : TO} (h : PO X e t) (i : ∀ σ H Q, t' σ H Q → t σ H Q) : PO X e t' := ⟨fun pins s σ H Q I q => h.run pins s σ H Q I (i _ _ _ q)⟩
def doNone : DO := fun env Q => Q none env
def doSome (t : DE) : DO := fun env Q => t env fun l env1 => match l.toD with
  | .int i => Q (some i) env1
  | _ => False
theorem do_none : PO X none (liftP Y X.K doNone) := PO.imp po_none fun σ H Q ⟨F, R, env, k, a, q, kk⟩ => kk _ _ F H q (Same.refl _) a.wf a.hold
theorem do_some {t : DE} (h : PE X e (lift Y X.K t)) : PO X (some e) (liftP Y X.K (doSome t)) := PO.imp (po_some h) fun σ H Q ⟨F, R, env, k, a, q, kk⟩ => by
  refine ⟨F, R, env, _, a, q, fun l env1 v F1 H1 q1 s1 w1 g1 => ?_⟩
  obtain ⟨F2, s2, g2⟩ := g1.frz
  have hr := g2.head
  split at q1
  · rename_i i hl
    rw [hl] at hr
    exact ⟨i, hr.int_inv, kk _ _ F2 H1 q1 (s1.trans s2) w1 g2.drop⟩
  · exact q1.elim
def cutD {α : Type} (xs : List α) (lo hi : Option Int) : List α := (xs.drop (HT.sIx xs.length 0 lo)).take (HT.sIx xs.length xs.length hi - HT.sIx xs.length 0 lo)
theorem Reps.cut {K : PySem.W.Frag} {F : Hp} {vs : List V} {ds : List D} {lo hi : Option Int} (r : Reps K F vs ds) : Reps K F (cutV vs lo hi) (cutD ds lo hi) := by
  unfold cutV cutD
  rw [r.length]
  exact (r.drop _).take _
def slD : D → Option Int → Option Int → (L → Prop) → Prop := fun d lo hi k => match d with
  | .box .lst ds => k (.lst ((cutD ds lo hi).map L.fr))
  | .ro ds => k (.lst ((cutD ds lo hi).map L.fr))
  | .str x => x.length ≤ sizeLine ∧ k (.fr (.str (cutS x lo hi)))
  | .tup ds => k (.fr (.tup (cutD ds lo hi)))
  | _ => False
def liftSl (K : PySem.W.Frag) : V → Option Int → Option Int → Hp → VK → Prop := fun x lo hi H Q => ∃ F R ps d k, Hold K F R H [] ps ∧ Rep K F x d ∧ slD d lo hi k ∧
  ∀ l v F' H', k l → Same F F' → Hold K F' R H' [] ((v, l) :: ps) → Q v H'
theorem SlR.imp {r r' : V → Option Int → Option Int → Hp → VK → Prop} (h : SlR X r) (i : ∀ x lo hi H Q, r' x lo hi H Q → r x lo hi H Q) : SlR X r' :=
  fun pins s σ H x v vl vu lo hi sl Q I rx hs pl pu q => h pins s σ H x v vl vu lo hi sl Q I rx hs pl pu (i _ _ _ _ _ q)
theorem slr : SlR X (liftSl X.K) := SlR.imp (sl_list.or (sl_str.or sl_tupA)) fun x lo hi H Q ⟨F, R, ps, d, k, g, r, q, kk⟩ => by
  unfold slD at q
  split at q
  · obtain ⟨p, vs, e, h, rr⟩ := r.lst_inv
    exact .inl ⟨p, vs, e, SqL.of (g.hF _ _ h), fun a ha => kk _ _ F _ q (Same.refl _) (g.newL rr.cut ha)⟩
  · obtain ⟨p, vs, e, h, rr⟩ := r.ro_inv
    exact .inl ⟨p, vs, e, g.hF.seq h, fun a ha => kk _ _ F _ q (Same.refl _) (g.newL rr.cut ha)⟩
  · exact .inr (.inl ⟨_, r.str_inv, q.1, kk _ _ F H q.2 (Same.refl _) (g.push (.str _))⟩)
  · obtain ⟨p, vs, e, h, rr⟩ := r.tup_inv
    refine .inr (.inr ⟨p, vs, e, Same.seqT g.hF h.sq, fun z => ?_, fun _ a ha => ?_⟩)
    · have ec : cutV vs lo hi = vs := by
        unfold cutV
        rw [z.1, z.2]
        simp
      have rc := rr.cut (lo := lo) (hi := hi)
      rw [ec] at rc
      subst e
      exact kk _ _ F H q (Same.refl _) (g.push (.tup h rc))
    · obtain ⟨s, g2⟩ := g.known (o := .tup (cutV vs lo hi)) ha
      exact kk _ _ _ _ q s (g2.push (.tup upd_same (rr.cut.mono s)))
  · exact q.elim
def dSl (t : DE) (tl th : DO) : DE := fun env Q => t env fun l env1 => tl env1 fun lo env2 => th env2 fun hi env3 => slD l.toD lo hi fun r => Q r env3
theorem de_sl {t : DE} {tl th : DO} {lo hi : Option Expr} {p2 : Pos} (he : PE X e (lift Y X.K t)) (hl : PO X lo (liftP Y X.K tl)) (hu : PO X hi (liftP Y X.K th)) : PE X (.Subscript e (.Slice lo hi none p2) pos) (lift Y X.K (dSl t tl th)) :=
  PE.imp (pe_slice slr he hl hu) fun σ H Q ⟨F, R, env, k, a, q, kk⟩ => by
    refine ⟨F, R, env, _, a, q, fun l env1 v F1 H1 q1 s1 w1 g1 => ?_⟩
    obtain ⟨F2, s2, g2⟩ := g1.frz
    refine ⟨F2, R, env1, _, a.to (s1.trans s2) w1 g2.drop, q1, fun o env2 F3 H3 q3 s3 w3 g3 => ?_⟩
    refine ⟨F3, R, env2, _, a.to ((s1.trans s2).trans s3) w3 g3, q3, fun o2 env3 F4 H4 q4 s4 w4 g4 => ?_⟩
    exact ⟨F4, R, _, _, _, g4, g2.head.mono (s3.trans s4), q4, fun l v F5 H5 q5 s5 g5 => kk _ _ _ _ _ q5 ((((s1.trans s2).trans s3).trans s4).trans s5) w4 g5⟩

/-! ### methods of what a slot owns -/
abbrev Mt := L → List L → (L → L → Prop) → Prop
def liftM (K : PySem.W.Frag) (f : Mt) : V → List V → Hp → VK → Prop := fun x vs H Q => ∃ F R l ls ps k, vs.length = ls.length ∧ Hold K F R H [] ((x, l) :: (vs.zip ls ++ ps)) ∧ f l ls k ∧
  ∀ r l' v F' H', k r l' → Same F F' → Hold K F' R H' [] ((v, r) :: (x, l') :: ps) → Q v H'
def dMt (f : Mt) (i : Nat) (t : DA) : DE := fun env Q => (∃ ls, slotL env i = some (.box .lst ls)) ∧ t env fun xs env1 => ∃ l, slotL env1 i = some l ∧ f l (xs.map (·.1)) fun r l' => Q r (env1.set i (some l'))
theorem slot_get {env : Ev} {i : Nat} {l : L} (h : slotL env i = some l) : env[i]? = some (some l) := by
  unfold slotL at h
  cases q : env[i]? with
  | none => rw [q] at h; cases h
  | some o => rw [q] at h; cases o with
    | none => cases h
    | some m => cases h; rfl
theorem lift_mt {f : Mt} {i : Nat} {t : DA} {σ : L2.St} {H : Hp} {Q : VK} (h : lift Y X.K (dMt f i t) σ H Q) : tBM X.K "list" (liftM X.K f) (tVar i) (liftA Y X.K t) σ H Q := by
  obtain ⟨F, R, env, k, a, ⟨⟨ls0, h0⟩, q⟩, kk⟩ := h
  have he := slot_get h0
  obtain ⟨v, hv⟩ := a.wf.get he
  obtain ⟨p, dx, vs0, ev, eH, _⟩ := (a.hold.perm (slots_get he hv)).open
  refine ⟨v, hv, ?_, F, R, env, _, a, q, fun xs env1 vs F1 H1 ⟨l, h1, q1⟩ s1 w1 m1 g1 => ?_⟩
  · subst ev
    exact .inl ⟨rfl, _, SqL.of eH⟩
  · have he1 := slot_get h1
    have hi : i < env1.length := (List.getElem?_eq_some_iff.mp he1).1
    refine ⟨F1, R, l, _, slotsP σ (env1.set i none), _, by rw [m1.len, List.length_map], g1.perm ?_, q1, fun r l' v' F' H' q2 s2 g2 => ?_⟩
    · exact (List.Perm.append_left _ (slots_get he1 hv)).trans List.perm_middle
    · exact kk _ _ _ F' H' q2 (s1.trans s2) (w1.setL hv) (g2.perm (List.Perm.cons _ (slots_put hv hi).symm))
theorem MtR.imp {id : String} {r r' : V → List V → Hp → VK → Prop} (h : MtR X id r) (i : ∀ x xs H Q, r' x xs H Q → r x xs H Q) : MtR X id r' :=
  fun pins s σ H x xs v us Q I rx rs q => h pins s σ H x xs v us Q I rx rs (i _ _ _ _ q)
def mAppend : Mt := fun l ls k => match l, ls with
  | .box .lst xs, [y] => xs.length < sizeLine ∧ k (.fr .non) (.box .lst (xs ++ [y]))
  | _, _ => False
theorem mtr_append : MtR X "list.append" (liftM X.K mAppend) := MtR.imp mt_append fun x vs H Q ⟨F, R, l, ls, ps, k, hl, g, q, kk⟩ => by
  unfold mAppend at q
  split at q
  · rename_i xs y
    match vs, hl with
    | [v], _ =>
      have g : Hold X.K F R H [] ((x, .box .lst xs) :: (v, y) :: ps) := g
      obtain ⟨p, dx, ws, ex, eH, _, _, el, g1⟩ := g.open
      refine ⟨p, ws, v, ex, rfl, eH, by rw [el]; exact q.1, ?_⟩
      have g2 : Hold X.K F R H (Shape.lst.adr p dx ++ []) ((ws.zip xs ++ [(v, y)]) ++ ps) := g1.perm (by simp)
      have g3 := Hold.closeW (s := .lst) (s' := .lst) g2 True.intro True.intro rfl rfl
      have e1 : (ws.zip xs ++ [(v, y)]).map (·.1) = ws ++ [v] := by rw [List.map_append, map_zip1 el]; rfl
      have e2 : (ws.zip xs ++ [(v, y)]).map (·.2) = xs ++ [y] := by rw [List.map_append, map_zip2 el]; rfl
      rw [e1, e2] at g3
      subst ex
      exact kk _ _ _ F _ q.2 (Same.refl _) (g3.push .non)
  · exact q.elim
def mReverse : Mt := fun l ls k => match l, ls with
  | .box .lst xs, [] => k (.fr .non) (.box .lst xs.reverse)
  | _, _ => False
theorem mtr_reverse : MtR X "list.reverse" (liftM X.K mReverse) := MtR.imp mt_reverse fun x vs H Q ⟨F, R, l, ls, ps, k, hl, g, q, kk⟩ => by
  unfold mReverse at q
  split at q
  · rename_i xs
    match vs, hl with
    | [], _ =>
      have g : Hold X.K F R H [] ((x, .box .lst xs) :: ps) := g
      obtain ⟨p, dx, ws, ex, eH, _, _, el, g1⟩ := g.open
      refine ⟨p, ws, ex, rfl, eH, ?_⟩
      have g2 : Hold X.K F R H (Shape.lst.adr p dx ++ []) ((ws.zip xs).reverse ++ ps) := g1.perm (List.Perm.append_right _ (List.reverse_perm _).symm)
      have g3 := Hold.closeW (s := .lst) (s' := .lst) g2 True.intro True.intro rfl rfl
      rw [List.map_reverse, List.map_reverse, map_zip1 el, map_zip2 el] at g3
      subst ex
      exact kk _ _ _ F _ q (Same.refl _) (g3.push .non)
  · exact q.elim
/-- the last one -/
def mPop : Mt := fun l ls k => match l, ls with
  | .box .lst xs, [] => ∃ y, xs[xs.length - 1]? = some y ∧ k y (.box .lst xs.dropLast)
  | _, _ => False
theorem zip_last {vs : List V} {ls : List L} {v : V} {l : L} (hl : vs.length = ls.length) (hv : vs[vs.length - 1]? = some v) (h : ls[ls.length - 1]? = some l) : vs.zip ls = vs.dropLast.zip ls.dropLast ++ [(v, l)] := by
  have e1 : vs = vs.dropLast ++ [v] := by
    have hn : vs ≠ [] := fun z => by subst z; simp at hv
    have := List.dropLast_concat_getLast hn
    rw [List.getLast_eq_getElem] at this
    rw [List.getElem?_eq_getElem (by have := List.length_pos_iff.mpr hn; omega)] at hv
    rw [Option.some.inj hv] at this
    exact this.symm
  have e2 : ls = ls.dropLast ++ [l] := by
    have hn : ls ≠ [] := fun z => by subst z; simp at h
    have := List.dropLast_concat_getLast hn
    rw [List.getLast_eq_getElem] at this
    rw [List.getElem?_eq_getElem (by have := List.length_pos_iff.mpr hn; omega)] at h
    rw [Option.some.inj h] at this
    exact this.symm
  conv => lhs; rw [e1, e2]
  rw [zip_app (by simp [hl])]
  rfl
theorem mtr_pop : MtR X "list.pop" (liftM X.K mPop) := MtR.imp mt_pop fun x vs H Q ⟨F, R, l, ls, ps, k, hl, g, q, kk⟩ => by
  unfold mPop at q
  split at q
  · rename_i xs
    obtain ⟨y, ey, q⟩ := q
    match vs, hl with
    | [], _ =>
      have g : Hold X.K F R H [] ((x, .box .lst xs) :: ps) := g
      obtain ⟨p, dx, ws, ex, eH, _, _, el, g1⟩ := g.open
      have hpos : xs.length - 1 < xs.length := (List.getElem?_eq_some_iff.mp ey).1
      have hw : ws[ws.length - 1]? = some (ws[ws.length - 1]'(by omega)) := List.getElem?_eq_getElem (by omega)
      rw [zip_last el hw ey, List.append_assoc] at g1
      refine ⟨p, ws, _, ex, rfl, eH, hw, ?_⟩
      have g3 := Hold.closeW (s := .lst) (s' := .lst) g1 True.intro True.intro rfl rfl
      have el' : ws.dropLast.length = xs.dropLast.length := by simp [el]
      rw [map_zip1 el', map_zip2 el'] at g3
      subst ex
      exact kk _ _ _ F _ q (Same.refl _) (g3.perm (List.Perm.swap _ _ _))
  · exact q.elim
theorem de_mt {f : Mt} {i : Nat} {t : DA} {o : Expr} {name : Str} {id : String} {apos cpos : Pos} (slot : Slot "list" name id) (hty : typeOf (.builtin id) = pure (.type "method_descriptor")) (hm : MtR X id (liftM X.K f)) (ho : PE X o (tVar i)) (ha : PA X (e :: es) (liftA Y X.K t))
    (hbase : attributeBase o name X.env (eval o X.env) = eval o X.env := by rfl)
    (hfew : ((backTo cpos (starEach (e :: es) X.env)).all (fun x => !x.1) && (backToKw cpos (keywordEach [] X.env)).all (fun x => x.1.isSome)
      && decide ((e :: es).length + ([] : List Keyword).length + (if ([] : List Keyword).isEmpty then 0 else 1) < 30)) = true := by rfl)
    (hline : (apos.endLine == cpos.line) = true := by rfl) (hs : starEach (e :: es) X.env = (false, eval e X.env) :: starEach es X.env := by rfl) (hplain : (backTo cpos (starEach es X.env)).any (·.1) = false := by rfl) :
    PE X (.Call (.Attribute o name apos) (e :: es) [] cpos) (lift Y X.K (dMt f i t)) :=
  PE.imp (pe_bm PySem.F.plainAttrs_list slot hty hm ho ha hbase hfew hline hs hplain) fun _ _ _ h => lift_mt h
theorem de_mt0 {f : Mt} {i : Nat} {o : Expr} {name : Str} {id : String} {apos cpos : Pos} (slot : Slot "list" name id) (hty : typeOf (.builtin id) = pure (.type "method_descriptor")) (hm : MtR X id (liftM X.K f)) (ho : PE X o (tVar i))
    (hbase : attributeBase o name X.env (eval o X.env) = eval o X.env := by rfl) (hline : (apos.endLine == cpos.line) = true := by rfl) :
    PE X (.Call (.Attribute o name apos) [] [] cpos) (lift Y X.K (dMt f i daNil)) :=
  PE.imp (pe_bm0 PySem.F.plainAttrs_list slot hty hm ho hbase hline) fun σ H Q h => by
    obtain ⟨v, hv, ty, q⟩ := lift_mt h
    refine ⟨v, hv, ty, ?_⟩
    obtain ⟨F, R, env, k, a, q, kk⟩ := q
    exact kk [] env [] F H q (Same.refl _) a.wf True.intro a.hold
end
end TL

namespace TL
open PySem PySem.Spec PyProof.Rows L2

/-! ### built-ins by contracts -/
section
variable {X : Cx} {Y : Act}
/-- one argument that is only looked at -/
def con1 (f : D → (L → Prop) → Prop) : Con := fun args k _ => match args with
  | [l] => f l.toD fun r => k r [l]
  | _ => False
/-- two arguments that are only looked at -/
def con2 (f : D → D → (L → Prop) → Prop) : Con := fun args k _ => match args with
  | [l, m] => f l.toD m.toD fun r => k r [l, m]
  | _ => False
theorem bi1 {g : Value} {f : D → (L → Prop) → Prop} {r : List V → Hp → VK → Prop} (hr : CallR X g r)
    (hf : ∀ (v : V) (d : D) (H F1 F R : Hp) (ps : List (V × L)) (k : L → Prop) (Q : VK), Rep X.K F1 v d → Same F1 H → Hold X.K F R H [] ps → f d k → (∀ l v' F' H', k l → Same F F' → Hold X.K F' R H' [] ((v', l) :: ps) → Q v' H') → r [v] H Q) : BiOk X g (con1 f) :=
  CallR.imp hr fun vs H Q ⟨F, R, ls, k, kx, hl, g, c, h, _⟩ => by
    unfold con1 at c
    split at c
    · rename_i l
      match vs, hl with
      | [v], _ =>
        obtain ⟨F1, s1, g1⟩ := Hold.frz (ps := []) g
        exact hf v l.toD H F1 F R _ _ Q g1.head g1.hF g c fun r v' F' H' q s g' => h r [l] v' F' H' q s rfl g'
    · exact c.elim
theorem bi2 {g : Value} {f : D → D → (L → Prop) → Prop} {r : List V → Hp → VK → Prop} (hr : CallR X g r)
    (hf : ∀ (v u : V) (d e : D) (H F1 F R : Hp) (ps : List (V × L)) (k : L → Prop) (Q : VK), Rep X.K F1 v d → Rep X.K F1 u e → Same F1 H → Hold X.K F R H [] ps → f d e k → (∀ l v' F' H', k l → Same F F' → Hold X.K F' R H' [] ((v', l) :: ps) → Q v' H') → r [v, u] H Q) : BiOk X g (con2 f) :=
  CallR.imp hr fun vs H Q ⟨F, R, ls, k, kx, hl, g, c, h, _⟩ => by
    unfold con2 at c
    split at c
    · rename_i l m
      match vs, hl with
      | [v, u], _ =>
        obtain ⟨F1, s1, g1⟩ := Hold.frz (ps := [(u, m)]) g
        obtain ⟨F2, s2, g2⟩ := Hold.frz (g1.perm (List.Perm.swap _ _ _))
        exact hf v u l.toD m.toD H F2 F R _ _ Q (g1.head.mono s2) g2.head g2.hF g c fun r v' F' H' q s g' => h r [l, m] v' F' H' q s rfl g'
    · exact c.elim
/-- one argument that is known for good -/
def con1F (f : D → (L → Prop) → Prop) : Con := fun args k _ => match args with
  | [.fr d] => f d fun r => k r [.fr d]
  | _ => False
theorem bi1F {g : Value} {f : D → (L → Prop) → Prop} {r : List V → Hp → VK → Prop} (hr : CallR X g r)
    (hf : ∀ (v : V) (d : D) (H F R : Hp) (ps : List (V × L)) (k : L → Prop) (Q : VK), Rep X.K F v d → Hold X.K F R H [] ps → f d k → (∀ l v' F' H', k l → Same F F' → Hold X.K F' R H' [] ((v', l) :: ps) → Q v' H') → r [v] H Q) : BiOk X g (con1F f) :=
  CallR.imp hr fun vs H Q ⟨F, R, ls, k, kx, hl, g, c, h, _⟩ => by
    unfold con1F at c
    split at c
    · rename_i d
      match vs, hl with
      | [v], _ => exact hf v d H F R _ _ Q (Hold.head g) g c fun r v' F' H' q s g' => h r [.fr d] v' F' H' q s rfl g'
    · exact c.elim

def fLen : D → (L → Prop) → Prop := fun d k => match d with
  | .str x => x.length ≤ sizeLine ∧ k (.fr (.int x.length))
  | .box (.dK ks) ds => k (.fr (.int ds.length))
  | d => match d.items with
    | some ds => k (.fr (.int ds.length))
    | none => False
abbrev cLen : Con := con1 fLen
theorem bi_len : BiOk X (.builtin "len") cLen := bi1 (call_len_str.or (call_len_seq.or call_lenD)) fun v d H F1 F R ps k Q r s1 g c h => by
  unfold fLen at c
  split at c
  · exact .inl ⟨_, by rw [r.str_inv], c.1, h _ _ F H c.2 (Same.refl _) (g.push (.int _))⟩
  · rename_i ks0 ds0
    cases r with
    | @box p dx s vs ds e1 e2 e3 rr =>
      refine .inr (.inr ⟨p, _, rfl, s1 _ _ e1, ?_⟩)
      have e4 : ks0.length = vs.length := e2
      have e5 : (ks0.zip vs).length = ds0.length := by rw [List.length_zip, e4, rr.length]; exact Nat.min_self _
      rw [e5]
      exact h _ _ F H c (Same.refl _) (g.push (.int _))
  · split at c
    · rename_i ds hd
      obtain ⟨p, vs, e, hs, rr⟩ := r.items hd
      refine .inr (.inl ⟨p, vs, by rw [e], hs.imp (fun z => s1.seq z) (fun z => Same.seqT s1 z), ?_⟩)
      rw [rr.length]
      exact h _ _ F H c (Same.refl _) (g.push (.int _))
    · exact c.elim

/-- the built-in type's name -/
def D.tyn : D → Option String
  | .non => some "NoneType"
  | .bl _ => some "bool"
  | .int _ => some "int"
  | .str _ => some "str"
  | .tup _ => some "tuple"
  | .ro _ => some "list"
  | .box .lst _ => some "list"
  | .box (.dK _) _ => some "dict"
  | .box (.dT _) _ => some "dict"
  | _ => none
def knownTy (n : String) : Bool := n == "int" || n == "bool" || n == "str" || n == "list" || n == "tuple" || n == "dict"
def isB (t n : String) : Bool := t == n || (t == "bool" && n == "int")
theorem Rep.tyx {K : PySem.W.Frag} {F : Hp} {v : V} {d : D} {t : String} (h : Rep K F v d) (e : d.tyn = some t) : TyX K F v (.type t) := by
  cases h with
  | non => cases e; exact .base .non
  | bl b => cases e; exact .base (.bl b)
  | int b => cases e; exact .base (.int b)
  | str b => cases e; exact .base (.str b)
  | ref a => cases e
  | ty a => cases e
  | kt a => cases e
  | tup a r =>
    cases e
    exact .base (.tup a)
  | ro a r =>
    cases e
    rcases a with (a | ⟨o, a⟩) | ⟨o, its, n, a, b, _⟩
    · exact .base (.lst a)
    · exact .base (.frz a)
    · exact .kList a b
  | @box p dx s vs ds a b c r =>
    cases s with
    | lst => cases e; exact .base (.lst a)
    | dT ks => cases e; exact .base (.dT a)
    | dK ks => cases e; exact .base (.dK a)
    | obj C ns => cases e
theorem TyX.mono {K : PySem.W.Frag} {H H' : Hp} {v : V} {t : String} (s : Same H H') (h : TyX K H v (.type t)) : TyX K H' v (.type t) := by
  cases h with
  | base b =>
    cases b with
    | non => exact .base .non
    | bl x => exact .base (.bl x)
    | int x => exact .base (.int x)
    | str x => exact .base (.str x)
    | flt x => exact .base (.flt x)
    | lst e => exact .base (.lst (s _ _ e))
    | frz e => exact .base (.frz (s _ _ e))
    | tup e => exact .base (.tup (s _ _ e))
    | dK e => exact .base (.dK (s _ _ e))
    | dT e => exact .base (.dT (s _ _ e))
  | byt b => exact .byt b
  | set e => exact .set (s _ _ e)
  | kList e c => exact .kList e c
  | kTuple e c => exact .kTuple e c
  | kDict e c => exact .kDict e c
  | fTuple e => exact .fTuple (s _ _ e)
  | fDict e => exact .fDict (s _ _ e)
theorem tyn_cases {d : D} {t : String} (h : d.tyn = some t) : t = "NoneType" ∨ t = "bool" ∨ t = "int" ∨ t = "str" ∨ t = "tuple" ∨ t = "list" ∨ t = "dict" := by
  unfold D.tyn at h
  split at h <;> first | (cases h; simp) | cases h
theorem known_cases {n : String} (h : knownTy n = true) : n = "int" ∨ n = "bool" ∨ n = "str" ∨ n = "list" ∨ n = "tuple" ∨ n = "dict" := by
  simpa [knownTy, or_assoc] using h
theorem kitB_is {t n : String} (ht : t = "NoneType" ∨ t = "bool" ∨ t = "int" ∨ t = "str" ∨ t = "tuple" ∨ t = "list" ∨ t = "dict") (hn : n = "int" ∨ n = "bool" ∨ n = "str" ∨ n = "list" ∨ n = "tuple" ∨ n = "dict") : kitB t n = some (isB t n) := by
  rcases ht with rfl | rfl | rfl | rfl | rfl | rfl | rfl <;> rcases hn with rfl | rfl | rfl | rfl | rfl | rfl <;> decide +kernel
def fIsi : D → D → (L → Prop) → Prop := fun d e k => match e with
  | .ty n => knownTy n = true ∧ ∃ t, d.tyn = some t ∧ k (.fr (.bl (isB t n)))
  | .tup [.ty n, .ty m] => (knownTy n = true ∧ knownTy m = true) ∧ ∃ t, d.tyn = some t ∧ k (.fr (.bl (isB t n || isB t m)))
  | _ => False
abbrev cIsi : Con := con2 fIsi
theorem Reps.two {K : PySem.W.Frag} {F : Hp} {vs : List V} {d e : D} (h : Reps K F vs [d, e]) : ∃ v u, vs = [v, u] ∧ Rep K F v d ∧ Rep K F u e := by
  cases h with
  | cons a b => cases b with
    | cons c d => cases d; exact ⟨_, _, rfl, a, c⟩
theorem bi_isi : BiOk X (.builtin "isinstance") cIsi := bi2 (call_isi.or (call_isiT.or call_isiK)) fun v u d e H F1 F R ps k Q r r' s1 g c h => by
  unfold fIsi at c
  split at c
  · rename_i n
    obtain ⟨hn, t, ht, c⟩ := c
    cases r'
    exact .inl ⟨v, .ty n, .type t, .type n, _, rfl, .ty n, TyX.mono s1 (r.tyx ht), kit_ty (kitB_is (tyn_cases ht) (known_cases hn)), h _ _ F H c (Same.refl _) (g.push (.bl _))⟩
  · rename_i n m
    obtain ⟨⟨hn, hm⟩, t, ht, c⟩ := c
    obtain ⟨p, vs, e, hp, rr⟩ := r'.tup_inv
    obtain ⟨v1, u1, e2, r1, r2⟩ := rr.two
    subst e; subst e2
    cases r1
    cases r2
    have any : PySem.W.kitAny X.K (.type t) [.type n, .type m] = some (isB t n || isB t m) := by
      refine kitAny_cons (kit_ty (kitB_is (tyn_cases ht) (known_cases hn))) (fun z => ?_) (fun z => by rw [z]; rfl)
      rw [z, Bool.false_or]
      exact kitAny_cons (kit_ty (kitB_is (tyn_cases ht) (known_cases hm))) (fun z => by rw [z]; exact kitAny_nil) (fun z => z)
    exact .inr (.inl ⟨v, p, _, .type t, _, _, rfl, s1 _ _ hp, .cons (.ty n) (.cons (.ty m) .nil), TyX.mono s1 (r.tyx ht), any, h _ _ F H c (Same.refl _) (g.push (.bl _))⟩)
  · exact c.elim

/-- a list of dBools, of dInts -/
def dBools : List D → Option (List Bool)
  | [] => some []
  | .bl b :: r => (dBools r).map (b :: ·)
  | _ => none
def dInts : List D → Option (List Int)
  | [] => some []
  | .int b :: r => (dInts r).map (b :: ·)
  | _ => none
theorem dBools_map (bs : List Bool) : dBools (bs.map D.bl) = some bs := by
  induction bs with
  | nil => rfl
  | cons b r ih => simp [dBools, ih]
theorem dInts_map (bs : List Int) : dInts (bs.map D.int) = some bs := by
  induction bs with
  | nil => rfl
  | cons b r ih => simp [dInts, ih]
theorem dBools_of : ∀ {ds : List D} {bs : List Bool}, dBools ds = some bs → ds = bs.map D.bl
  | [], bs, h => by cases h; rfl
  | .bl b :: r, bs, h => by
    cases e : dBools r with
    | none => simp [dBools, e] at h
    | some cs => simp [dBools, e] at h; subst h; simp [dBools_of e]
  | .non :: _, _, h => by simp [dBools] at h
  | .int _ :: _, _, h => by simp [dBools] at h
  | .str _ :: _, _, h => by simp [dBools] at h
  | .ref _ :: _, _, h => by simp [dBools] at h
  | .ty _ :: _, _, h => by simp [dBools] at h
  | .kt :: _, _, h => by simp [dBools] at h
  | .tup _ :: _, _, h => by simp [dBools] at h
  | .ro _ :: _, _, h => by simp [dBools] at h
  | .box _ _ :: _, _, h => by simp [dBools] at h
theorem dInts_of : ∀ {ds : List D} {bs : List Int}, dInts ds = some bs → ds = bs.map D.int
  | [], bs, h => by cases h; rfl
  | .int b :: r, bs, h => by
    cases e : dInts r with
    | none => simp [dInts, e] at h
    | some cs => simp [dInts, e] at h; subst h; simp [dInts_of e]
  | .non :: _, _, h => by simp [dInts] at h
  | .bl _ :: _, _, h => by simp [dInts] at h
  | .str _ :: _, _, h => by simp [dInts] at h
  | .ref _ :: _, _, h => by simp [dInts] at h
  | .ty _ :: _, _, h => by simp [dInts] at h
  | .kt :: _, _, h => by simp [dInts] at h
  | .tup _ :: _, _, h => by simp [dInts] at h
  | .ro _ :: _, _, h => by simp [dInts] at h
  | .box _ _ :: _, _, h => by simp [dInts] at h
theorem Reps.dBools {K : PySem.W.Frag} {F : Hp} : ∀ {vs : List V} {bs : List Bool}, Reps K F vs (bs.map D.bl) → vs = bs.map V.bl
  | _, [], .nil => rfl
  | _, b :: bs, .cons r rr => by rw [r.bl_inv, Reps.dBools rr]; rfl
theorem Reps.dInts {K : PySem.W.Frag} {F : Hp} : ∀ {vs : List V} {bs : List Int}, Reps K F vs (bs.map D.int) → vs = bs.map V.int
  | _, [], .nil => rfl
  | _, b :: bs, .cons r rr => by rw [r.int_inv, Reps.dInts rr]; rfl
def fBools (f : List Bool → Bool) : D → (L → Prop) → Prop := fun d k => match d with
  | .box .lst ds => ∃ bs, dBools ds = some bs ∧ k (.fr (.bl (f bs)))
  | _ => False
def fInts (f : List Int → Int) (c : List Int → Prop) : D → (L → Prop) → Prop := fun d k => match d with
  | .box .lst ds => ∃ ns, dInts ds = some ns ∧ c ns ∧ k (.fr (.int (f ns)))
  | _ => False
abbrev cAll : Con := con1 (fBools fun bs => bs.all id)
abbrev cAny : Con := con1 (fBools fun bs => bs.any id)
abbrev cSum : Con := con1 (fInts List.sum fun _ => True)
theorem bi_all (hc : X.calm = true) : BiOk X (.builtin "all") cAll := bi1 (cr_all hc) fun v d H F1 F R ps k Q r s1 g c h => by
  unfold fBools at c
  split at c
  · obtain ⟨bs, e, c⟩ := c
    have e := dBools_of e
    subst e
    obtain ⟨p, vs, ev, h1, rr⟩ := r.lst_inv
    rw [rr.dBools] at h1
    exact ⟨p, bs, by rw [ev], SqL.of (s1 _ _ h1), h _ _ F H c (Same.refl _) (g.push (.bl _))⟩
  · exact c.elim
theorem bi_any (hc : X.calm = true) : BiOk X (.builtin "any") cAny := bi1 (cr_any hc) fun v d H F1 F R ps k Q r s1 g c h => by
  unfold fBools at c
  split at c
  · obtain ⟨bs, e, c⟩ := c
    have e := dBools_of e
    subst e
    obtain ⟨p, vs, ev, h1, rr⟩ := r.lst_inv
    rw [rr.dBools] at h1
    exact ⟨p, bs, by rw [ev], SqL.of (s1 _ _ h1), h _ _ F H c (Same.refl _) (g.push (.bl _))⟩
  · exact c.elim
theorem bi_sum (hc : X.calm = true) : BiOk X (.builtin "sum") cSum := bi1 (cr_sum hc) fun v d H F1 F R ps k Q r s1 g c h => by
  unfold fInts at c
  split at c
  · obtain ⟨bs, e, _, c⟩ := c
    have e := dInts_of e
    subst e
    obtain ⟨p, vs, ev, h1, rr⟩ := r.lst_inv
    rw [rr.dInts] at h1
    exact ⟨p, bs, by rw [ev], SqL.of (s1 _ _ h1), h _ _ F H c (Same.refl _) (g.push (.int _))⟩
  · exact c.elim
def fInt : D → (L → Prop) → Prop := fun d k => match d with
  | .int i => k (.fr (.int i))
  | .bl b => k (.fr (.int (if b then 1 else 0)))
  | _ => False
abbrev cInt : Con := con1 fInt
theorem bi_int : BiOk X (.type "int") cInt := bi1 call_int1 fun v d H F1 F R ps k Q r s1 g c h => by
  unfold fInt at c
  split at c
  · exact .inl ⟨_, by rw [r.int_inv], h _ _ F H c (Same.refl _) (g.push (.int _))⟩
  · exact .inr ⟨_, by rw [r.bl_inv], h _ _ F H c (Same.refl _) (g.push (.int _))⟩
  · exact c.elim
def fAbs : D → (L → Prop) → Prop := fun d k => match d with
  | .int i => k (.fr (.int (if i < 0 then -i else i)))
  | _ => False
abbrev cAbs : Con := con1 fAbs
theorem bi_abs : BiOk X (.builtin "abs") cAbs := bi1 call_abs fun v d H F1 F R ps k Q r s1 g c h => by
  unfold fAbs at c
  split at c
  · exact ⟨_, by rw [r.int_inv], h _ _ F H c (Same.refl _) (g.push (.int _))⟩
  · exact c.elim
def fList : D → (L → Prop) → Prop := fun d k => match d.items with
  | some ds => k (.lst (ds.map L.fr))
  | none => False
abbrev cList : Con := con1F fList
theorem bi_list : BiOk X (.type "list") cList := bi1F call_list_of fun v d H F R ps k Q r g c h => by
  unfold fList at c
  split at c
  · rename_i ds hd
    obtain ⟨p, vs, e, hs, rr⟩ := r.items hd
    exact ⟨p, vs, by rw [e], hs.imp (fun z => g.hF.seq z) (fun z => Same.seqT g.hF z), fun a ha => h _ _ F _ c (Same.refl _) (g.newL rr ha)⟩
  · exact c.elim
def fTuple : D → (L → Prop) → Prop := fun d k => match d with
  | .tup ds => k (.fr (.tup ds))
  | .box .lst ds => k (.fr (.tup ds))
  | _ => False
abbrev cTuple : Con := con1F fTuple
theorem bi_tuple : BiOk X (.type "tuple") cTuple := bi1F call_tuple_of fun v d H F R ps k Q r g c h => by
  unfold fTuple at c
  split at c
  · obtain ⟨p, vs, e, hs, rr⟩ := r.tup_inv
    subst e
    exact ⟨p, vs, rfl, .inr ⟨Same.seqT g.hF hs.sq, h _ _ F H c (Same.refl _) (g.push (.tup hs rr))⟩⟩
  · obtain ⟨p, vs, e, hs, rr⟩ := r.lst_inv
    refine ⟨p, vs, by rw [e], .inl ⟨SqL.of (g.hF _ _ hs), fun a ha => ?_⟩⟩
    obtain ⟨s, g2⟩ := g.known (o := .tup vs) ha
    exact h _ _ _ _ c s (g2.push (.tup upd_same (rr.mono s)))
  · exact c.elim
theorem un_D {op : UnaryOp} {e : Expr} {pos : Pos} {f : Int → Int} {t : DE} (h : UnR X (unaryOp op) (rU fun i => .int (f i))) (he : PE X e (lift Y X.K t)) :
    PE X (.UnaryOp op e pos) (lift Y X.K fun env Q => t env fun l env1 => match l.toD with | .int i => Q (.fr (.int (f i))) env1 | _ => False) :=
  PE.imp (pe_un h he) fun σ H Q ⟨F, R, env, k, a, q, kk⟩ => by
    refine ⟨F, R, env, _, a, q, fun l env1 v F1 H1 q1 s1 w1 g1 => ?_⟩
    obtain ⟨F2, s2, g2⟩ := g1.frz
    have hr := g2.head
    split at q1
    · rename_i i hl
      rw [hl] at hr
      exact ⟨i, hr.int_inv, kk _ _ _ F2 H1 q1 (s1.trans s2) w1 (g2.drop.push (.int _))⟩
    · exact q1.elim
def dNeg (t : DE) : DE := fun env Q => t env fun l env1 => match l.toD with | .int i => Q (.fr (.int (-i))) env1 | _ => False
theorem de_neg {e : Expr} {pos : Pos} {t : DE} (he : PE X e (lift Y X.K t)) : PE X (.UnaryOp .USub e pos) (lift Y X.K (dNeg t)) := un_D un_neg he
end
end TL

namespace TL
open PySem PySem.Spec PyProof.Rows L2
section
variable {X : Cx} {Y : Act} {elt tg iter : Expr} {pos : Pos}
theorem ds_setLc {i : Nat} {y : Str} {py spos : Pos} {scope : Scope} {ifs : List Expr} {own : List (Str × Nat)} {ti : DI} {g : DG} {tt : DT} {te : DE} (hx0 : ∀ q ∈ Y.fx, q.1 ≠ i) (hc : X.calm = true) (hN : X.N.Nodup) (hy : X.N[i]? = some y) (hyl : X.env.scope.names.lookup y = some .local)
    (hsw : swapsWith (.ListComp elt [⟨tg, iter, ifs, 0⟩] scope pos) (some (.Name y py)) spos.line X.env = pure true) (hi : PI X tg iter (liftI Y X.K ti)) (ok : BlkOk X.N X.env.scope scope own)
    (hg : ∀ (Y : Act), YOk (own.map (·.2)) Y → ∀ (s : Shared) (H : Hp) (C : Addr) (cl : List (Str × Addr)) (fp : List Addr), PG (X.blk s H scope (compEnvC scope cl C X.env) fp) tg (liftG Y X.K g))
    (ht : ∀ (Y : Act), YOk (own.map (·.2)) Y → ∀ (s : Shared) (H : Hp) (C : Addr) (cl : List (Str × Addr)) (fp : List Addr), PTs (X.blk s H scope (compEnvC scope cl C X.env) fp) ifs (liftT Y X.K tt))
    (he : ∀ (Y : Act), YOk (own.map (·.2)) Y → ∀ (s : Shared) (H : Hp) (C : Addr) (cl : List (Str × Addr)) (fp : List Addr), PE (X.blk s H scope (compEnvC scope cl C X.env) fp) elt (lift Y X.K te)) (hs : ∀ x, foldedSetIterable iter X.env x = pure x := by intro _; rfl) :
    PS X (.Assign [.Name y py] (.ListComp elt [⟨tg, iter, ifs, 0⟩] scope pos) spos) (liftS Y X.K (dsSet i (dComp ti (own.map (·.2)) g tt te))) :=
  PS.imp (ps_setLc hc hN hy hyl hsw hi ok (fun s H C cl fp => pg_some (X := X.blk s H scope (compEnvC scope cl C X.env) fp) fun Y y => hg Y y s H C cl fp) (fun s H C cl fp => pts_some (X := X.blk s H scope (compEnvC scope cl C X.env) fp) fun Y y => ht Y y s H C cl fp)
    (fun s H C cl fp => pe_some (X := X.blk s H scope (compEnvC scope cl C X.env) fp) fun Y y => he Y y s H C cl fp) hs) fun D σ H ⟨F, R, env, De, a, q, k⟩ =>
    lift_comp (Y := Y) ⟨F, R, env, _, a, q, fun l env' v F' H' q' s w g => k.nx _ _ _ _ q' s (a.set s hx0 w g)⟩
def opAddI : Op2 := fun a b k => match a, b with
  | .int i, .int j => k (.fr (.int (i + j)))
  | .str x, .str y => x.length + y.length ≤ sizeLine ∧ k (.fr (.str (x ++ y)))
  | _, _ => False
theorem opr_iadd : OpR X (inplaceOp .Add) (liftO X.K opAddI) := OpR.imp (iop_add.or iop_add_str) fun x y H Q ⟨F, R, ps, da, db, k, g, ra, rb, q, kk⟩ => by
  unfold opAddI at q
  split at q
  · exact .inl ⟨_, _, ra.int_inv, rb.int_inv, kk _ _ F H q (Same.refl _) (g.push (.int _))⟩
  · exact .inr ⟨_, _, ra.str_inv, rb.str_inv, q.1, kk _ _ F H q.2 (Same.refl _) (g.push (.str _))⟩
  · exact q.elim
theorem opr_isub : OpR X (inplaceOp .Sub) (liftO X.K opSub) := OpR.imp iop_sub fun x y H Q ⟨F, R, ps, da, db, k, g, ra, rb, q, kk⟩ => by
  unfold opSub at q
  split at q
  · rename_i i j
    exact ⟨i, j, ra.int_inv, rb.int_inv, kk _ _ F H q (Same.refl _) (g.push (.int _))⟩
  · exact q.elim
end
/-! ### the law's own contract -/
def cLaw (C : List Int → (L → List L → Prop) → Prop) : Con := fun args k _ => match args with
  | [.fr (.ro ds)] => ∃ ns, dInts ds = some ns ∧ ns.length ≤ 63 ∧ C ns k
  | _ => False
/-- a law that gives True -/
def cTrue : Con := fun args k _ => ∃ ns : List Int, args = [.fr (.ro (ns.map D.int))] ∧ ns.length ≤ 63 ∧ ∀ l, k (.fr (.bl true)) l
def spLaw (K : PySem.W.Frag) : Sp := fun vs H Q _ => ∃ (a : Addr) (ns : List Int), vs = [.ref a] ∧ SqL K H a (ns.map V.int) ∧ ns.length ≤ 63 ∧ ∀ H', Q (.bl true) H'
theorem reps_ints {K : PySem.W.Frag} {F : Hp} : ∀ ns : List Int, Reps K F (ns.map V.int) (ns.map D.int)
  | [] => .nil
  | n :: ns => .cons (.int n) (reps_ints ns)
theorem law_sp {K : PySem.W.Frag} : ∀ (vs : List V) (H : Hp) (Q : VK) (E : XK), spLaw K vs H Q E → spD K cTrue vs H Q E := fun vs H Q E ⟨a, ns, e, hS, hl, h⟩ => by
  subst e
  refine ⟨H, fun _ => none, [.fr (.ro (ns.map D.int))], fun l _ => l = .fr (.bl true), fun _ _ => False, rfl, ⟨⟨[], .cons (As := []) (.fr (.ro hS (reps_ints ns))) .nil, by simp, by simp⟩, fun _ => .inl rfl, Same.refl _, fun _ _ e => by cases e⟩, ⟨ns, rfl, hl, fun _ => rfl⟩, fun r ls' v F' H' e s _ g => ?_, fun _ _ _ _ _ _ q => q.elim⟩
  subst e
  rw [g.head.bl_inv]
  exact h H'
theorem law_CX {P : Program} {w : World} {l : List Env} {H : Hp} {s : Shared} {e : Value} {s' : Shared} (h : L2.CX P w l H s (fun _ _ _ => False) e s') : False := by
  obtain ⟨_, _, _, _, _, _, _, _, _, _, _, _, z⟩ := h
  exact z
end TL

namespace TL
open PySem PySem.Spec PyProof.Rows L2
/-! ### rules for the plain half -/
theorem rngD_get {lo : Int} {n i : Nat} {d : D} (h : (rngD lo n)[i]? = some d) : i < n ∧ d = .int (lo + (i : Int)) := by
  have hi : i < n := by
    have := (List.getElem?_eq_some_iff.mp h).1
    simpa [rngD] using this
  refine ⟨hi, ?_⟩
  unfold rngD at h
  rw [List.getElem?_map, List.getElem?_range hi] at h
  exact (Option.some.inj h).symm
theorem rngD_len (lo : Int) (n : Nat) : (rngD lo n).length = n := by simp [rngD]
theorem forD_ix {g : DG} {tb : DS} {De : DEnds} {ds : List D} {env : Ev} (I : Nat → Ev → Prop) (h0 : I 0 env)
    (hs : ∀ (i : Nat) (d : D) (env : Ev), ds[i]? = some d → I i env → ∀ N : Ev → Prop, (∀ e, I (i + 1) e → N e) → g (.fr d) env fun env1 => tb { De with nx := N, ct := N, bk := De.nx } env1)
    (he : ∀ e, I ds.length e → De.nx e) : forD g tb De ds env := by
  have key : ∀ (m i : Nat) (e : Ev), ds.length - i = m → i ≤ ds.length → I i e → forD g tb De (ds.drop i) e := by
    intro m
    induction m with
    | zero =>
      intro i e hm hi h
      have : i = ds.length := by omega
      subst this
      rw [List.drop_length]
      exact he e h
    | succ m ih =>
      intro i e hm hi h
      have hlt : i < ds.length := by omega
      rw [List.drop_eq_getElem_cons hlt]
      exact hs i ds[i] e (List.getElem?_eq_getElem hlt) h _ fun e' h' => ih (i + 1) e' (by omega) hlt h'
  exact key ds.length 0 env rfl (Nat.zero_le _) h0
theorem compD_ix {own : List Nat} {g : DG} {tt : DT} {te : DE} {Q : List L → Ev → Prop} {ds : List D} {env : Ev} (I : Nat → List L → Ev → Prop) (h0 : I 0 [] env)
    (hs : ∀ (i : Nat) (d : D) (acc : List L) (env : Ev), ds[i]? = some d → I i acc env → ∀ N : List L → Ev → Prop, (∀ a e, I (i + 1) a e → N a e) →
      g (.fr d) env fun env1 => tt env1 fun b env2 => if b = true then te env2 fun l env3 => acc.length < sizeLine ∧ N (acc ++ [l]) (wipeE env3 own) else N acc (wipeE env2 own))
    (he : ∀ a e, I ds.length a e → Q a e) : compD own g tt te Q ds [] env := by
  have key : ∀ (m i : Nat) (acc : List L) (e : Ev), ds.length - i = m → i ≤ ds.length → I i acc e → compD own g tt te Q (ds.drop i) acc e := by
    intro m
    induction m with
    | zero =>
      intro i acc e hm hi h
      have : i = ds.length := by omega
      subst this
      rw [List.drop_length]
      exact he acc e h
    | succ m ih =>
      intro i acc e hm hi h
      have hlt : i < ds.length := by omega
      rw [List.drop_eq_getElem_cons hlt]
      exact hs i ds[i] acc e (List.getElem?_eq_getElem hlt) h (fun a e => compD own g tt te Q (ds.drop (i + 1)) a e) fun a e' h' => ih (i + 1) a e' (by omega) hlt h'
  exact key ds.length 0 [] env rfl (Nat.zero_le _) h0
def cNo : Con := fun _ _ _ => False
theorem ok_no {P : Program} {w : World} {K : PySem.W.Frag} {mg : Str → Option Value} {base : Heap} {CX : CXT} {k : Nat} {f : Addr} {fd : FuncData} {ps : List Str} : FnOk P w K mg base CX k f fd ps (spD K cNo) :=
  ⟨fun vs H Q E ⟨_, _, _, _, _, _, _, h, _⟩ => h.elim, fun _ _ _ _ _ _ _ _ _ _ _ _ _ ⟨_, _, _, _, _, _, _, h, _⟩ => h.elim⟩
section
variable {α : Type}
theorem atI_0 (a : α) (l : List α) : atI (a :: l) 0 = some a := atI_nat (j := 0) rfl
theorem atI_1 (a b : α) (l : List α) : atI (a :: b :: l) 1 = some b := atI_nat (j := 1) rfl
theorem atI_2 (a b c : α) (l : List α) : atI (a :: b :: c :: l) 2 = some c := atI_nat (j := 2) rfl
theorem atI_3 (a b c d : α) (l : List α) : atI (a :: b :: c :: d :: l) 3 = some d := atI_nat (j := 3) rfl
theorem atI_4 (a b c d e : α) (l : List α) : atI (a :: b :: c :: d :: e :: l) 4 = some e := atI_nat (j := 4) rfl
theorem ixN_of {n j : Nat} (h : j < n) : ixN n (j : Int) = some j := by
  unfold ixN
  rw [if_pos (by omega), if_pos (by omega)]; simp
theorem ixN_0 (a : α) (l : List α) : ixN (a :: l).length 0 = some 0 := ixN_of (j := 0) (by simp)
theorem ixN_1 (a b : α) (l : List α) : ixN (a :: b :: l).length 1 = some 1 := ixN_of (j := 1) (by simp)
theorem ixN_2 (a b c : α) (l : List α) : ixN (a :: b :: c :: l).length 2 = some 2 := ixN_of (j := 2) (by simp)
theorem ixN_3 (a b c d : α) (l : List α) : ixN (a :: b :: c :: d :: l).length 3 = some 3 := ixN_of (j := 3) (by simp)
theorem ixN_4 (a b c d e : α) (l : List α) : ixN (a :: b :: c :: d :: e :: l).length 4 = some 4 := ixN_of (j := 4) (by simp)
theorem atI_of {xs : List α} {i : Int} (h0 : 0 ≤ i) (h1 : i < xs.length) : ∃ d, atI xs i = some d ∧ d ∈ xs ∧ xs[i.toNat]? = some d := by
  obtain ⟨j, rfl⟩ := Int.eq_ofNat_of_zero_le h0
  have hj : j < xs.length := by omega
  exact ⟨xs[j], atI_nat (List.getElem?_eq_getElem hj), List.getElem_mem hj, List.getElem?_eq_getElem hj⟩
end
theorem fmod_lt (a : Int) {b : Int} (h : 0 < b) : a.fmod b < b := Int.fmod_lt_of_pos a h
theorem fmod_nn (a : Int) {b : Int} (h : 0 < b) : 0 ≤ a.fmod b := Int.fmod_nonneg_of_pos a h
theorem fdiv_nn {a b : Int} (h : 0 ≤ a) (h2 : 0 < b) : 0 ≤ a.fdiv b := Int.fdiv_nonneg h (Int.le_of_lt h2)
end TL

namespace TL
open PySem PySem.Spec PyProof.Rows L2
/-! ### a look at all that is held: the answer is a plain value, what was owned is owned again -/
def frzL (l : L) : L := .fr l.toD
def frzE (env : Ev) : Ev := env.map fun o => o.map frzL
def D.scalar : D → Bool
  | .non => true
  | .bl _ => true
  | .int _ => true
  | .str _ => true
  | _ => false
theorem Rep.scalar {K : PySem.W.Frag} {F F' : Hp} {v : V} {d : D} (h : Rep K F v d) (e : d.scalar = true) : Rep K F' v d := by
  cases h with
  | non => exact .non
  | bl b => exact .bl b
  | int i => exact .int i
  | str x => exact .str x
  | ref a => cases e
  | ty n => cases e
  | kt a => cases e
  | tup a b => cases e
  | ro a b => cases e
  | box a b c d => cases e
theorem owns_fr {K : PySem.W.Frag} {F H : Hp} : ∀ {vs : List V} {ds : List D}, Reps K F vs ds → Owns K F H vs (ds.map L.fr) []
  | _, _, .nil => .nil
  | _, _, .cons r rr => .cons (As := []) (.fr r) (owns_fr rr)
theorem Hold.peek {K : PySem.W.Frag} {F R H : Hp} {ps : List (V × L)} (h : Hold K F R H [] ps) : ∃ F1, Same F F1 ∧ Hold K F1 R H [] (ps.map fun p => (p.1, frzL p.2)) ∧
    ∀ F2 H2, Same F1 F2 → Same F2 H2 → Same R H2 → Hold K F R H2 [] ps := by
  obtain ⟨As, ow, nd, n⟩ := h.own
  have n : ∀ a ∈ As, F a = none ∧ R a = none ∧ ∃ o, H a = some o := fun a ha => n a (by simpa using ha)
  have s : Same F (fun a => if a ∈ As then H a else F a) := fun b u e => by
    show (if b ∈ As then H b else F b) = some u
    rw [if_neg (fun z => by rw [(n b z).1] at e; cases e)]; exact e
  have rr : Reps K (fun a => if a ∈ As then H a else F a) (ps.map (·.1)) (L.toDs (ps.map (·.2))) := ow.frz s fun a ha => if_pos ha
  refine ⟨fun a => if a ∈ As then H a else F a, s, ⟨⟨[], ?_, by simp, fun a ha => by simp at ha⟩, fun a => ?_, fun b u e => ?_, h.hR⟩, fun F2 H2 s2 hF hR => ?_⟩
  · have := owns_fr (H := H) rr
    rw [toDs_map] at this
    simpa [frzL, List.map_map, Function.comp_def] using this
  · by_cases e : a ∈ As
    · exact .inl (n a e).2.1
    · rcases h.dis a with q | q | q
      · exact .inl q
      · exact .inr (.inl (by show (if a ∈ As then H a else F a) = none; rw [if_neg e]; exact q))
      · exact .inr (.inr q)
  · have e' : (if b ∈ As then H b else F b) = some u := e
    by_cases z : b ∈ As
    · rw [if_pos z] at e'; exact e'
    · rw [if_neg z] at e'; exact h.hF _ _ e'
  · have eq : ∀ a ∈ As, H2 a = H a := fun a ha => by
      obtain ⟨_, _, o, e⟩ := n a ha
      rw [e]
      exact hF _ _ (s2 _ _ (by show (if a ∈ As then H a else F a) = some o; rw [if_pos ha]; exact e))
    refine ⟨⟨As, ow.mono (Same.refl _) eq, nd, fun a ha => ?_⟩, h.dis, fun b u e => hF _ _ (s2 _ _ (s _ _ e)), hR⟩
    have ha : a ∈ As := by simpa using ha
    obtain ⟨x, y, o, e⟩ := n a ha
    exact ⟨x, y, o, by rw [eq a ha]; exact e⟩
theorem slots_frz : ∀ {σ : List (Option V)} {env : Ev}, slotsP σ (frzE env) = (slotsP σ env).map fun p => (p.1, frzL p.2)
  | [], env => by simp [slotsP]
  | o :: σ, [] => by cases o <;> simp [slotsP, frzE]
  | some v :: σ, some l :: env => by
    have := slots_frz (σ := σ) (env := env)
    unfold frzE at this ⊢
    simp only [List.map_cons, Option.map_some, slotsP]
    rw [this]
  | some v :: σ, none :: env => by
    have := slots_frz (σ := σ) (env := env)
    unfold frzE at this ⊢
    simp only [List.map_cons, Option.map_none, slotsP]
    rw [this]
  | none :: σ, e :: env => by
    have := slots_frz (σ := σ) (env := env)
    unfold frzE at this ⊢
    simp only [List.map_cons, slotsP]
    rw [this]
theorem wf_frz : ∀ {σ : List (Option V)} {env : Ev}, Wf σ env → Wf σ (frzE env)
  | [], [], _ => trivial
  | o :: σ, e :: env, h => ⟨fun q => h.1 (by cases e <;> simp_all), wf_frz h.2⟩
  | [], _ :: _, h => h.elim
  | _ :: _, [], h => h.elim
/-- a tuple of the heap is known from now on -/
theorem Hold.addTup {K : PySem.W.Frag} {F R H : Hp} {ps : List (V × L)} {q : Addr} {xs : List V} (h : Hold K F R H [] ps) (e : H q = some (.tup xs)) : ∃ F', Same F F' ∧ F' q = some (.tup xs) ∧ Hold K F' R H [] ps := by
  obtain ⟨As, ow, nd, n⟩ := h.own
  have s : Same F (upd F q (.tup xs)) := fun b u eb => by
    by_cases z : b = q
    · subst z
      have := h.hF _ _ eb
      rw [e] at this
      rw [upd_same]
      exact this
    · rw [upd_ne z]; exact eb
  refine ⟨upd F q (.tup xs), s, upd_same, ⟨As, ow.mono s fun _ _ => rfl, nd, fun a ha => ?_⟩, fun a => ?_, fun b u eb => ?_, h.hR⟩
  · obtain ⟨x, y, z⟩ := n a ha
    have ha : a ∈ As := by simpa using ha
    have ne : a ≠ q := fun w => ow.nt a ha xs (w ▸ e)
    exact ⟨by rw [upd_ne ne]; exact x, y, z⟩
  · by_cases z : a = q
    · subst z
      cases hr : R a with
      | none => exact .inl rfl
      | some o =>
        have := h.hR _ _ hr
        rw [e] at this
        exact .inr (.inr ⟨xs, this.symm⟩)
    · rw [upd_ne z]; exact h.dis a
  · by_cases z : b = q
    · subst z
      rw [upd_same] at eb
      rw [e]; exact eb
    · rw [upd_ne z] at eb; exact h.hF _ _ eb
def dTmp (t : DE) : DE := fun env Q => t (frzE env) fun l _ => ∃ d, l = .fr d ∧ d.scalar = true ∧ Q l env
section
variable {X : Cx} {Y : Act}
theorem de_tmp {e : Expr} {t : DE} (h : PE X e (lift Y X.K t)) : PE X e (lift Y X.K (dTmp t)) :=
  PE.imp h fun σ H Q ⟨F, R, env, k, a, q, kk⟩ => by
    obtain ⟨F1, s1, g1, back⟩ := a.hold.peek
    rw [← slots_frz] at g1
    refine ⟨F1, R, frzE env, _, a.to s1 (wf_frz a.wf) g1, q, fun l env' v F2 H2 ⟨d, e, hd, q2⟩ s2 w2 g2 => ?_⟩
    subst e
    exact kk _ env v F H2 q2 (Same.refl _) a.wf ((back F2 H2 s2 g2.hF g2.hR).push (g2.head.scalar hd))
theorem de_tyn {x : Str} {n : String} {p : Pos} (hg : Gl X x) (hm : X.mg x = none) (hv : bootBuiltins x = some (.type n)) (hn : x ≠ "__name__" := by decide) (hd : (x == ("__debug__" : Str)) = false := by decide) : PE X (.Name x p) (lift Y X.K (dC (.ty n))) :=
  de_c (pe_bltn (v := .ty n) hg hm hv rfl hn hd) fun _ => .ty n
end
end TL

namespace TL
open PySem PySem.Spec PyProof.Rows L2
/-! ### instances -/
def fldL {α : Type} : List Str → List α → Str → Option α
  | n :: ns, l :: ls, f => if f = n then some l else fldL ns ls f
  | _, _, _ => none
theorem fldL_lookup : ∀ {ns : List Str} {vs : List V} {f : Str} {v : V}, fldL ns vs f = some v → (ns.zip vs).lookup f = some v
  | [], _, _, _, h => by simp [fldL] at h
  | _ :: _, [], _, _, h => by simp [fldL] at h
  | n :: ns, u :: vs, f, v, h => by
    simp only [fldL] at h
    simp only [List.zip_cons_cons, List.lookup_cons]
    by_cases e : f = n
    · rw [if_pos e] at h; simp [e]; exact Option.some.inj h
    · rw [if_neg e] at h
      rw [show (f == n) = false from beq_eq_false_iff_ne.mpr e]
      exact fldL_lookup h
theorem lookup_notin : ∀ {ns : List Str} {vs : List V} {f : Str}, f ∉ ns → (ns.zip vs).lookup f = none
  | [], _, _, _ => by simp
  | _ :: _, [], _, _ => by simp
  | n :: ns, u :: vs, f, h => by
    simp only [List.zip_cons_cons, List.lookup_cons]
    have e : f ≠ n := fun z => h (by simp [z])
    rw [show (f == n) = false from beq_eq_false_iff_ne.mpr e]
    exact lookup_notin fun z => h (by simp [z])
theorem Owns.fld {K : PySem.W.Frag} {F H : Hp} : ∀ {ns : List Str} {vs : List V} {ls : List L} {As : List Addr} {f : Str} {d : D}, Owns K F H vs ls As → fldL ns ls f = some (.fr d) → ∃ u, fldL ns vs f = some u ∧ Rep K F u d
  | [], _, _, _, _, _, _, h => by simp [fldL] at h
  | _ :: _, _, _, _, _, _, .nil, h => by simp [fldL] at h
  | n :: ns, v :: vs, l :: ls, _, f, d, .cons o r, h => by
    simp only [fldL] at h ⊢
    by_cases e : f = n
    · rw [if_pos e] at h ⊢
      have h := Option.some.inj h
      subst h
      cases o with | fr r => exact ⟨_, rfl, r⟩
    · rw [if_neg e] at h ⊢
      exact Owns.fld r h
theorem Reps.fld {K : PySem.W.Frag} {F : Hp} : ∀ {ns : List Str} {vs : List V} {ds : List D} {f : Str} {d : D}, Reps K F vs ds → fldL ns ds f = Option.some d → ∃ u, fldL ns vs f = Option.some u ∧ Rep K F u d
  | [], _, _, _, _, _, h => by simp [fldL] at h
  | _ :: _, _, _, _, _, .nil, h => by simp [fldL] at h
  | n :: ns, v :: vs, l :: ls, f, d, .cons o r, h => by
    simp only [fldL] at h ⊢
    by_cases e : f = n
    · rw [if_pos e] at h ⊢
      have h := Option.some.inj h
      subst h
      exact ⟨_, rfl, o⟩
    · rw [if_neg e] at h ⊢
      exact Reps.fld r h
theorem Rep.obj_inv {K : PySem.W.Frag} {F : Hp} {v : V} {C : Addr} {ns : List Str} {ds : List D} (h : Rep K F v (.box (.obj C ns) ds)) : ∃ p dx vs, v = .ref p ∧ F p = some (.ins C dx (ns.zip vs)) ∧ ns.length = vs.length ∧ F dx = some (.own p) ∧ Reps K F vs ds := by
  cases h with
  | box a b c d => exact ⟨_, _, _, rfl, a, b, c, d⟩
/-- x.f, x the name in the slot i -/
def dFldV (i : Nat) (C : Addr) (f : Str) : DE := fun env Q => match env[i]? with
  | some (some (.fr (.box (.obj C' ns) ds))) => C' = C ∧ ∃ d, fldL ns ds f = some d ∧ Q (.fr d) env
  | some (some (.box (.obj C' ns) ls)) => C' = C ∧ ∃ d, fldL ns ls f = some (.fr d) ∧ Q (.fr d) env
  | _ => False
section
variable {X : Cx} {Y : Act} {e o a b : Expr} {es : List Expr} {pos pos' apos : Pos}
theorem de_fldv {i : Nat} {C : Addr} {f : Str} (hc : Cls X.K C) (hn : NoAttr X.K C f) (ha : PE X o (tVar i)) (hb : attributeBase o f X.env (eval o X.env) = eval o X.env := by rfl) : PE X (.Attribute o f pos) (lift Y X.K (dFldV i C f)) :=
  PE.imp (pe_fld ha hb) fun σ H Q ⟨F, R, env, k, a, q, kk⟩ => by
    unfold dFldV at q
    split at q
    · rename_i C' ns ds he
      obtain ⟨e, d, hf, q⟩ := q
      subst e
      obtain ⟨v, hv⟩ := a.wf.get he
      have g := a.hold.perm (slots_get he hv)
      obtain ⟨p, dx, vs, ev, hp, hl, _, rr⟩ := g.head.obj_inv
      obtain ⟨u, hu, ru⟩ := rr.fld hf
      subst ev
      exact ⟨.ref p, hv, p, _, dx, _, u, rfl, a.hold.hF _ _ hp, hc, hn, fldL_lookup hu, kk _ env u F H q (Same.refl _) a.wf (a.hold.push ru)⟩
    · rename_i C' ns ls he
      obtain ⟨e, d, hf, q⟩ := q
      subst e
      obtain ⟨v, hv⟩ := a.wf.get he
      have g := a.hold.perm (slots_get he hv)
      obtain ⟨As, ow, nd, n⟩ := g.own
      cases ow with
      | cons o1 o2 =>
        cases o1 with
        | @box p dx _ _ As vs e1 e2 e3 r =>
          obtain ⟨u, hu, ru⟩ := r.fld hf
          exact ⟨.ref p, hv, p, _, dx, _, u, rfl, e1, hc, hn, fldL_lookup hu, kk _ env u F H q (Same.refl _) a.wf (a.hold.push ru)⟩
    · exact q.elim
/-- e.f -/
def dFld (t : DE) (C : Addr) (f : Str) : DE := fun env Q => t env fun l env1 => match l.toD with
  | .box (.obj C' ns) ds => C' = C ∧ ∃ d, fldL ns ds f = some d ∧ Q (.fr d) env1
  | _ => False
theorem de_fld {t : DE} {C : Addr} {f : Str} (hc : Cls X.K C) (hn : NoAttr X.K C f) (ha : PE X o (lift Y X.K t)) (hb : attributeBase o f X.env (eval o X.env) = eval o X.env := by rfl) : PE X (.Attribute o f pos) (lift Y X.K (dFld t C f)) :=
  PE.imp (pe_fld ha hb) fun σ H Q ⟨F, R, env, k, a, q, kk⟩ => by
    refine ⟨F, R, env, _, a, q, fun l env1 v F1 H1 q1 s1 w1 g1 => ?_⟩
    obtain ⟨F2, s2, g2⟩ := g1.frz
    have hr := g2.head
    split at q1
    · rename_i C' ns ds hd
      obtain ⟨e, d, hf, q1⟩ := q1
      subst e
      rw [hd] at hr
      obtain ⟨p, dx, vs, ev, hp, hl, _, rr⟩ := hr.obj_inv
      obtain ⟨u, hu, ru⟩ := rr.fld hf
      exact ⟨p, _, dx, _, u, ev, g2.hF _ _ hp, hc, hn, fldL_lookup hu, kk _ env1 u F2 H1 q1 (s1.trans s2) w1 (g2.drop.push ru)⟩
    · exact q1.elim
/-! #### stores -/
def putA {α : Type} (f : Str) (x : α) : List Str → List α → List α
  | n :: ns, y :: ys => if n = f then x :: ys else y :: putA f x ns ys
  | _, _ => [x]
def putN (f : Str) : List Str → List Str
  | n :: ns => if n = f then n :: ns else n :: putN f ns
  | [] => [f]
theorem putA_map {α β : Type} (g : α → β) (f : Str) (x : α) : ∀ (ns : List Str) (ys : List α), ns.length = ys.length → (putA f x ns ys).map g = putA f (g x) ns (ys.map g)
  | [], [], _ => rfl
  | n :: ns, y :: ys, h => by
    simp only [putA, List.map_cons]
    by_cases e : n = f
    · rw [if_pos e, if_pos e]; rfl
    · rw [if_neg e, if_neg e, List.map_cons, putA_map g f x ns ys (by simpa using h)]
  | [], _ :: _, h => by simp at h
  | _ :: _, [], h => by simp at h
theorem putF_zip {f : Str} {v : V} : ∀ {ns : List Str} {vs : List V}, ns.length = vs.length → putF f v (ns.zip vs) = (putN f ns).zip (putA f v ns vs)
  | [], [], _ => rfl
  | n :: ns, u :: vs, h => by
    have ih := putF_zip (f := f) (v := v) (ns := ns) (vs := vs) (by simpa using h)
    simp only [List.zip_cons_cons, putF, putN, putA]
    by_cases e : n = f
    · rw [if_pos e, if_pos e, if_pos e]; simp [e]
    · rw [if_neg e, if_neg e, if_neg e, ih]; rfl
  | [], _ :: _, h => by simp at h
  | _ :: _, [], h => by simp at h
theorem putA_len {f : Str} {α : Type} {x : α} : ∀ {ns : List Str} {ys : List α}, ns.length = ys.length → (putN f ns).length = (putA f x ns ys).length
  | [], [], _ => rfl
  | n :: ns, y :: ys, h => by
    have ih := putA_len (f := f) (x := x) (ns := ns) (ys := ys) (by simpa using h)
    simp only [putN, putA]
    by_cases e : n = f
    · rw [if_pos e, if_pos e]; simpa using h
    · rw [if_neg e, if_neg e]; simp [ih]
  | [], _ :: _, h => by simp at h
  | _ :: _, [], h => by simp at h
theorem Hold.putA {K : PySem.W.Frag} {F R H : Hp} {Xs : List Addr} {f : Str} {x : V × L} : ∀ {ns : List Str} {qs ps : List (V × L)}, Hold K F R H Xs (x :: (qs ++ ps)) → ns.length = qs.length → Hold K F R H Xs (TL.putA f x ns qs ++ ps)
  | [], [], ps, h, _ => by simpa [TL.putA] using h
  | n :: ns, q :: qs, ps, h, e => by
    simp only [TL.putA]
    by_cases z : n = f
    · rw [if_pos z]
      exact (h.perm (List.Perm.swap q x (qs ++ ps))).drop
    · rw [if_neg z]
      have h1 : Hold K F R H Xs (x :: (qs ++ (q :: ps))) := h.perm (List.Perm.cons _ (List.perm_middle.symm))
      have := Hold.putA (f := f) (ns := ns) (qs := qs) (ps := q :: ps) h1 (by simpa using e)
      exact this.perm List.perm_middle
  | [], _ :: _, _, _, e => by simp at e
  | _ :: _, [], _, _, e => by simp at e
/-- x.f = e, x the name in the slot i that owns its instance -/
def dsFld (i : Nat) (C : Addr) (f : Str) (t : DE) : DS := fun De env => t env fun l env1 => match env1[i]? with
  | some (some (.box (.obj C' ns) ls)) => (C' = C ∧ ns.length < 1000) ∧ De.nx (env1.set i (some (.box (.obj C' (putN f ns)) (putA f l ns ls))))
  | _ => False
theorem ds_fld {i : Nat} {C : Addr} {f : Str} {t : DE} (hc : Cls X.K C) (hn : NoAttr X.K C f) (ho : PE X o (tVar i)) (he : PE X e (lift Y X.K t)) (hs : swapsWith e (some (.Attribute o f pos')) pos.line X.env = pure false := by rfl) :
    PS X (.Assign [.Attribute o f pos'] e pos) (liftS Y X.K (dsFld i C f t)) :=
  PS.imp (ps_fld ho he hs) fun D σ H ⟨F, R, env, De, a, q, k⟩ => by
    refine ⟨F, R, env, _, a, q, fun l env1 v F1 H1 q1 s1 w1 g1 => ?_⟩
    split at q1
    · rename_i C' ns ls hev
      obtain ⟨⟨e, hl⟩, q1⟩ := q1
      subst e
      obtain ⟨u, hu⟩ := w1.get hev
      have g2 : Hold X.K F1 R H1 [] ((u, .box (.obj C' ns) ls) :: (v, l) :: slotsP σ (env1.set i none)) := (g1.perm (List.Perm.cons _ (slots_get hev hu))).perm (List.Perm.swap _ _ _)
      obtain ⟨p, dx, vs, ev, e1, e2, e3, el, g3⟩ := g2.open
      subst ev
      have e2 : ns.length = vs.length := e2
      have lz : ns.length = (vs.zip ls).length := by rw [List.length_zip, ← el, e2, Nat.min_self]
      have g4 : Hold X.K F1 R H1 (Shape.adr (.obj C' ns) p dx ++ []) ((v, l) :: (vs.zip ls ++ slotsP σ (env1.set i none))) := g3.perm List.perm_middle
      have g5 := Hold.putA (f := f) (ns := ns) g4 lz
      have m1 : (putA f (v, l) ns (vs.zip ls)).map (·.1) = putA f v ns vs := by rw [putA_map _ f _ ns _ lz, map_zip1 el]
      have m2 : (putA f (v, l) ns (vs.zip ls)).map (·.2) = putA f l ns ls := by rw [putA_map _ f _ ns _ lz, map_zip2 el]
      have g6 := Hold.closeW (s := .obj C' ns) (s' := .obj C' (putN f ns)) g5 (by show (putN f ns).length = _; exact putA_len lz) e3 rfl rfl
      rw [m1, m2] at g6
      refine ⟨.ref p, hu, p, _, dx, _, rfl, e1, hc, hn, by rw [List.length_zip, ← e2, Nat.min_self]; exact hl, ?_⟩
      rw [putF_zip e2]
      have hi : i < env1.length := (List.getElem?_eq_some_iff.mp hev).1
      exact k.nx _ _ _ _ q1 s1 (a.to s1 (w1.setL hu) (g6.perm (slots_put hu hi).symm))
    · exact q1.elim
/-! #### made -/
theorem Hold.newObj {K : PySem.W.Frag} {F R H : Hp} {Xs : List Addr} {ps : List (V × L)} {x dx C : Addr} (h : Hold K F R H Xs ps) (hx : H x = none) (hd : H dx = none) (ne : dx ≠ x) :
    Hold K F R (upd (upd H dx (.own x)) x (.ins C dx [])) Xs ((.ref x, .box (.obj C []) []) :: ps) := by
  have g := (h.alloc (o := .own x) hd).alloc (p := x) (o := .ins C dx []) (by rw [upd_ne (Ne.symm ne)]; exact hx)
  obtain ⟨As, ow, nd, n⟩ := g.own
  obtain ⟨As0, ow0, nd0, n0⟩ := h.own
  have sub : ∀ a, H a = none → ∀ As', Owns K F H (ps.map (·.1)) (ps.map (·.2)) As' → a ∉ As' := fun a ha As' o hm => by
    obtain ⟨u, e⟩ := o.there a hm
    rw [ha] at e; cases e
  have keep : ∀ a ∈ Xs ++ As0, (upd (upd H dx (.own x)) x (.ins C dx [])) a = H a := fun a ha => by
    obtain ⟨_, _, u, e⟩ := n0 a ha
    rw [upd_ne (fun z => by rw [z, hx] at e; cases e), upd_ne (fun z => by rw [z, hd] at e; cases e)]
  have nx : ∀ a ∈ Xs ++ As0, a ≠ x ∧ a ≠ dx := fun a ha => by
    obtain ⟨_, _, u, e⟩ := n0 a ha
    exact ⟨fun z => (by rw [z, hx] at e; cases e), fun z => (by rw [z, hd] at e; cases e)⟩
  have ed : (upd (upd H dx (.own x)) x (.ins C dx [])) dx = some (.own x) := by rw [upd_ne ne, upd_same]
  refine ⟨⟨(Shape.obj C []).adr x dx ++ [] ++ As0, .cons (.box (s := .obj C []) (vs := []) (by rw [upd_same]; rfl) rfl ed .nil) (ow0.mono (Same.refl _) fun a ha => keep a (List.mem_append_right _ ha)), ?_, fun a ha => ?_⟩, g.dis, g.hF, g.hR⟩
  · have p : (Xs ++ ((Shape.obj C []).adr x dx ++ [] ++ As0)).Perm (x :: dx :: (Xs ++ As0)) := by
      show (Xs ++ (x :: dx :: As0)).Perm _
      exact List.perm_middle.trans (List.Perm.cons _ List.perm_middle)
    refine p.nodup_iff.mpr ?_
    refine List.nodup_cons.mpr ⟨fun z => ?_, List.nodup_cons.mpr ⟨fun z => (nx _ z).2 rfl, nd0⟩⟩
    rcases List.mem_cons.mp z with z | z
    · exact ne z.symm
    · exact (nx _ z).1 rfl
  · have hc : a = x ∨ a = dx ∨ a ∈ Xs ++ As0 := by
      rcases List.mem_append.mp ha with z | z
      · exact .inr (.inr (List.mem_append_left _ z))
      · have z : a ∈ x :: dx :: As0 := z
        rcases List.mem_cons.mp z with z | z
        · exact .inl z
        · rcases List.mem_cons.mp z with z | z
          · exact .inr (.inl z)
          · exact .inr (.inr (List.mem_append_right _ z))
    rcases hc with z | z | z
    · subst z; exact ⟨h.hF.free hx, h.hR.free hx, _, upd_same⟩
    · subst z; exact ⟨h.hF.free hd, h.hR.free hd, _, ed⟩
    · obtain ⟨p, q, u, e⟩ := n0 a z
      exact ⟨p, q, u, (keep a z).trans e⟩
/-- a call with values ahead of the written arguments -/
theorem call_core {C : Con} {dds : List D} {dvs : List V} {E : XK} (hd : Reps X.K (fun _ => none) dvs dds) {σ : L2.St} {H1 F1 R : Hp} {Q : VK} {hv : List V} {hls : List L} {vs : List V} {xs : List (L × Option Nat)} {env1 : Ev} {k : L → List L → Prop}
    (hh : hv.length = hls.length) (m1 : Marks σ vs xs) (w1 : Wf σ env1) (g1 : Hold X.K F1 R H1 [] (hv.zip hls ++ (vs.zip (xs.map (·.1)) ++ slotsP σ env1))) (q1 : C (hls ++ (xs.map (·.1) ++ dds.map L.fr)) k kF)
    (kk : ∀ r ls' v F' H', k r ls' → Same F1 F' → hv.length ≤ ls'.length → Wf σ (restore env1 (xs.map (·.2)) (ls'.drop hv.length)) →
      Hold X.K F' R H' [] ((v, r) :: (hv.zip (ls'.take hv.length) ++ slotsP σ (restore env1 (xs.map (·.2)) (ls'.drop hv.length)))) → Q v H') : spD X.K C (hv ++ (vs ++ dvs)) H1 Q E := by
  have g1' : Hold X.K F1 R H1 [] ((hv.zip hls ++ vs.zip (xs.map (·.1))) ++ slotsP σ env1) := by rw [List.append_assoc]; exact g1
  obtain ⟨R', sR, g2, back⟩ := Hold.frame g1'
  have hl : vs.length = (xs.map (·.1)).length := by rw [m1.len, List.length_map]
  have rd : Reps X.K F1 dvs dds := hd.mono fun _ _ e => by cases e
  have g3 : Hold X.K F1 R' H1 [] ((hv ++ (vs ++ dvs)).zip (hls ++ (xs.map (·.1) ++ dds.map L.fr))) := by
    rw [zip_app hh, zip_app hl, ← List.append_assoc]
    exact (Hold.pushs rd g2).perm List.perm_append_comm
  refine ⟨F1, R', _, _, _, by simp only [List.length_append, List.length_map]; rw [hh, hl, rd.length, List.length_map], g3, q1, fun r ls' v F' H' q2 s2 z g4 => ?_, fun x ls' cls d F' H' q2 => q2.elim⟩
  have g5 := back F' H' _ s2 g4
  have z' : ls'.length = hv.length + (vs.length + dvs.length) := by rw [z]; simp only [List.length_append]
  have le : hv.length ≤ ls'.length := by omega
  have e0 : ls' = ls'.take hv.length ++ ls'.drop hv.length := (List.take_append_drop _ _).symm
  have hl0 : hv.length = (ls'.take hv.length).length := by rw [List.length_take]; omega
  have zd : (ls'.drop hv.length).length = vs.length + dvs.length := by rw [List.length_drop]; omega
  have hl2 : vs.length = ((ls'.drop hv.length).take vs.length).length := by rw [List.length_take]; omega
  have e3 : ls'.drop hv.length = (ls'.drop hv.length).take vs.length ++ (ls'.drop hv.length).drop vs.length := (List.take_append_drop _ _).symm
  have zz : (hv ++ (vs ++ dvs)).zip ls' = hv.zip (ls'.take hv.length) ++ (vs.zip ((ls'.drop hv.length).take vs.length) ++ dvs.zip ((ls'.drop hv.length).drop vs.length)) := by
    conv => lhs; rw [e0, zip_app hl0]
    congr 1
    conv => lhs; rw [e3, zip_app hl2]
  have e2 : vs.zip (ls'.drop hv.length) = vs.zip ((ls'.drop hv.length).take vs.length) := by
    conv => lhs; rw [e3]
    have := zip_app (ws := []) (ms := (ls'.drop hv.length).drop vs.length) hl2
    simpa using this
  have g6 : Hold X.K F' R H' [] (vs.zip (ls'.drop hv.length) ++ (slotsP σ env1 ++ ((v, r) :: hv.zip (ls'.take hv.length)))) := by
    rw [e2]
    rw [zz] at g5
    refine Hold.dropN (ps := dvs.zip ((ls'.drop hv.length).drop vs.length)) (g5.perm ?_)
    have pm : ∀ (a : V × L) (A B C D : List (V × L)), ((a :: (A ++ (B ++ C))) ++ D).Perm (C ++ (B ++ (D ++ (a :: A)))) := by
      intro a A B C D
      have h1 : ((a :: (A ++ (B ++ C))) ++ D) = (a :: A) ++ ((B ++ C) ++ D) := by simp [List.append_assoc]
      have h2 : C ++ (B ++ (D ++ (a :: A))) = ((C ++ B) ++ D) ++ (a :: A) := by simp [List.append_assoc]
      rw [h1, h2]
      exact List.perm_append_comm.trans (List.Perm.append_right _ (List.Perm.append_right _ List.perm_append_comm))
    exact pm _ _ _ _ _
  have g7 := Hold.restore (ls := ls'.drop hv.length) m1 w1 (by omega) g6
  exact kk r ls' v F' H' q2 s2 le (restore_wf _ m1 w1) (g7.perm List.perm_append_comm)
/-- C(..): the new instance is lent to __init__ -/
def dMake (A : Addr) (C : Con) (dds : List D) (t : DA) : DE := fun env Q => t env fun xs env1 => C (.box (.obj A []) [] :: (xs.map (·.1) ++ dds.map L.fr)) (fun r ls' => r = .fr .non ∧ match ls' with
  | o :: ls => Q o (restore env1 (xs.map (·.2)) ls)
  | [] => False) kF
theorem de_make {A : Addr} {C : Con} {dds : List D} {dvs : List V} {ds : List Value} {t : DA} {k : Nat} {f : Addr} {fd : FuncData} {ps : List Str} {x : Str} {p : Pos}
    (M : Mk X.K A f) (F : FnOk X.prog X.w X.K X.mg X.base (L2.CX X.prog X.w) k f fd ps (spD X.K C)) (hr : Room (k + 1) X.A) (hg : Gl X x) (hm : X.mg x = some (.ref A)) (hb : Binds X.K fd ps ds) (hd : Vals dvs ds) (hD : Reps X.K (fun _ => none) dvs dds)
    (ha : PA X (e :: es) (liftA Y X.K t)) (hdb : (x == ("__debug__" : Str)) = false := by decide) (he : starEach (e :: es) X.env = (false, eval e X.env) :: starEach es X.env := by rfl) (hpl : (backTo pos (starEach es X.env)).any (·.1) = false := by rfl) :
    PE X (.Call (.Name x p) (e :: es) [] pos) (lift Y X.K (dMake A C dds t)) :=
  PE.imp (pe_make M F hr hg hm hb hd passL ha hdb he hpl) fun σ H Q ⟨F, R, env, k, a, q, kk⟩ => by
    refine ⟨F, R, env, _, a, q, fun xs env1 vs F1 H1 q1 s1 w1 m1 g1 x dx hx hdx ne => ?_⟩
    have g2 := Hold.newObj (C := A) g1 hx hdx ne
    refine call_core hD (hv := [.ref x]) (hls := [.box (.obj A []) []]) rfl m1 w1 g2 q1 fun r ls' v F' H' q2 s2 le w2 g3 => ?_
    obtain ⟨e, q2⟩ := q2
    subst e
    refine ⟨g3.head.non_inv, ?_⟩
    match ls', q2, le, w2, g3 with
    | o :: ls, q2, _, w2, g3 => exact kk _ _ (.ref x) F' H' q2 (s1.trans s2) w2 g3.drop
    | [], q2, _, _, _ => exact q2.elim
/-- e.m(..), by value -/
def dMeth (A : Addr) (m : Str) (C : Con) (dds : List D) (td : DE) (t : DA) : DE := fun env Q => td env fun l env0 => match l.toD with
  | .box (.obj A' ns) ds => (A' = A ∧ m ∉ ns) ∧ t env0 fun xs env1 => C (.fr (.box (.obj A' ns) ds) :: (xs.map (·.1) ++ dds.map L.fr)) (fun r ls' => match ls' with
    | _ :: ls => Q r (restore env1 (xs.map (·.2)) ls)
    | [] => False) kF
  | _ => False
theorem lift_meth {A : Addr} {m : Str} {C : Con} {dds : List D} {dvs : List V} {td : DE} {t : DA} {E : XK} (hD : Reps X.K (fun _ => none) dvs dds) {σ : L2.St} {H : Hp} {Q : VK} (h : lift Y X.K (dMeth A m C dds td t) σ H Q) :
    tMeth A m (spD X.K C) dvs E (lift Y X.K td) (liftA Y X.K t) σ H Q := by
  obtain ⟨F, R, env, k, a, q, kk⟩ := h
  refine ⟨F, R, env, _, a, q, fun l env0 v F0 H0 q0 s0 w0 g0 => ?_⟩
  obtain ⟨F2, s2, g2⟩ := g0.frz
  have hr := g2.head
  split at q0
  · rename_i A' ns ds hd
    obtain ⟨⟨e, hm⟩, q0⟩ := q0
    subst e
    rw [hd] at hr
    obtain ⟨p, dx, vs, ev, hp, hl, _, rr⟩ := hr.obj_inv
    refine ⟨p, dx, _, ev, g2.hF _ _ hp, lookup_notin hm, F2, R, env0, _, a.to (s0.trans s2) w0 g2.drop, q0, fun xs env1 vs1 F1 H1 q1 s1 w1 m1 g1 => ?_⟩
    have g3 : Hold X.K F1 R H1 [] ([v].zip [L.fr (.box (.obj A' ns) ds)] ++ (vs1.zip (xs.map (·.1)) ++ slotsP σ env1)) := g1.push (hr.mono s1)
    refine call_core hD (hv := [v]) (hls := [.fr (.box (.obj A' ns) ds)]) rfl m1 w1 g3 q1 fun r ls' u F' H' q2 s3 le w2 g4 => ?_
    match ls', q2, le, w2, g4 with
    | o :: ls, q2, _, w2, g4 => exact kk _ _ u F' H' q2 (((s0.trans s2).trans s1).trans s3) w2 ((g4.perm (List.Perm.swap _ _ _)).drop)
    | [], q2, _, _, _ => exact q2.elim
  · exact q0.elim
theorem de_meth {A : Addr} {m : Str} {C : Con} {dds : List D} {dvs : List V} {ds : List Value} {td : DE} {t : DA} {k : Nat} {f : Addr} {fd : FuncData} {ps : List Str} {pl : Sem Bool}
    (hc : Cls X.K A) (hm : Meth X.K A m f) (F : FnOk X.prog X.w X.K X.mg X.base (L2.CX X.prog X.w) k f fd ps (spD X.K C)) (hr : Room k X.A) (hb : Binds X.K fd ps ds) (hd : Vals dvs ds) (hD : Reps X.K (fun _ => none) dvs dds)
    (ho : PE X o (lift Y X.K td)) (ha : PA X (e :: es) (liftA Y X.K t)) (hst : starEach (e :: es) X.env = (false, eval e X.env) :: starEach es X.env := by rfl) (hpl : (backTo pos (starEach es X.env)).any (·.1) = false := by rfl)
    (ht : eval (.Call (.Attribute o m apos) (e :: es) [] pos) X.env = (do
      let ov ← eval o X.env
      standAt apos.atName
      let (f, first) ← holding [ov] (getMethod ov m pl)
      callWith pos f first (backTo pos (starEach (e :: es) X.env)) (backToKw pos (keywordEach [] X.env))) := by rfl) :
    PE X (.Call (.Attribute o m apos) (e :: es) [] pos) (lift Y X.K (dMeth A m C dds td t)) :=
  PE.imp (pe_meth (pl := pl) ho hc hm F hr hb hd passL ha hst hpl ht) fun _ _ _ h => lift_meth hD h
theorem de_meth0 {A : Addr} {m : Str} {C : Con} {dds : List D} {dvs : List V} {ds : List Value} {td : DE} {k : Nat} {f : Addr} {fd : FuncData} {ps : List Str} {pl : Sem Bool}
    (hc : Cls X.K A) (hm : Meth X.K A m f) (F : FnOk X.prog X.w X.K X.mg X.base (L2.CX X.prog X.w) k f fd ps (spD X.K C)) (hr : Room k X.A) (hb : Binds X.K fd ps ds) (hd : Vals dvs ds) (hD : Reps X.K (fun _ => none) dvs dds)
    (ho : PE X o (lift Y X.K td))
    (ht : eval (.Call (.Attribute o m apos) [] [] pos) X.env = (do
      let ov ← eval o X.env
      standAt apos.atName
      let (f, first) ← holding [ov] (getMethod ov m pl)
      callWith pos f first (backTo pos (starEach [] X.env)) (backToKw pos (keywordEach [] X.env))) := by rfl) :
    PE X (.Call (.Attribute o m apos) [] [] pos) (lift Y X.K (dMeth A m C dds td daNil)) :=
  PE.imp (pe_meth0 (pl := pl) ho hc hm F hr hb hd passL ht) fun σ H Q h => by
    obtain ⟨F, R, env, k, a, q, kk⟩ := lift_meth (E := L2.E0) hD h
    refine ⟨F, R, env, k, a, q, fun l env' v F' H' q' s w g => ?_⟩
    obtain ⟨p, dx, fs, e1, e2, e3, F2, R2, env2, k2, a2, q2, kk2⟩ := kk l env' v F' H' q' s w g
    refine ⟨p, dx, fs, e1, e2, e3, ?_⟩
    exact kk2 [] env2 [] F2 H' q2 (Same.refl _) a2.wf True.intro a2.hold
end
end TL

namespace TL
open PySem PySem.Spec PyProof.Rows L2
/-! ### dicts whose keys are tuples -/
def keyD : D → Option Key
  | .int i => some (.inl i)
  | .str x => some (.inr x)
  | _ => none
def keysD : List D → Option (List Key)
  | [] => some []
  | d :: ds => match keyD d, keysD ds with
    | some k, some ks => some (k :: ks)
    | _, _ => none
def kD : Key → D
  | .inl i => .int i
  | .inr x => .str x
theorem keyD_rep {K : PySem.W.Frag} {F : Hp} {v : V} {d : D} {k : Key} (r : Rep K F v d) (h : keyD d = some k) : v = kV k := by
  cases d <;> simp only [keyD, reduceCtorEq, Option.some.injEq] at h
  · subst h; exact r.int_inv
  · subst h; exact r.str_inv
theorem keysD_reps {K : PySem.W.Frag} {F : Hp} : ∀ {vs : List V} {ds : List D} {ks : List Key}, Reps K F vs ds → keysD ds = some ks → vs = ks.map kV
  | _, _, ks, .nil, h => by simp only [keysD, Option.some.injEq] at h; subst h; rfl
  | _, _, ks, .cons r rr, h => by
    simp only [keysD] at h
    split at h
    · rename_i k ks' h1 h2
      cases h
      rw [keyD_rep r h1, keysD_reps rr h2]; rfl
    · cases h
theorem kD_rep {K : PySem.W.Frag} {F : Hp} : ∀ k : Key, Rep K F (kV k) (kD k)
  | .inl i => .int i
  | .inr x => .str x
theorem kDs_reps {K : PySem.W.Frag} {F : Hp} : ∀ ks : List Key, Reps K F (ks.map kV) (ks.map kD)
  | [] => .nil
  | k :: ks => .cons (kD_rep k) (kDs_reps ks)
def lookK {α : Type} : List (List Key) → List α → List Key → Option α
  | k' :: ks, x :: xs, k => if k' = k then some x else lookK ks xs k
  | _, _, _ => none
theorem lookK_valV : ∀ {ks : List (List Key)} {vs : List V} {k : List Key}, valV (ks.zip vs) k = lookK ks vs k
  | [], _, _ => rfl
  | _ :: _, [], _ => rfl
  | k' :: ks, v :: vs, k => by
    simp only [List.zip_cons_cons, lookK]
    by_cases e : k' = k
    · rw [if_pos e, valV_pos e]
    · rw [if_neg e, valV_neg e]; exact lookK_valV
theorem lookK_map {α β : Type} (f : α → β) : ∀ (ks : List (List Key)) (xs : List α) (k : List Key), lookK ks (xs.map f) k = (lookK ks xs k).map f
  | [], _, _ => rfl
  | _ :: _, [], _ => rfl
  | k' :: ks, x :: xs, k => by
    simp only [List.map_cons, lookK]
    by_cases e : k' = k
    · rw [if_pos e, if_pos e]; rfl
    · rw [if_neg e, if_neg e]; exact lookK_map f ks xs k
/-- what a lookup finds: known for good -/
def LookR (K : PySem.W.Frag) (F : Hp) (o : Option V) (o' : Option D) : Prop := match o, o' with
  | some v, some d => Rep K F v d
  | none, none => True
  | _, _ => False
theorem Reps.look {K : PySem.W.Frag} {F : Hp} : ∀ {ks : List (List Key)} {vs : List V} {ds : List D} (k : List Key), Reps K F vs ds → LookR K F (lookK ks vs k) (lookK ks ds k)
  | [], _, _, _, _ => trivial
  | _ :: _, _, _, _, .nil => trivial
  | k' :: ks, v :: vs, d :: ds, k, .cons r rr => by
    simp only [lookK]
    by_cases e : k' = k
    · rw [if_pos e, if_pos e]; exact r
    · rw [if_neg e, if_neg e]; exact Reps.look k rr
theorem owns_reps {K : PySem.W.Frag} {F H : Hp} : ∀ {vs : List V} {ds : List D} {As : List Addr}, Owns K F H vs (ds.map L.fr) As → Reps K F vs ds
  | _, [], _, .nil => .nil
  | _, d :: ds, _, .cons o r => by
    cases o with | fr q => exact .cons q (owns_reps r)
theorem Rep.dT_inv {K : PySem.W.Frag} {F : Hp} {v : V} {ks : List (List Key)} {ds : List D} (h : Rep K F v (.box (.dT ks) ds)) : ∃ p vs, v = .ref p ∧ F p = some (.dT (ks.zip vs)) ∧ ks.length = vs.length ∧ Reps K F vs ds := by
  cases h with
  | box a b c d => exact ⟨_, _, rfl, a, b, d⟩
/-- a dict that is owned: what stands at it -/
theorem Hold.dT {K : PySem.W.Frag} {F R H : Hp} {Xs : List Addr} {ps : List (V × L)} {v : V} {ks : List (List Key)} {ds : List D} (h : Hold K F R H Xs ((v, .box (.dT ks) (ds.map L.fr)) :: ps)) :
    ∃ p vs, v = .ref p ∧ H p = some (.dT (ks.zip vs)) ∧ ks.length = vs.length ∧ Reps K F vs ds := by
  obtain ⟨As, ow, nd, n⟩ := h.own
  cases ow with
  | cons o1 o2 =>
    cases o1 with
    | @box p dx _ _ As vs e1 e2 e3 r => exact ⟨p, vs, rfl, e1, e2, owns_reps r⟩
/-- the dict in the slot i -/
def dcAt (env : Ev) (i : Nat) (k : List (List Key) → List D → Prop) : Prop := match env[i]? with
  | some (some (.fr (.box (.dT ks) ds))) => k ks ds
  | some (some (.box (.dT ks) ls)) => ∃ ds, ls = ds.map L.fr ∧ k ks ds
  | _ => False
theorem dcAt_hold {Y : Act} {K : PySem.W.Frag} {F R H : Hp} {σ : L2.St} {env : Ev} {i : Nat} {k : List (List Key) → List D → Prop} (w : Wf σ env) (h : Hold K F R H [] (slotsP σ env)) (q : dcAt env i k) :
    ∃ ks ds p vs, k ks ds ∧ σ[i]? = some (some (.ref p)) ∧ H p = some (.dT (ks.zip vs)) ∧ ks.length = vs.length ∧ Reps K F vs ds := by
  unfold dcAt at q
  split at q
  · rename_i ks ds he
    obtain ⟨v, hv⟩ := w.get he
    have g := h.perm (slots_get he hv)
    obtain ⟨p, vs, ev, hp, hl, rr⟩ := g.head.dT_inv
    subst ev
    exact ⟨ks, ds, p, vs, q, hv, h.hF _ _ hp, hl, rr⟩
  · rename_i ks ls he
    obtain ⟨ds, e, q⟩ := q
    subst e
    obtain ⟨v, hv⟩ := w.get he
    have g := h.perm (slots_get he hv)
    obtain ⟨p, vs, ev, hp, hl, rr⟩ := g.dT
    subst ev
    exact ⟨ks, ds, p, vs, q, hv, hp, hl, rr⟩
  · exact q.elim
section
variable {X : Cx} {Y : Act} {e o a b ke de : Expr} {es : List Expr} {pos pos' apos cpos : Pos} {td tk tx tv : DE}
/-- {} -/
def dDict : DE := fun env Q => Q (.box (.dT []) []) env
theorem de_dict : PE X (.Dict [] [] pos) (lift Y X.K dDict) :=
  PE.imp pe_dnewT fun σ H Q ⟨F, R, env, k, a, q, kk⟩ p hp => by
    have := Hold.new (s := .dT []) (qs := []) a.hold hp rfl True.intro rfl
    exact kk _ env (.ref p) F _ q (Same.refl _) a.wf this
/-- x.get(key, default) -/
def dDGet (i : Nat) (tk tx : DE) : DE := fun env Q => dcAt env i (fun _ _ => True) ∧ tk env fun lk env1 => tx env1 fun lx env2 => match lk.toD with
  | .tup kd => ∃ k, keysD kd = some k ∧ dcAt env2 i fun ks ds => Q (.fr ((lookK ks ds k).getD lx.toD)) env2
  | _ => False
theorem de_dget2 {i j : Nat} (hr : Room j X.A) (ho : PE X o (tVar i)) (hk : PE X ke (lift Y X.K tk)) (hx : PE X de (lift Y X.K tx)) (m : M2 X o "get" apos ke de cpos) : PE X (.Call (.Attribute o "get" apos) [ke, de] [] cpos) (lift Y X.K (dDGet i tk tx)) :=
  PE.imp (pe_dget2 (hu_of hr) ho hk hx m) fun σ H Q ⟨F, R, env, k, a, ⟨q0, q⟩, kk⟩ => by
    obtain ⟨ks, ds, p, vs, _, hv, hp, _, _⟩ := dcAt_hold (Y := Y) a.wf a.hold q0
    refine ⟨.ref p, hv, p, rfl, .inr ⟨_, .inl hp⟩, F, R, env, _, a, q, fun lk env1 vk F1 H1 q1 s1 w1 g1 => ?_⟩
    obtain ⟨F2, s2, g2⟩ := g1.frz
    refine ⟨F2, R, env1, _, a.to (s1.trans s2) w1 g2.drop, q1, fun lx env2 vx F3 H3 q3 s3 w3 g3 => ?_⟩
    obtain ⟨F4, s4, g4⟩ := g3.frz
    have hr := (g2.head).mono (s3.trans s4)
    split at q3
    · rename_i kd hkd
      obtain ⟨kk0, hk0, q3⟩ := q3
      rw [hkd] at hr
      obtain ⟨pk, kvs, ek, hpk, rk⟩ := hr.tup_inv
      have ekv := keysD_reps rk hk0
      subst ekv
      obtain ⟨ks, ds, p', vs, q4, hv', hp', hl, rr⟩ := dcAt_hold (Y := Y) w3 g4.drop q3
      rw [hv] at hv'
      cases hv'
      have lk := Reps.look (ks := ks) kk0 rr
      refine ⟨lookK ks vs kk0, .inr ⟨_, kk0, pk, .inl hp', ek, g4.hF _ _ hpk, lookK_valV.symm⟩, ?_⟩
      refine kk _ env2 _ F4 H3 q4 (((s1.trans s2).trans s3).trans s4) w3 (g4.drop.push ?_)
      cases h1 : lookK ks vs kk0 with
      | none =>
        cases h2 : lookK ks ds kk0 with
        | none => exact g4.head
        | some d => rw [h1, h2] at lk; exact lk.elim
      | some v =>
        cases h2 : lookK ks ds kk0 with
        | none => rw [h1, h2] at lk; exact lk.elim
        | some d => rw [h1, h2] at lk; exact lk
    · exact q3.elim
/-- e[key] of a dict -/
def dDIx (td tk : DE) : DE := fun env Q => td env fun ld env1 => tk env1 fun lk env2 => match ld.toD, lk.toD with
  | .box (.dT ks) ds, .tup kd => ∃ k d, keysD kd = some k ∧ lookK ks ds k = some d ∧ Q (.fr d) env2
  | _, _ => False
theorem de_dix {j : Nat} (hr : Room j X.A) (ho : PE X o (lift Y X.K td)) (hk : PE X ke (lift Y X.K tk)) (hs : NoSl ke) : PE X (.Subscript o ke pos) (lift Y X.K (dDIx td tk)) :=
  PE.imp (pe_dget (hu_of hr) ho hk hs) fun σ H Q ⟨F, R, env, k, a, q, kk⟩ => by
    refine ⟨F, R, env, _, a, q, fun ld env1 vd F1 H1 q1 s1 w1 g1 => ?_⟩
    obtain ⟨F2, s2, g2⟩ := g1.frz
    refine ⟨F2, R, env1, _, a.to (s1.trans s2) w1 g2.drop, q1, fun lk env2 vk F3 H3 q3 s3 w3 g3 => ?_⟩
    obtain ⟨F4, s4, g4⟩ := g3.frz
    have hd := (g2.head).mono (s3.trans s4)
    have hr := g4.head
    split at q3
    · rename_i ks ds kd h1 h2
      rw [h1] at hd
      rw [h2] at hr
      obtain ⟨kk0, d, hk0, hlk, q3⟩ := q3
      obtain ⟨pk, kvs, ek, hpk, rk⟩ := hr.tup_inv
      have ekv := keysD_reps rk hk0
      subst ekv
      obtain ⟨p, vs, ev, hp, hl, rr⟩ := hd.dT_inv
      have lk := Reps.look (ks := ks) kk0 rr
      rw [hlk] at lk
      cases hv : lookK ks vs kk0 with
      | none => rw [hv] at lk; exact lk.elim
      | some v =>
        rw [hv] at lk
        exact ⟨p, v, ev, .inr ⟨_, kk0, pk, .inl (g4.hF _ _ hp), ek, g4.hF _ _ hpk, by rw [lookK_valV]; exact hv.symm⟩, kk _ env2 v F4 H3 q3 (((s1.trans s2).trans s3).trans s4) w3 (g4.drop.push lk)⟩
    · exact q3.elim
/-- key in e, a dict -/
def dDIn (tk td : DE) : DE := fun env Q => tk env fun lk env1 => td env1 fun ld env2 => match ld.toD, lk.toD with
  | .box (.dT ks) ds, .tup kd => ∃ k, keysD kd = some k ∧ Q (.fr (.bl (lookK ks ds k).isSome)) env2
  | _, _ => False
def dDNotIn (tk td : DE) : DE := fun env Q => tk env fun lk env1 => td env1 fun ld env2 => match ld.toD, lk.toD with
  | .box (.dT ks) ds, .tup kd => ∃ k, keysD kd = some k ∧ Q (.fr (.bl (!(lookK ks ds k).isSome))) env2
  | _, _ => False
theorem LookR.same {K : PySem.W.Frag} {F : Hp} {o : Option V} {o' : Option D} (h : LookR K F o o') : o.isSome = o'.isSome := by
  cases o <;> cases o' <;> first | rfl | exact h.elim
theorem lift_din {σ : L2.St} {H : Hp} {Q : VK} (h : lift Y X.K (dDIn tk td) σ H Q) : tDIn (lift Y X.K tk) (lift Y X.K td) σ H Q := by
  obtain ⟨F, R, env, k, a, q, kk⟩ := h
  refine ⟨F, R, env, _, a, q, fun lk env1 vk F1 H1 q1 s1 w1 g1 => ?_⟩
  obtain ⟨F2, s2, g2⟩ := g1.frz
  refine ⟨F2, R, env1, _, a.to (s1.trans s2) w1 g2.drop, q1, fun ld env2 vd F3 H3 q3 s3 w3 g3 => ?_⟩
  obtain ⟨F4, s4, g4⟩ := g3.frz
  have hr := (g2.head).mono (s3.trans s4)
  have hd := g4.head
  split at q3
  · rename_i ks ds kd h1 h2
    rw [h1] at hd
    rw [h2] at hr
    obtain ⟨kk0, hk0, q3⟩ := q3
    obtain ⟨pk, kvs, ek, hpk, rk⟩ := hr.tup_inv
    have ekv := keysD_reps rk hk0
    subst ekv
    obtain ⟨p, vs, ev, hp, hl, rr⟩ := hd.dT_inv
    have lk := (Reps.look (ks := ks) kk0 rr).same
    refine ⟨p, lookK ks vs kk0, ev, .inr ⟨_, kk0, pk, .inl (g4.hF _ _ hp), ek, g4.hF _ _ hpk, lookK_valV.symm⟩, ?_⟩
    rw [lk]
    exact kk _ env2 _ F4 H3 q3 (((s1.trans s2).trans s3).trans s4) w3 (g4.drop.push (.bl _))
  · exact q3.elim
theorem lift_dnotin {σ : L2.St} {H : Hp} {Q : VK} (h : lift Y X.K (dDNotIn tk td) σ H Q) : tDNotIn (lift Y X.K tk) (lift Y X.K td) σ H Q := by
  obtain ⟨F, R, env, k, a, q, kk⟩ := h
  refine ⟨F, R, env, _, a, q, fun lk env1 vk F1 H1 q1 s1 w1 g1 => ?_⟩
  obtain ⟨F2, s2, g2⟩ := g1.frz
  refine ⟨F2, R, env1, _, a.to (s1.trans s2) w1 g2.drop, q1, fun ld env2 vd F3 H3 q3 s3 w3 g3 => ?_⟩
  obtain ⟨F4, s4, g4⟩ := g3.frz
  have hr := (g2.head).mono (s3.trans s4)
  have hd := g4.head
  split at q3
  · rename_i ks ds kd h1 h2
    rw [h1] at hd
    rw [h2] at hr
    obtain ⟨kk0, hk0, q3⟩ := q3
    obtain ⟨pk, kvs, ek, hpk, rk⟩ := hr.tup_inv
    have ekv := keysD_reps rk hk0
    subst ekv
    obtain ⟨p, vs, ev, hp, hl, rr⟩ := hd.dT_inv
    have lk := (Reps.look (ks := ks) kk0 rr).same
    refine ⟨p, lookK ks vs kk0, ev, .inr ⟨_, kk0, pk, .inl (g4.hF _ _ hp), ek, g4.hF _ _ hpk, lookK_valV.symm⟩, ?_⟩
    rw [lk]
    exact kk _ env2 _ F4 H3 q3 (((s1.trans s2).trans s3).trans s4) w3 (g4.drop.push (.bl _))
  · exact q3.elim
theorem dt_din {j : Nat} (hr : Room j X.A) (hk : PE X ke (lift Y X.K tk)) (ho : PE X o (lift Y X.K td)) (h1 : behindInMarks .In o = false := by rfl) : PT X (.Compare ke [.In] [o] pos) (liftT Y X.K (dB (dDIn tk td))) :=
  PT.imp (pt_cmp (pc_din (hu_of hr) hk ho) h1) fun σ H Q h => by
    obtain ⟨F, R, env, k, a, q, kk⟩ := h
    refine lift_din (Y := Y) ⟨F, R, env, _, a, q, fun l env' v F' H' ⟨c, e, q'⟩ s w g => ?_⟩
    subst e
    exact ⟨c, g.head.bl_inv, kk c env' F' H' q' s w g.drop⟩
theorem dt_dnotin {j : Nat} (hr : Room j X.A) (hk : PE X ke (lift Y X.K tk)) (ho : PE X o (lift Y X.K td)) (h1 : behindInMarks .NotIn o = false := by rfl) : PT X (.Compare ke [.NotIn] [o] pos) (liftT Y X.K (dB (dDNotIn tk td))) :=
  PT.imp (pt_cmp (pc_dnotin (hu_of hr) hk ho) h1) fun σ H Q h => by
    obtain ⟨F, R, env, k, a, q, kk⟩ := h
    refine lift_dnotin (Y := Y) ⟨F, R, env, _, a, q, fun l env' v F' H' ⟨c, e, q'⟩ s w g => ?_⟩
    subst e
    exact ⟨c, g.head.bl_inv, kk c env' F' H' q' s w g.drop⟩
/-! #### stores -/
def memK (k : List Key) : List (List Key) → Bool
  | [] => false
  | k' :: ks => if k' = k then true else memK k ks
def putDK (ks : List (List Key)) (k : List Key) : List (List Key) := if memK k ks = true then ks else ks ++ [k]
def replK {α : Type} (k : List Key) (x : α) : List (List Key) → List α → List α
  | k' :: ks, y :: ys => (if k' = k then x else y) :: replK k x ks ys
  | _, _ => []
def putDL {α : Type} (ks : List (List Key)) (k : List Key) (x : α) (ls : List α) : List α := if memK k ks = true then replK k x ks ls else ls ++ [x]
theorem replK_len {α : Type} (k : List Key) (x : α) : ∀ (ks : List (List Key)) (ys : List α), ks.length = ys.length → (replK k x ks ys).length = ys.length
  | [], [], _ => rfl
  | _ :: ks, _ :: ys, h => by simp only [replK, List.length_cons]; rw [replK_len k x ks ys (by simpa using h)]
  | [], _ :: _, h => by simp at h
  | _ :: _, [], h => by simp at h
theorem putDL_len {α : Type} {ks : List (List Key)} {k : List Key} {x : α} {ls : List α} (h : ks.length = ls.length) : (putDK ks k).length = (putDL ks k x ls).length := by
  unfold putDK putDL
  by_cases e : memK k ks = true
  · rw [if_pos e, if_pos e, replK_len _ _ _ _ h]; exact h
  · rw [if_neg e, if_neg e]; simp [h]
theorem replK_zip {k : List Key} {v : V} : ∀ {ks : List (List Key)} {vs : List V}, ks.length = vs.length → (ks.zip vs).map (fun kv => if kv.1 = k then (kv.1, v) else kv) = ks.zip (replK k v ks vs)
  | [], [], _ => rfl
  | k' :: ks, u :: vs, h => by
    simp only [List.zip_cons_cons, List.map_cons, replK]
    rw [replK_zip (by simpa using h)]
    by_cases e : k' = k
    · rw [if_pos e, if_pos e]
    · rw [if_neg e, if_neg e]
  | [], _ :: _, h => by simp at h
  | _ :: _, [], h => by simp at h
theorem any_zip {k : List Key} : ∀ {ks : List (List Key)} {vs : List V}, ks.length = vs.length → ((ks.zip vs).any fun kv => decide (kv.1 = k)) = memK k ks
  | [], [], _ => rfl
  | k' :: ks, u :: vs, h => by
    simp only [List.zip_cons_cons, List.any_cons, memK]
    rw [any_zip (by simpa using h)]
    by_cases e : k' = k
    · simp [e]
    · simp [e]
  | [], _ :: _, h => by simp at h
  | _ :: _, [], h => by simp at h
theorem putK_zip {ks : List (List Key)} {vs : List V} {k : List Key} {v : V} (h : ks.length = vs.length) : L2.putK (ks.zip vs) k v = (putDK ks k).zip (putDL ks k v vs) := by
  unfold L2.putK putDK putDL
  rw [any_zip h]
  by_cases e : memK k ks = true
  · rw [if_pos e, if_pos e, if_pos e]; exact replK_zip h
  · rw [if_neg e, if_neg e, if_neg e, List.zip_append h]; rfl
theorem Reps.repl {K : PySem.W.Frag} {F : Hp} {v : V} {d : D} {k : List Key} (r : Rep K F v d) : ∀ {ks : List (List Key)} {vs : List V} {ds : List D}, Reps K F vs ds → Reps K F (replK k v ks vs) (replK k d ks ds)
  | [], _, _, _ => by simp only [replK]; exact .nil
  | _ :: _, _, _, .nil => by simp only [replK]; exact .nil
  | k' :: ks, _, _, .cons h t => by
    simp only [replK]
    refine .cons ?_ (Reps.repl r t)
    by_cases e : k' = k
    · rw [if_pos e, if_pos e]; exact r
    · rw [if_neg e, if_neg e]; exact h
theorem Reps.putD {K : PySem.W.Frag} {F : Hp} {v : V} {d : D} {k : List Key} {ks : List (List Key)} {vs : List V} {ds : List D} (rr : Reps K F vs ds) (r : Rep K F v d) : Reps K F (putDL ks k v vs) (putDL ks k d ds) := by
  unfold putDL
  by_cases e : memK k ks = true
  · rw [if_pos e, if_pos e]; exact Reps.repl r rr
  · rw [if_neg e, if_neg e]; exact rr.append (.cons r .nil)
/-- x[key] = e, x the name of the slot i that owns its dict -/
def dsDPut (i : Nat) (tk tv : DE) : DS := fun De env => tv env fun lv env1 => tk env1 fun lk env2 => match env2[i]?, lk.toD with
  | some (some (.box (.dT ks) ls)), .tup kd => ∃ k ds, keysD kd = some k ∧ ls = ds.map L.fr ∧ ds.length < sizeLine ∧ De.nx (env2.set i (some (.box (.dT (putDK ks k)) ((putDL ks k lv.toD ds).map L.fr))))
  | _, _ => False
theorem slot_pre {i : Nat} {td : DE} {σ : L2.St} {env : Ev} {k : L → Ev → Prop} (hv : ∃ v, σ[i]? = some (some v)) : ∃ v, σ[i]? = some (some v) := hv
theorem ds_dput {i j : Nat} (hr : Room j X.A) (ho : PE X o (tVar i)) (hk : PE X ke (lift Y X.K tk)) (hv : PE X e (lift Y X.K tv)) (hs : swapsWith e (some (.Subscript o ke pos')) pos.line X.env = pure false := by rfl) :
    PS X (.Assign [.Subscript o ke pos'] e pos) (liftS Y X.K fun De env => (∃ l, env[i]? = some (some l)) ∧ dsDPut i tk tv De env) :=
  PS.imp (ps_dput (hu_of hr) ho hk hv hs) fun D σ H ⟨F, R, env, De, a, ⟨⟨l0, h0⟩, q⟩, k⟩ => by
    obtain ⟨v0, hv0⟩ := a.wf.get h0
    refine ⟨F, R, env, _, a, q, fun lv env1 vv F1 H1 q1 s1 w1 g1 => ?_⟩
    obtain ⟨F2, s2, g2⟩ := g1.frz
    refine ⟨v0, hv0, F2, R, env1, _, a.to (s1.trans s2) w1 g2.drop, q1, fun lk env2 vk F3 H3 q3 s3 w3 g3 => ?_⟩
    obtain ⟨F4, s4, g4⟩ := g3.frz
    have rv := (g2.head).mono (s3.trans s4)
    have hr := g4.head
    split at q3
    · rename_i ks ls kd hev h2
      rw [h2] at hr
      obtain ⟨kk0, ds, hk0, el, hlen, q3⟩ := q3
      subst el
      obtain ⟨pk, kvs, ek, hpk, rk⟩ := hr.tup_inv
      have ekv := keysD_reps rk hk0
      subst ekv
      obtain ⟨u, hu⟩ := w3.get hev
      have g5 := g4.drop.perm (slots_get hev hu)
      have g5d := g5.dT
      obtain ⟨p, vs, eu, hp, hl, rr⟩ := g5d
      subst eu
      rw [hv0] at hu
      cases hu
      obtain ⟨p', dx, vs', ev', e1, e2, e3, el, g6⟩ := g5.open
      cases ev'
      rw [hp] at e1
      have e1 : HO.dT (ks.zip vs) = HO.dT (ks.zip vs') := Option.some.inj e1
      have hds : vs.length = ds.length := rr.length
      have g7 := Hold.pushs (rr.putD (k := kk0) (ks := ks) rv) (Hold.dropN (ps := vs'.zip (ds.map L.fr)) g6)
      have hq : (putDL ks kk0 vv vs).length = ((putDL ks kk0 lv.toD ds).map L.fr).length := by rw [(rr.putD (k := kk0) (ks := ks) rv).length, List.length_map]
      have g8 := Hold.closeW (s := .dT ks) (s' := .dT (putDK ks kk0)) g7 (by
        show (putDK ks kk0).length = _
        rw [List.length_zip, ← hq, Nat.min_self]; exact putDL_len hl) e3 rfl rfl
      rw [map_zip1 hq, map_zip2 hq] at g8
      refine ⟨p, _, rfl, .inr ⟨_, kk0, pk, hp, ek, g4.hF _ _ hpk, by rw [List.length_zip, hl, Nat.min_self, hds]; exact hlen, rfl⟩, ?_⟩
      rw [putK_zip hl]
      have hi : i < env2.length := (List.getElem?_eq_some_iff.mp hev).1
      exact k.nx _ _ _ _ q3 (((s1.trans s2).trans s3).trans s4) (a.to (((s1.trans s2).trans s3).trans s4) (w3.setL hv0) (g8.perm (slots_put hv0 hi).symm))
    · exact q3.elim
end
end TL

namespace TL
open PySem PySem.Spec PyProof.Rows L2
/-! ### enumerate of a tuple -/
set_option maxHeartbeats 4000000 in
theorem meets_enum1 {v : Value} {o : Obj} {H : Heap → Prop} (B : Begins v o H) :
    Meets (Builtin.«enumerate.__new__» ⟨[.type "enumerate", v], []⟩) (fun _ R s => H s.heap ∧
      R (.ok (.ret (.ref (s.heap.push o).objs.size))) { s with heap := (s.heap.push o).push { cls := .type "enumerate", data := .fields #[.none, .bool false, .ref s.heap.objs.size, rawInt 0, .none, .none] } }) :=
  .of_wp fun prog w A R s h => by
    obtain ⟨hp, g, d, tk, os⟩ := s; obtain ⟨h1, h⟩ := h
    have hsub := sub_enumerate
    have q1 : ∀ {A' : Around} {E : Value → Shared → Prop} {Q : Value → Shared → Prop}, Q (.ref hp.objs.size) ⟨hp.push o, g, d, tk, os⟩ → wpAny (model prog w) A' (pyIter v) Q E ⟨hp, g, d, tk, os⟩ :=
      fun q => B.iter prog w _ _ ⟨hp, g, d, tk, os⟩ _ h1 q
    wp_walk using q1
    refine wpAny_stack_any fun st => wpAny_pure ?_
    split
    · rename_i c _ _ _ _ _
      cases (c == Value.type "enumerate")
      · wp_walk using q1
        exact ⟨_, rfl, h⟩
      · wp_walk using q1
        exact ⟨_, rfl, h⟩
    · wp_walk using q1
      exact ⟨_, rfl, h⟩
theorem call_enum1 {prog : Program} {w : World} {A : Around} {E : Value → Shared → Prop} {s : Shared} {v : Value} {o : Obj} {H : Heap → Prop} {Q : Value → Shared → Prop} (B : Begins v o H) (h1 : H s.heap)
    (h : ∀ h', IsEnum h' (s.heap.objs.size + 1) s.heap.objs.size 0 .none → h'.get? s.heap.objs.size = some o → h'.objs.size = s.heap.objs.size + 2 →
      (∀ b o, s.heap.get? b = some o → h'.get? b = some o) → Q (.ref (s.heap.objs.size + 1)) { s with heap := h' }) :
    wpAny (model prog w) A (call (.type "enumerate") [v]) Q E s := by
  refine callType_new F.called_enumerate (by decide) (F.typeCall_enumerate_1 _) (F.newCall_enumerate_1 _) (fun obj => F.args_object_init_2 obj _) F.entry_enumerate_new (meets_enum1 B) ⟨h1, ?_⟩
  have hz : (s.heap.push o).objs.size = s.heap.objs.size + 1 := Heap.size_push ..
  show _ ∧ _
  rw [hz]
  have he : IsEnum ((s.heap.push o).push { cls := .type "enumerate", data := .fields #[.none, .bool false, .ref s.heap.objs.size, rawInt 0, .none, .none] }) (s.heap.objs.size + 1) s.heap.objs.size 0 .none := by
    have := Heap.get?_push_size (s.heap.push o) (o := { cls := .type "enumerate", data := .fields #[.none, .bool false, .ref s.heap.objs.size, rawInt 0, .none, .none] }) rfl
    rw [hz] at this; exact this
  refine ⟨⟨_, he, rfl⟩, h _ he (Heap.get?_push_of_some _ (Heap.get?_push_size _ B.free)) (by rw [Heap.size_push, hz]) fun b o x => Heap.get?_push_of_some _ (Heap.get?_push_of_some _ x)⟩
/-- the tuple at a, each item in a new pair -/
def Itet (K : PySem.W.Frag) (a : Addr) : It :=
  ⟨fun i H => ∃ (xs : List V) (x : V), SqT K H a xs ∧ xs[i]? = some x, fun i H v H' => ∃ T x, v = .ref T ∧ H T = none ∧ H' = upd H T (.tup [.int (i : Nat), x]) ∧ ∀ xs, SqT K H a xs → xs[i]? = some x, fun i H => ∃ xs : List V, SqT K H a xs ∧ xs.length = i⟩
theorem turn_enumT {P : Program} {w : World} {K : PySem.W.Frag} {elts : List Expr} {kk : Nat} {tpos : Pos} (a e it : Addr) (hai : a ≠ it) (hae : a ≠ e) :
    Turn P w K (.Tuple elts kk tpos) (Itet K a) [e, it] e (fun i h => (∃ old, IsEnum h e it ((i : Nat) : Int) old) ∧ h.IsTupleIter it a i ∧ e ≠ it) where
  mem := by simp
  obj := fun i h st b hb => by
    obtain ⟨⟨old, he⟩, ⟨o, ho, hc, hd⟩, _⟩ := st
    have e' : b = e ∨ b = it := by simpa using hb
    rcases e' with z | z
    · rw [z]; exact ⟨_, he, fun v q => nomatch q⟩
    · rw [z]; exact ⟨o, ho, fun v q => by rw [hd] at q; cases q⟩
  keep := fun i h h' st k => let ⟨⟨old, he⟩, hi, hne⟩ := st; ⟨⟨old, k e (by simp) _ he⟩, hi.at fun o q => k it (by simp) o q, hne⟩
  item := by
    intro X hP hw hK hc i pins s σ H E I hf st hg
    subst hP hw hK
    obtain ⟨⟨old, he⟩, hit, hne⟩ := st
    obtain ⟨xs, x, hq, hx⟩ := hg
    obtain ⟨its, rv, p, hz⟩ := I.tuple hq
    obtain ⟨u, hu, ru⟩ := rv.get hx
    have hel : e < s.heap.objs.size := Heap.lt_size he
    have hil : it < s.heap.objs.size := by obtain ⟨_, q, _⟩ := hit; exact Heap.lt_size q
    have hi : i < its.toArray.size := by simpa using (List.getElem?_eq_some_iff.mp hu).1
    refine wpAny_pyNext_enum_itemD (Draws.tuple (A := X.A.in1) (I.ok.hd hc) it a hai its.toArray) he ⟨hit, p⟩ hi hne (by simp [hne, Ne.symm hae]) fun x0 h' tk hP ho hst' hT hsz hk => ?_
    have ex : x0 = u := by
      have h1 : its.toArray[i]? = some x0 := hP
      rw [List.getElem?_toArray, hu] at h1
      exact (Option.some.inj h1).symm
    subst ex
    refine ⟨_, rfl, wpAny_letOwnedTupleGo_enum (s := { s with heap := h', toks := tk + 1 }) ho fun h'' he' sb => ?_⟩
    have hT2 : h''.get? s.heap.objs.size = some { cls := .type "tuple", data := .seq #[.int i tk, x0] } := (sb.2 _ (Nat.ne_of_gt hel)).trans hT
    have new : ObjOk X.prog X.w (upd H s.heap.objs.size (.tup [.int (i : Nat), x])) h'' s.heap.objs.size (.tup [.int (i : Nat), x]) :=
      ⟨by show 2 ≤ sizeLine; decide, [.int i tk, x0], .cons ⟨_, rfl⟩ (.cons ru .nil), ⟨_, hT2, rfl, _, rfl⟩⟩
    have I1 : Inv X pins σ (upd H s.heap.objs.size (.tup [.int (i : Nat), x])) { s with heap := h'', toks := tk + 1 } :=
      I.turnedNew (ch := [e, it]) (fun b ob hb q => (sb.2 b (fun z => hb (by simp [z]))).trans (hk b ob (fun z => hb (by simp [z])) (fun z => hb (by simp [z])) q)) hf (Nat.le_refl _) new
    refine ⟨.ref s.heap.objs.size, _, I1, rfl, ⟨_, x, rfl, I.hok.fresh (Nat.le_refl _), rfl, fun ys hy => by rw [I.tuple_inj hy hq]; exact hx⟩, ⟨⟨x0, ?_⟩, hst'.1.at fun o q => (sb.2 it (Ne.symm hne)).trans q, hne⟩, fun b hb => ?_⟩
    · have e1 : ((i + 1 : Nat) : Int) = (i : Int) + 1 := by omega
      rw [e1]; exact he'
    · have hb' : b < s.heap.objs.size := by
        have e' : b = e ∨ b = it := by simpa using hb
        rcases e' with z | z
        · rw [z]; exact hel
        · rw [z]; exact hil
      rw [upd_ne (Nat.ne_of_lt hb')]
      exact (hf b hb).1
  done := by
    intro X hP hw hK hc i pins s σ H E I hf st hg
    subst hP hw hK
    obtain ⟨⟨old, he⟩, hit, hne⟩ := st
    obtain ⟨xs, hq, hx⟩ := hg
    obtain ⟨its, rv, p, hz⟩ := I.tuple hq
    obtain ⟨f0, f1, f2, f3, f4, f5⟩ := hf it (by simp)
    have hl := rv.length
    have hn : i = its.toArray.size := by simp; omega
    have hit' : s.heap.IsTupleIter it a its.toArray.size := hn ▸ hit
    exact wpAny_pyNext_enum_endD (Draws.tuple (A := X.A.in1) (I.ok.hd hc) it a hai its.toArray) he ⟨hit', p⟩ fun h' eb => ⟨rfl, I.turned (t' := s.toks) (fun b o hb q => eb b o hb q) f0 f1 f3 f4 f5⟩
  self := fun A i s Q E st h => let ⟨⟨_, he⟩, _⟩ := st; wpAny_pyIter_enum he h
def iEnumT (K : PySem.W.Frag) (ta : TA) : TI := fun σ H R => ta σ H fun vs H1 => ∃ a xs, vs = [.ref a] ∧ ((SqL K H1 a xs ∧ R (Ite K a) H1) ∨ (SqT K H1 a xs ∧ R (Itet K a) H1))
theorem pi_enumT {X : Cx} {e : Expr} {ta : TA} {p pos tpos : Pos} {elts : List Expr} {kk : Nat} (hg : Gl X "enumerate") (hm : X.mg "enumerate" = none) (ha : PA X [e] ta) (hs : starEach [e] X.env = [(false, eval e X.env)] := by rfl) :
    PI X (.Tuple elts kk tpos) (.Call (.Name "enumerate" p) [e] [] pos) (iEnumT X.K ta) := by
  refine ⟨fun pins s σ H R I h => ?_⟩
  refine Call_ (ld_blt I hg hm boot_enumerate (PyProof.Rows.callWith_type1 (thn (ha.run pos pins s σ H _ I h) fun us s1 ⟨vs, H1, I1, r1, q1⟩ => ?_) hs rfl))
  obtain ⟨a, xs, ex, q1⟩ := q1
  subst ex
  cases r1 with
  | cons r rr =>
    cases rr
    cases r
    rcases q1 with ⟨hq, q⟩ | ⟨hq, q⟩
    · obtain ⟨its, rv, p', hz⟩ := I1.list hq
      refine call_enumerate_list p'.isList fun h' he hit hsz hk => wpAny_pyIter_enum he ?_
      have I2 : Inv X pins σ H1 { s1 with heap := h' } := I1.kept (t' := s1.toks) hk
      refine ⟨s1.heap.objs.size + 1, [s1.heap.objs.size + 1, s1.heap.objs.size], _, _, H1, rfl, I2, turn_enum a (s1.heap.objs.size + 1) s1.heap.objs.size, ⟨⟨.none, he⟩, hit, Nat.succ_ne_self _⟩, fun b hb => ?_, q⟩
      have e' : b = s1.heap.objs.size + 1 ∨ b = s1.heap.objs.size := by simpa using hb
      have hle : s1.heap.objs.size ≤ b := by
        rcases e' with z | z
        · rw [z]; exact Nat.le_add_right _ _
        · rw [z]; exact Nat.le_refl _
      exact I1.fpOk hle (I1.hok.fresh hle)
    · obtain ⟨its, rv, p', hz⟩ := I1.tuple hq
      have hlt : a < s1.heap.objs.size := by obtain ⟨o, ho, _⟩ := p'; exact Heap.lt_size ho
      refine call_enum1 (begins_tuple a its.toArray) p' fun h' he hob hsz hk => wpAny_pyIter_enum he ?_
      have I2 : Inv X pins σ H1 { s1 with heap := h' } := I1.kept (t' := s1.toks) hk
      have hit : h'.IsTupleIter s1.heap.objs.size a 0 := ⟨_, hob, rfl, rfl⟩
      refine ⟨s1.heap.objs.size + 1, [s1.heap.objs.size + 1, s1.heap.objs.size], _, _, H1, rfl, I2, turn_enumT a (s1.heap.objs.size + 1) s1.heap.objs.size (Nat.ne_of_lt hlt) (Nat.ne_of_lt (Nat.lt_succ_of_lt hlt)), ⟨⟨.none, he⟩, hit, Nat.succ_ne_self _⟩, fun b hb => ?_, q⟩
      have e' : b = s1.heap.objs.size + 1 ∨ b = s1.heap.objs.size := by simpa using hb
      have hle : s1.heap.objs.size ≤ b := by
        rcases e' with z | z
        · rw [z]; exact Nat.le_add_right _ _
        · rw [z]; exact Nat.le_refl _
      exact I1.fpOk hle (I1.hok.fresh hle)
/-! ### enumerate, zip over trees -/
def pairsE : Nat → List D → List D
  | _, [] => []
  | i, d :: ds => .tup [.int (i : Nat), d] :: pairsE (i + 1) ds
theorem pairsE_len : ∀ (i : Nat) (ds : List D), (pairsE i ds).length = ds.length
  | _, [] => rfl
  | i, d :: ds => by simp [pairsE, pairsE_len (i + 1) ds]
theorem pairsE_get : ∀ (i j : Nat) (ds : List D), (pairsE i ds)[j]? = (ds[j]?).map fun d => .tup [.int ((i + j : Nat) : Int), d]
  | _, _, [] => by simp [pairsE]
  | i, 0, d :: ds => by simp [pairsE]
  | i, j + 1, d :: ds => by
    simp only [pairsE, List.getElem?_cons_succ]
    rw [pairsE_get (i + 1) j ds]
    have : i + 1 + j = i + (j + 1) := by omega
    rw [this]
section
variable {K : PySem.W.Frag} {F R0 : Hp} {p p2 : Addr} {vs vs2 : List V} {ds ds2 : List D}
/-- a pair that is laid -/
theorem pair_known {R H : Hp} {ps : List (V × L)} {T : Addr} {x y : V} {a b : D} (g : Hold K F R H [] ps) (n : H T = none) (rx : Rep K F x a) (ry : Rep K F y b) :
    ∃ F3, Same F F3 ∧ Hold K F3 R (upd H T (.tup [x, y])) [] ps ∧ Rep K F3 (.ref T) (.tup [a, b]) := by
  obtain ⟨s, g2⟩ := g.known (o := .tup [x, y]) n
  exact ⟨_, s, g2, .tup upd_same (.cons (rx.mono s) (.cons (ry.mono s) .nil))⟩
theorem walkE (h : SqL K F p vs) (r : Reps K F vs ds) : WalkD K F R0 (Ite K p) (pairsE 0 ds) where
  goes := fun i F' H hi s s' _ => by
    rw [pairsE_len] at hi
    obtain ⟨v, hv⟩ := r.some hi
    exact ⟨vs, v, (s.trans s').seq h, hv⟩
  stops := fun F' H s s' _ => ⟨vs, (s.trans s').seq h, by rw [r.length, pairsE_len]; exact Nat.le_refl _⟩
  yields := fun i x H H' F' R ps d ⟨T, u, e1, n, e2, y⟩ hd s g => by
    subst e1; subst e2
    rw [pairsE_get] at hd
    obtain ⟨d0, h0, ed⟩ := Option.map_eq_some_iff.mp hd
    subst ed
    rw [Nat.zero_add]
    exact pair_known g n (.int _) ((r.get (y vs ((s.trans g.hF).seq h)) h0).mono s)
theorem walkET (h : SqT K F p vs) (r : Reps K F vs ds) : WalkD K F R0 (Itet K p) (pairsE 0 ds) where
  goes := fun i F' H hi s s' _ => by
    rw [pairsE_len] at hi
    obtain ⟨v, hv⟩ := r.some hi
    exact ⟨vs, v, Same.seqT (s.trans s') h, hv⟩
  stops := fun F' H s s' _ => ⟨vs, Same.seqT (s.trans s') h, by rw [r.length, pairsE_len]⟩
  yields := fun i x H H' F' R ps d ⟨T, u, e1, n, e2, y⟩ hd s g => by
    subst e1; subst e2
    rw [pairsE_get] at hd
    obtain ⟨d0, h0, ed⟩ := Option.map_eq_some_iff.mp hd
    subst ed
    rw [Nat.zero_add]
    exact pair_known g n (.int _) ((r.get (y vs (Same.seqT (s.trans g.hF) h)) h0).mono s)
def pairsZ : List D → List D → List D
  | a :: as, b :: bs => .tup [a, b] :: pairsZ as bs
  | _, _ => []
theorem pairsZ_len : ∀ (as bs : List D), (pairsZ as bs).length = min as.length bs.length
  | [], _ => by simp [pairsZ]
  | _ :: _, [] => by simp [pairsZ]
  | a :: as, b :: bs => by simp only [pairsZ, List.length_cons, pairsZ_len as bs]; omega
theorem pairsZ_get : ∀ (j : Nat) (as bs : List D) (d : D), (pairsZ as bs)[j]? = some d → ∃ a b, as[j]? = some a ∧ bs[j]? = some b ∧ d = .tup [a, b]
  | _, [], _, _, h => by simp [pairsZ] at h
  | _, _ :: _, [], _, h => by simp [pairsZ] at h
  | 0, a :: as, b :: bs, d, h => by simp [pairsZ] at h; exact ⟨a, b, rfl, rfl, h.symm⟩
  | j + 1, a :: as, b :: bs, d, h => by
    simp only [pairsZ, List.getElem?_cons_succ] at h ⊢
    exact pairsZ_get j as bs d h
theorem walkZ (h : SqL K F p vs) (r : Reps K F vs ds) (h2 : SqL K F p2 vs2) (r2 : Reps K F vs2 ds2) : WalkD K F R0 (Itz K p p2) (pairsZ ds ds2) where
  goes := fun i F' H hi s s' _ => by
    rw [pairsZ_len] at hi
    obtain ⟨v, hv⟩ := r.some (i := i) (by omega)
    obtain ⟨u, hu⟩ := r2.some (i := i) (by omega)
    exact ⟨vs, vs2, v, u, (s.trans s').seq h, (s.trans s').seq h2, hv, hu⟩
  stops := fun F' H s s' _ => ⟨vs, vs2, (s.trans s').seq h, (s.trans s').seq h2, by rw [r.length, r2.length, pairsZ_len]; omega⟩
  yields := fun i x H H' F' R ps d ⟨T, u, w, e1, n, e2, y, y2⟩ hd s g => by
    subst e1; subst e2
    obtain ⟨a, b, ha, hb, ed⟩ := pairsZ_get i ds ds2 d hd
    subst ed
    exact pair_known g n ((r.get (y vs ((s.trans g.hF).seq h)) ha).mono s) ((r2.get (y2 vs2 ((s.trans g.hF).seq h2)) hb).mono s)
end
section
variable {X : Cx} {Y : Act} {e a b : Expr} {pos tpos : Pos} {elts : List Expr} {kk : Nat}
def diEnum (t : DA) : DI := fun env Q => t env fun xs env1 => match xs with
  | [(.fr (.box .lst ds), _)] => Q (pairsE 0 ds) env1
  | [(.fr (.tup ds), _)] => Q (pairsE 0 ds) env1
  | _ => False
theorem di_enum {t : DA} {p : Pos} (hg : Gl X "enumerate") (hm : X.mg "enumerate" = none) (ha : PA X [a] (liftA Y X.K t)) (hs : starEach [a] X.env = [(false, eval a X.env)] := by rfl) : PI X (.Tuple elts kk tpos) (.Call (.Name "enumerate" p) [a] [] pos) (liftI Y X.K (diEnum t)) :=
  PI.imp (pi_enumT hg hm ha hs) fun σ H Q ⟨F, R, env, k, a, q, kk⟩ => by
    refine ⟨F, R, env, _, a, q, fun xs env1 vs F1 H1 q1 s1 w1 m1 g1 => ?_⟩
    split at q1
    · rename_i ds o
      match vs, m1 with
      | [v], m =>
        have g : Hold X.K F1 R H1 [] ((v, .fr (.box .lst ds)) :: slotsP σ env1) := g1
        obtain ⟨p, us, ev, hp, rr⟩ := g.head.lst_inv
        exact ⟨p, us, by rw [ev], .inl ⟨g.hF.seq (SqL.of hp), kk _ _ F1 H1 _ q1 s1 w1 g.drop (walkE (SqL.of hp) rr)⟩⟩
    · rename_i ds o
      match vs, m1 with
      | [v], m =>
        have g : Hold X.K F1 R H1 [] ((v, .fr (.tup ds)) :: slotsP σ env1) := g1
        obtain ⟨p, us, ev, hp, rr⟩ := g.head.tup_inv
        exact ⟨p, us, by rw [ev], .inr ⟨Same.seqT g.hF hp.sq, kk _ _ F1 H1 _ q1 s1 w1 g.drop (walkET hp.sq rr)⟩⟩
    · exact q1.elim
def diZip (t : DA) : DI := fun env Q => t env fun xs env1 => match xs with
  | [(.fr (.box .lst ds), _), (.fr (.box .lst es), _)] => Q (pairsZ ds es) env1
  | _ => False
theorem di_zip {t : DA} {p : Pos} (hg : Gl X "zip") (hm : X.mg "zip" = none) (ha : PA X [a, b] (liftA Y X.K t)) (hs : starEach [a, b] X.env = (false, eval a X.env) :: starEach [b] X.env := by rfl) (hpl : (backTo pos (starEach [b] X.env)).any (·.1) = false := by rfl) :
    PI X (.Tuple elts kk tpos) (.Call (.Name "zip" p) [a, b] [] pos) (liftI Y X.K (diZip t)) :=
  PI.imp (pi_zip hg hm ha hs hpl) fun σ H Q ⟨F, R, env, k, a, q, kk⟩ => by
    refine ⟨F, R, env, _, a, q, fun xs env1 vs F1 H1 q1 s1 w1 m1 g1 => ?_⟩
    split at q1
    · rename_i ds o es o'
      match vs, m1 with
      | [v, u], m =>
        have g : Hold X.K F1 R H1 [] ((v, .fr (.box .lst ds)) :: (u, .fr (.box .lst es)) :: slotsP σ env1) := g1
        obtain ⟨p, us, ev, hp, rr⟩ := g.head.lst_inv
        obtain ⟨p2, us2, ev2, hp2, rr2⟩ := g.drop.head.lst_inv
        exact ⟨p, p2, us, us2, by rw [ev, ev2], g.hF.seq (SqL.of hp), g.hF.seq (SqL.of hp2), kk _ _ F1 H1 _ q1 s1 w1 g.drop.drop (walkZ (SqL.of hp) rr (SqL.of hp2) rr2)⟩
    · exact q1.elim
end
end TL

namespace TL
open PySem PySem.Spec PyProof.Rows L2
/-! ### rules that turn a transformer at written slots into what is to be shown: continuations have names, so that nothing is turned twice -/
theorem ofStr_inj {a b : String} : Str.ofString a = Str.ofString b ↔ a = b := by
  constructor
  · intro h
    rw [Str.ofString_eq_toList, Str.ofString_eq_toList, Str.mk.injEq] at h
    have h := congrArg Array.toList h
    have mi : ∀ {a b : List Char}, a.map Char.toNat = b.map Char.toNat → a = b := by
      intro a
      induction a with
      | nil => intro b h; cases b with
        | nil => rfl
        | cons => simp at h
      | cons x a ih => intro b h; cases b with
        | nil => simp at h
        | cons y b =>
          simp only [List.map_cons, List.cons.injEq] at h
          rw [Char.toNat_inj.mp h.1, ih h.2]
    exact String.toList_inj.mp (mi (by simpa using h))
  · rintro rfl; rfl
theorem r_ofStr {a b : String} : (Str.ofString a = Str.ofString b) = (a = b) := propext ofStr_inj
theorem r_ofStrB {a b : String} : (Str.ofString a == Str.ofString b) = (a == b) := by
  by_cases h : a = b
  · subst h; simp
  · rw [beq_eq_false_iff_ne.mpr h, beq_eq_false_iff_ne.mpr (fun e => h (ofStr_inj.mp e))]
section
variable {n bk ct N : Ev → Prop} {r rt : L → Ev → Prop} {t u : DS} {c tt : DT} {ta tb tc te : DE} {ra : DA} {g : DG} {gs : DGs} {f f' : Op2} {i j : Nat} {l m : L} {o : Option L} {e env : Ev} {Q : L → Ev → Prop} {De : DEnds}
/-! #### slots -/
def consN (o : Option L) (n : Ev → Prop) : Ev → Prop := fun e => n (o :: e)
theorem r_consN : consN o n e = n (o :: e) := rfl
def consK (o : Option L) (Q : L → Ev → Prop) : L → Ev → Prop := fun l e => Q l (o :: e)
theorem r_consK : consK o Q l e = Q l (o :: e) := rfl
def setK (i : Nat) (n : Ev → Prop) (l : L) (e : Ev) : Prop := n (e.set i (some l))
theorem r_set0 : setK 0 n l (o :: e) = n (some l :: e) := rfl
theorem r_setS : setK (i + 1) n l (o :: e) = setK i (consN o n) l e := rfl
def isSl (i : Nat) (e : Ev) : Prop := (slotL e i).isSome = true
theorem r_isSl0 : isSl 0 (some l :: e) = True := by simp [isSl, slotL]
theorem r_isSlS : isSl (i + 1) (o :: e) = isSl i e := by simp [isSl, slotL]
def takeK (i : Nat) (Q : L → Ev → Prop) (e : Ev) : Prop := dTake i e Q
theorem r_take0 : takeK 0 Q (some l :: e) = Q l (none :: e) := rfl
theorem r_takeS : takeK (i + 1) Q (o :: e) = takeK i (consK o Q) e := by simp [takeK, dTake, consK]
theorem r_dTake : dTake i e Q = takeK i Q e := rfl
def peekK (i : Nat) (k : L → Prop) (e : Ev) : Prop := match e[i]? with
  | some (some l) => k l
  | _ => False
theorem r_peek0 {k : L → Prop} : peekK 0 k (some l :: e) = k l := rfl
theorem r_peekS {k : L → Prop} : peekK (i + 1) k (o :: e) = peekK i k e := by simp [peekK]
theorem r_dVar0 : dVar 0 (some l :: e) Q = Q (.fr l.toD) (some (.fr l.toD) :: e) := by
  cases l with
  | fr d => simp [dVar, L.toD]
  | box s ls => simp [dVar]
theorem r_dVarS : dVar (i + 1) (o :: e) Q = dVar i e (consK o Q) := by
  unfold dVar
  simp only [List.getElem?_cons_succ, List.set_cons_succ]
  cases h : e[i]? with
  | none => rfl
  | some x => cases x with
    | none => rfl
    | some l => cases l <;> rfl
/-! #### blocks -/
def seqK (u : DS) (n : Ev → Prop) (r : L → Ev → Prop) (bk ct : Ev → Prop) : Ev → Prop := fun e => u ⟨n, r, bk, ct⟩ e
theorem r_seqK : seqK u n rt bk ct e = u ⟨n, rt, bk, ct⟩ e := rfl
theorem r_seq : dsSeq t u ⟨n, rt, bk, ct⟩ e = t ⟨seqK u n rt bk ct, rt, bk, ct⟩ e := rfl
theorem r_next : dsNext ⟨n, rt, bk, ct⟩ e = n e := rfl
def exprK (n : Ev → Prop) : L → Ev → Prop := fun _ e => n e
theorem r_exprK : exprK n l e = n e := rfl
theorem r_expr : dsExpr ta ⟨n, rt, bk, ct⟩ e = ta e (exprK n) := rfl
theorem r_ret : dsRet ta ⟨n, rt, bk, ct⟩ e = ta e rt := rfl
theorem r_retN : dsRetN ⟨n, rt, bk, ct⟩ e = rt (.fr .non) e := rfl
def ifK (t u : DS) (De : DEnds) : Bool → Ev → Prop := fun b e => if b = true then t De e else u De e
theorem r_ifK {b : Bool} : ifK t u De b e = if b = true then t De e else u De e := rfl
theorem r_if : dsIf c t u De e = c e (ifK t u De) := rfl
theorem r_dsSet : dsSet i ta ⟨n, rt, bk, ct⟩ e = ta e (setK i n) := rfl
theorem r_gName : dgName i l e n = setK i n l e := rfl
def asgK (g : DG) (n : Ev → Prop) : L → Ev → Prop := fun l e => g l e n
theorem r_asgK : asgK g n l e = g l e n := rfl
theorem r_asg : dsAsg ta g ⟨n, rt, bk, ct⟩ e = ta e (asgK g n) := rfl
theorem r_gTup {k : Nat} {ds : List D} : dgTup k gs (.fr (.tup ds)) e n = (ds.length = k ∧ gs (ds.map L.fr) e n) := by simp [dgTup, L.toD]
def gsK (gs : DGs) (ls : List L) (n : Ev → Prop) : Ev → Prop := fun e => gs ls e n
theorem r_gsK {ls : List L} : gsK gs ls n e = gs ls e n := rfl
theorem r_gsCons {ls : List L} : dgsCons g gs (l :: ls) e n = g l e (gsK gs ls n) := rfl
theorem r_gsNil : dgsNil [] e n = n e := by simp [dgsNil]
theorem r_gStar {k : Nat} {ds : List D} : dgStar k i gs (.fr (.tup ds)) e n = (k ≤ ds.length + 1 ∧ ds.length ≤ 16384 ∧ gs ((ds.take i).map L.fr ++ [.lst (((ds.drop i).take (ds.length + 1 - k)).map L.fr)] ++ ((ds.drop i).drop (ds.length + 1 - k)).map L.fr) e n) := by
  simp [dgStar, L.toD]
def putK (ls : List L) (j : Int) (l : L) (k : List L → Prop) : Prop := ∃ n, ixN ls.length j = some n ∧ k (ls.set n l)
theorem r_put0 {a : L} {ls : List L} {k : List L → Prop} : putK (a :: ls) 0 l k = k (l :: ls) := by simp [putK, ixN]
theorem r_put1 {a b : L} {ls : List L} {k : List L → Prop} : putK (a :: b :: ls) 1 l k = k (a :: l :: ls) := by
  have := ixN_1 a b ls
  simp only [putK, this]; simp
theorem r_put2 {a b c : L} {ls : List L} {k : List L → Prop} : putK (a :: b :: c :: ls) 2 l k = k (a :: b :: l :: ls) := by
  have := ixN_2 a b c ls
  simp only [putK, this]; simp
theorem r_put3 {a b c d : L} {ls : List L} {k : List L → Prop} : putK (a :: b :: c :: d :: ls) 3 l k = k (a :: b :: c :: l :: ls) := by
  have := ixN_3 a b c d ls
  simp only [putK, this]; simp
theorem r_put4 {a b c d x : L} {ls : List L} {k : List L → Prop} : putK (a :: b :: c :: d :: x :: ls) 4 l k = k (a :: b :: c :: d :: l :: ls) := by
  have := ixN_4 a b c d x ls
  simp only [putK, this]; simp
def boxK (n : Ev → Prop) (e : Ev) : List L → Prop := fun ls => n (some (.box .lst ls) :: e)
theorem r_boxK {ls : List L} : boxK n e ls = n (some (.box .lst ls) :: e) := rfl
def gixK (i : Nat) (l : L) (n : Ev → Prop) : L → Ev → Prop := fun lb e => match e[i]? with
  | some (some (.box .lst ls)) => (match lb.toD with
    | .int j => ∃ m, ixN ls.length j = some m ∧ n (e.set i (some (.box .lst (ls.set m l))))
    | _ => False)
  | _ => False
theorem r_gIx : dgIx i tb l e n = (isSl i e ∧ tb e (gixK i l n)) := rfl
theorem r_gix0 {x : Int} {ls : List L} : gixK 0 l n (.fr (.int x)) (some (.box .lst ls) :: e) = putK ls x l (boxK n e) := by simp [gixK, putK, boxK, L.toD]
theorem r_gixS : gixK (i + 1) l n m (o :: e) = gixK i l (consN o n) m e := by simp [gixK, consN]
def setK2 (j : Nat) (n : Ev → Prop) (m : L) : Ev → Prop := fun e => setK j n m e
theorem r_setK2 : setK2 j n m e = setK j n m e := rfl
def parK (i j : Nat) (n : Ev → Prop) : List (L × Option Nat) → Ev → Prop := fun xs e => match xs with
  | [(l, _), (m, _)] => n ((e.set i (some l)).set j (some m))
  | _ => False
theorem r_parK {x y : Option Nat} : parK i j n [(l, x), (m, y)] e = setK i (setK2 j n m) l e := rfl
theorem r_par : dsPar i j ra ⟨n, rt, bk, ct⟩ e = ra e (parK i j n) := rfl
def augK3 (i : Nat) (n : Ev → Prop) (e : Ev) : L → Prop := fun r => setK i n r e
theorem r_augK3 : augK3 i n e l = setK i n l e := rfl
def augK2 (i : Nat) (d : D) (f : Op2) (n : Ev → Prop) : L → Ev → Prop := fun l e => f d l.toD (augK3 i n e)
theorem r_augK2 {d : D} : augK2 i d f n l e = f d l.toD (augK3 i n e) := rfl
def augK (i : Nat) (t : DE) (f : Op2) (n : Ev → Prop) (e : Ev) : L → Prop := fun l => match l with
  | .fr d => t e (augK2 i d f n)
  | _ => False
theorem r_augK {d : D} : augK i ta f n e (.fr d) = ta e (augK2 i d f n) := rfl
theorem r_aug : dsAug i ta f ⟨n, rt, bk, ct⟩ e = peekK i (augK i ta f n e) e := by
  unfold dsAug peekK augK
  cases h : e[i]? with
  | none => rfl
  | some x => cases x with
    | none => rfl
    | some l => cases l <;> rfl
/-! #### values -/
theorem r_dC {d : D} : dC d e Q = Q (.fr d) e := rfl
def opK3 (Q : L → Ev → Prop) (e : Ev) : L → Prop := fun r => Q r e
theorem r_opK3 : opK3 Q e l = Q l e := rfl
def opK2 (f : Op2) (la : L) (Q : L → Ev → Prop) : L → Ev → Prop := fun lb e => f la.toD lb.toD (opK3 Q e)
theorem r_opK2 : opK2 f l Q m e = f l.toD m.toD (opK3 Q e) := rfl
def opK (f : Op2) (tb : DE) (Q : L → Ev → Prop) : L → Ev → Prop := fun la e => tb e (opK2 f la Q)
theorem r_opK : opK f tb Q l e = tb e (opK2 f l Q) := rfl
theorem r_op : dOp f ta tb e Q = ta e (opK f tb Q) := rfl
variable {q : Bool → Ev → Prop}
def bK (q : Bool → Ev → Prop) : L → Ev → Prop := fun l e => ∃ c, l = .fr (.bl c) ∧ q c e
theorem r_bK {b : Bool} : bK q (.fr (.bl b)) e = q b e := by simp [bK]
theorem r_dB : dB ta e q = ta e (bK q) := rfl
def chK4 (f' : Op2) (lb : L) (tc : DE) (Q : L → Ev → Prop) (e : Ev) : L → Prop := fun r => ∃ c, r = .fr (.bl c) ∧ (if c = true then tc e (opK2 f' lb Q) else Q (.fr (.bl false)) e)
theorem r_chK4 {b : Bool} : chK4 f' l tc Q e (.fr (.bl b)) = if b = true then tc e (opK2 f' l Q) else Q (.fr (.bl false)) e := by simp [chK4]
def chK2 (f f' : Op2) (la : L) (tc : DE) (Q : L → Ev → Prop) : L → Ev → Prop := fun lb e => f la.toD lb.toD (chK4 f' lb tc Q e)
theorem r_chK2 : chK2 f f' l tc Q m e = f l.toD m.toD (chK4 f' m tc Q e) := rfl
def chK1 (f f' : Op2) (tb tc : DE) (Q : L → Ev → Prop) : L → Ev → Prop := fun la e => tb e (chK2 f f' la tc Q)
theorem r_chK1 : chK1 f f' tb tc Q l e = tb e (chK2 f f' l tc Q) := rfl
theorem r_chain : dChain f f' ta tb tc e Q = ta e (chK1 f f' tb tc Q) := rfl
def andK (u : DT) (q : Bool → Ev → Prop) : Bool → Ev → Prop := fun b e => if b = true then u e q else q false e
theorem r_andK {b : Bool} {u : DT} : andK u q b e = if b = true then u e q else q false e := rfl
theorem r_and {u : DT} : dAnd c u e q = c e (andK u q) := rfl
def orK (u : DT) (q : Bool → Ev → Prop) : Bool → Ev → Prop := fun b e => if b = true then q true e else u e q
theorem r_orK {b : Bool} {u : DT} : orK u q b e = if b = true then q true e else u e q := rfl
theorem r_or {u : DT} : dOr c u e q = c e (orK u q) := rfl
def notK (q : Bool → Ev → Prop) : Bool → Ev → Prop := fun b e => q (!b) e
theorem r_notK {b : Bool} : notK q b e = q (!b) e := rfl
theorem r_not : dNot c e q = c e (notK q) := rfl
def andVK (tb : DE) (Q : L → Ev → Prop) : L → Ev → Prop := fun l e => ∃ c, l = .fr (.bl c) ∧ if c = true then tb e Q else Q (.fr (.bl false)) e
theorem r_andVK {b : Bool} : andVK tb Q (.fr (.bl b)) e = if b = true then tb e Q else Q (.fr (.bl false)) e := by simp [andVK]
theorem r_andV : dAndV ta tb e Q = ta e (andVK tb Q) := rfl
def orVK (tb : DE) (Q : L → Ev → Prop) : L → Ev → Prop := fun l e => ∃ c, l = .fr (.bl c) ∧ if c = true then Q (.fr (.bl true)) e else tb e Q
theorem r_orVK {b : Bool} : orVK tb Q (.fr (.bl b)) e = if b = true then Q (.fr (.bl true)) e else tb e Q := by simp [orVK]
theorem r_orV : dOrV ta tb e Q = ta e (orVK tb Q) := rfl
def notVK (Q : L → Ev → Prop) : L → Ev → Prop := fun l e => ∃ c, l = .fr (.bl c) ∧ Q (.fr (.bl (!c))) e
theorem r_notVK {b : Bool} : notVK Q (.fr (.bl b)) e = Q (.fr (.bl (!b))) e := by simp [notVK]
theorem r_notV : dNotV ta e Q = ta e (notVK Q) := rfl
def difK (ta tb : DE) (Q : L → Ev → Prop) : Bool → Ev → Prop := fun b e => if b = true then ta e Q else tb e Q
theorem r_difK {b : Bool} : difK ta tb Q b e = if b = true then ta e Q else tb e Q := rfl
theorem r_dIf : dIf c ta tb e Q = c e (difK ta tb Q) := rfl
def negK (Q : L → Ev → Prop) : L → Ev → Prop := fun l e => match l.toD with | .int i => Q (.fr (.int (-i))) e | _ => False
theorem r_negK {x : Int} : negK Q (.fr (.int x)) e = Q (.fr (.int (-x))) e := by simp [negK, L.toD]
theorem r_neg : dNeg ta e Q = ta e (negK Q) := rfl
/-! #### arguments -/
variable {A : List (L × Option Nat) → Ev → Prop} {xs : List (L × Option Nat)}
theorem r_aNil : daNil e A = A [] e := rfl
def acK2 (x : L × Option Nat) (A : List (L × Option Nat) → Ev → Prop) : List (L × Option Nat) → Ev → Prop := fun xs e => A (x :: xs) e
theorem r_acK2 {x : L × Option Nat} : acK2 x A xs e = A (x :: xs) e := rfl
def acK (ra : DA) (A : List (L × Option Nat) → Ev → Prop) : L → Ev → Prop := fun l e => ra e (acK2 (.fr l.toD, none) A)
theorem r_acK : acK ra A l e = ra e (acK2 (.fr l.toD, none) A) := rfl
theorem r_aCons : daCons ta ra e A = ta e (acK ra A) := rfl
def aoK (ra : DA) (A : List (L × Option Nat) → Ev → Prop) : L → Ev → Prop := fun l e => ra e (acK2 (l, none) A)
theorem r_aoK : aoK ra A l e = ra e (acK2 (l, none) A) := rfl
theorem r_aOwn : daOwn ta ra e A = ta e (aoK ra A) := rfl
def borK2 (i : Nat) (xs : List (L × Option Nat)) (A : List (L × Option Nat) → Ev → Prop) : L → Ev → Prop := fun l e => A ((l, some i) :: xs) e
theorem r_borK2 : borK2 i xs A l e = A ((l, some i) :: xs) e := rfl
def borK (i : Nat) (A : List (L × Option Nat) → Ev → Prop) : List (L × Option Nat) → Ev → Prop := fun xs e => takeK i (borK2 i xs A) e
theorem r_borK : borK i A xs e = takeK i (borK2 i xs A) e := rfl
theorem r_aBor : daBor i ra e A = (isSl i e ∧ ra e (borK i A)) := by
  unfold daBor isSl slotL
  have : (fun xs (env2 : Ev) => (match env2[i]? with | some (some l) => A ((l, some i) :: xs) (env2.set i none) | _ => False)) = borK i A := by
    funext xs env2
    unfold borK takeK dTake borK2
    rfl
  cases h : e[i]? with
  | none => simp
  | some x => cases x with
    | none => simp
    | some l => simp; exact Eq.to_iff (congrArg (ra e) this)
def lstK (Q : L → Ev → Prop) : List (L × Option Nat) → Ev → Prop := fun xs e => xs.length ≤ sizeLine ∧ Q (.box .lst (xs.map (·.1))) e
theorem r_lstK : lstK Q xs e = (xs.length ≤ sizeLine ∧ Q (.box .lst (xs.map (·.1))) e) := rfl
theorem r_lst : dLst ra e Q = ra e (lstK Q) := rfl
def tupK (Q : L → Ev → Prop) : List (L × Option Nat) → Ev → Prop := fun xs e => xs.length ≤ sizeLine ∧ Q (.fr (.tup (L.toDs (xs.map (·.1))))) e
theorem r_tupK : tupK Q xs e = (xs.length ≤ sizeLine ∧ Q (.fr (.tup (L.toDs (xs.map (·.1))))) e) := rfl
theorem r_tup : dTup ra e Q = ra e (tupK Q) := rfl
def retK (ms : List (Option Nat)) (e : Ev) (Q : L → Ev → Prop) : L → List L → Prop := fun r ls => Q r (restore e ms ls)
theorem r_retK {ms : List (Option Nat)} {ls : List L} : retK ms e Q l ls = Q l (restore e ms ls) := rfl
def callK (C : Con) (dds : List D) (Q : L → Ev → Prop) : List (L × Option Nat) → Ev → Prop := fun xs e => C (xs.map (·.1) ++ dds.map L.fr) (retK (xs.map (·.2)) e Q) kF
theorem r_callK {C : Con} {dds : List D} : callK C dds Q xs e = C (xs.map (·.1) ++ dds.map L.fr) (retK (xs.map (·.2)) e Q) kF := rfl
theorem r_call {C : Con} {dds : List D} : dCall C dds ra e Q = ra e (callK C dds Q) := rfl
theorem r_res0 : restore e [] [] = e := rfl
theorem r_resN {ms : List (Option Nat)} {ls : List L} : restore e (none :: ms) (l :: ls) = restore e ms ls := rfl
theorem r_resS {ms : List (Option Nat)} {ls : List L} : restore e (some i :: ms) (l :: ls) = restore (e.set i (some l)) ms ls := rfl
def tmpK (e0 : Ev) (Q : L → Ev → Prop) : L → Ev → Prop := fun l _ => ∃ d, l = .fr d ∧ d.scalar = true ∧ Q l e0
theorem r_tmpK {d : D} {e0 : Ev} : tmpK e0 Q (.fr d) e = (d.scalar = true ∧ Q (.fr d) e0) := by simp [tmpK]
theorem r_tmp : dTmp ta e Q = ta (frzE e) (tmpK e Q) := rfl
theorem r_frzN : frzE [] = [] := rfl
theorem r_frz0 : frzE (none :: e) = none :: frzE e := rfl
theorem r_frz1 : frzE (some l :: e) = some (.fr l.toD) :: frzE e := rfl
/-! #### places -/
def atK (ds : List D) (j : Int) (k : D → Prop) : Prop := ∃ d, atI ds j = some d ∧ k d
variable {k : D → Prop} {ds : List D} {a b d x : D}
theorem r_at0 : atK (a :: ds) 0 k = k a := by simp [atK, atI_0]
theorem r_at1 : atK (a :: b :: ds) 1 k = k b := by simp [atK, atI_1]
theorem r_at2 : atK (a :: b :: d :: ds) 2 k = k d := by simp [atK, atI_2]
theorem r_at3 : atK (a :: b :: d :: x :: ds) 3 k = k x := by simp [atK, atI_3]
def frK (k : L → Prop) : D → Prop := fun d => k (.fr d)
theorem r_frK {k : L → Prop} : frK k d = k (.fr d) := rfl
def atF (ls : List L) (j : Int) (k : L → Prop) : Prop := ∃ d, atI ls j = some (.fr d) ∧ k (.fr d)
theorem r_atF0 {k : L → Prop} {ls : List L} : atF (.fr a :: ls) 0 k = k (.fr a) := by simp [atF, atI_0]
theorem r_atF1 {k : L → Prop} {ls : List L} {l0 : L} : atF (l0 :: .fr a :: ls) 1 k = k (.fr a) := by simp [atF, atI_1]
theorem r_atF2 {k : L → Prop} {ls : List L} {l0 l1 : L} : atF (l0 :: l1 :: .fr a :: ls) 2 k = k (.fr a) := by simp [atF, atI_2]
theorem r_atF3 {k : L → Prop} {ls : List L} {l0 l1 l2 : L} : atF (l0 :: l1 :: l2 :: .fr a :: ls) 3 k = k (.fr a) := by simp [atF, atI_3]
theorem r_atF4 {k : L → Prop} {ls : List L} {l0 l1 l2 l3 : L} : atF (l0 :: l1 :: l2 :: l3 :: .fr a :: ls) 4 k = k (.fr a) := by simp [atF, atI_4]
theorem r_ixTup {y : Int} {k : L → Prop} : opIx (.tup ds) (.int y) k = atK ds y (frK k) := rfl
theorem r_ixRo {y : Int} {k : L → Prop} : opIx (.ro ds) (.int y) k = atK ds y (frK k) := rfl
theorem r_ixLst {y : Int} {k : L → Prop} : opIx (.box .lst ds) (.int y) k = atK ds y (frK k) := rfl
theorem r_ixStr {y : Int} {z : Str} {k : L → Prop} : opIx (.str z) (.int y) k = (z.length ≤ sizeLine ∧ ∃ c, atI z.cps.toList y = some c ∧ k (.fr (.str ⟨#[c]⟩))) := rfl
def ixvK2 (lb : L) (Q : L → Ev → Prop) (e : Ev) : L → Prop := fun l => match l with
  | .fr a => opIx a lb.toD (opK3 Q e)
  | .box .lst ls => (match lb.toD with
    | .int j => ∃ d, atI ls j = some (.fr d) ∧ Q (.fr d) e
    | _ => False)
  | _ => False
theorem r_ixvF : ixvK2 l Q e (.fr a) = opIx a l.toD (opK3 Q e) := rfl
theorem r_ixvB {y : Int} {ls : List L} : ixvK2 (.fr (.int y)) Q e (.box .lst ls) = atF ls y (opK3 Q e) := by simp [ixvK2, L.toD, atF, opK3]
def ixvK (i : Nat) (Q : L → Ev → Prop) : L → Ev → Prop := fun lb e => peekK i (ixvK2 lb Q e) e
theorem r_ixvK : ixvK i Q l e = peekK i (ixvK2 l Q e) e := rfl
theorem r_ixV : dIxV i tb e Q = (isSl i e ∧ tb e (ixvK i Q)) := by
  unfold dIxV isSl
  refine congrArg _ (congrArg _ ?_)
  funext lb env1
  unfold ixvK peekK ixvK2 opK3
  cases h : env1[i]? with
  | none => rfl
  | some x => cases x with
    | none => rfl
    | some l => cases l with
      | fr d => rfl
      | box s ls => cases s <;> rfl
/-! #### methods -/
def isBx (i : Nat) (e : Ev) : Prop := ∃ ls, slotL e i = some (.box .lst ls)
theorem r_isBx0 {ls : List L} : isBx 0 (some (.box .lst ls) :: e) = True := by simp [isBx, slotL]
theorem r_isBxS : isBx (i + 1) (o :: e) = isBx i e := by simp [isBx, slotL]
def mtK3 (i : Nat) (e : Ev) (Q : L → Ev → Prop) : L → L → Prop := fun r l' => Q r (e.set i (some l'))
theorem r_mtK3 : mtK3 i e Q l m = Q l (e.set i (some m)) := rfl
def mtK2 (F : Mt) (i : Nat) (xs : List (L × Option Nat)) (Q : L → Ev → Prop) (e : Ev) : L → Prop := fun l => F l (xs.map (·.1)) (mtK3 i e Q)
theorem r_mtK2 {F : Mt} : mtK2 F i xs Q e l = F l (xs.map (·.1)) (mtK3 i e Q) := rfl
def mtK (F : Mt) (i : Nat) (Q : L → Ev → Prop) : List (L × Option Nat) → Ev → Prop := fun xs e => peekK i (mtK2 F i xs Q e) e
theorem r_mtK {F : Mt} : mtK F i Q xs e = peekK i (mtK2 F i xs Q e) e := rfl
theorem r_mt {F : Mt} : dMt F i ra e Q = (isBx i e ∧ ra e (mtK F i Q)) := by
  unfold dMt isBx
  refine congrArg _ (congrArg _ ?_)
  funext xs env1
  unfold mtK peekK mtK2 mtK3 slotL
  cases h : env1[i]? with
  | none => simp
  | some x => cases x with
    | none => simp
    | some l => simp
theorem r_append {ls : List L} {k : L → L → Prop} : mAppend (.box .lst ls) [l] k = (ls.length < sizeLine ∧ k (.fr .non) (.box .lst (ls ++ [l]))) := rfl
theorem r_reverse {ls : List L} {k : L → L → Prop} : mReverse (.box .lst ls) [] k = k (.fr .non) (.box .lst ls.reverse) := rfl
theorem r_pop {ls : List L} {k : L → L → Prop} : mPop (.box .lst ls) [] k = ∃ y, ls[ls.length - 1]? = some y ∧ k y (.box .lst ls.dropLast) := rfl
/-! #### slices, walks -/
variable {O : Option Int → Ev → Prop} {tl th : DO} {lo hi : Option Int} {W : List D → Ev → Prop}
def slK3 (l : L) (lo : Option Int) (Q : L → Ev → Prop) : Option Int → Ev → Prop := fun hi e => slD l.toD lo hi (opK3 Q e)
theorem r_slK3 : slK3 l lo Q hi e = slD l.toD lo hi (opK3 Q e) := rfl
def slK2 (l : L) (th : DO) (Q : L → Ev → Prop) : Option Int → Ev → Prop := fun lo e => th e (slK3 l lo Q)
theorem r_slK2 : slK2 l th Q lo e = th e (slK3 l lo Q) := rfl
def slK (tl th : DO) (Q : L → Ev → Prop) : L → Ev → Prop := fun l e => tl e (slK2 l th Q)
theorem r_slK : slK tl th Q l e = tl e (slK2 l th Q) := rfl
theorem r_sl : dSl ta tl th e Q = ta e (slK tl th Q) := rfl
theorem r_oNone : doNone e O = O none e := rfl
def osK (O : Option Int → Ev → Prop) : L → Ev → Prop := fun l e => match l.toD with | .int i => O (some i) e | _ => False
theorem r_osK {y : Int} : osK O (.fr (.int y)) e = O (some y) e := by simp [osK, L.toD]
theorem r_oSome : doSome ta e O = ta e (osK O) := rfl
theorem r_slLst {k : L → Prop} : slD (.box .lst ds) lo hi k = k (.box .lst ((TL.cutD ds lo hi).map L.fr)) := rfl
theorem r_slRo {k : L → Prop} : slD (.ro ds) lo hi k = k (.box .lst ((TL.cutD ds lo hi).map L.fr)) := rfl
theorem r_slTup {k : L → Prop} : slD (.tup ds) lo hi k = k (.fr (.tup (TL.cutD ds lo hi))) := rfl
theorem r_slStr {k : L → Prop} {z : Str} : slD (.str z) lo hi k = (z.length ≤ sizeLine ∧ k (.fr (.str (cutS z lo hi)))) := rfl
def sqK2 (W : List D → Ev → Prop) (e : Ev) : D → Prop := fun d => match d with | .box .lst ds => W ds e | _ => False
theorem r_sqK2 : sqK2 W e (.box .lst ds) = W ds e := rfl
def sqK (W : List D → Ev → Prop) : L → Ev → Prop := fun l e => sqK2 W e l.toD
theorem r_sqK : sqK W l e = sqK2 W e l.toD := rfl
theorem r_iSeq : diSeq ta e W = ta e (sqK W) := rfl
def tqK2 (W : List D → Ev → Prop) (e : Ev) : D → Prop := fun d => match d with | .tup ds => W ds e | _ => False
theorem r_tqK2 : tqK2 W e (.tup ds) = W ds e := rfl
def tqK (W : List D → Ev → Prop) : L → Ev → Prop := fun l e => tqK2 W e l.toD
theorem r_tqK : tqK W l e = tqK2 W e l.toD := rfl
theorem r_iTup : diTup ta e W = ta e (tqK W) := rfl
def rg1K (W : List D → Ev → Prop) : List (L × Option Nat) → Ev → Prop := fun xs e => match xs with
  | [(.fr (.int j), _)] => (-(2 ^ 62) ≤ j ∧ j < 2 ^ 62) ∧ W (rngD 0 j.toNat) e
  | _ => False
theorem r_rg1K {y : Int} {p : Option Nat} : rg1K W [(.fr (.int y), p)] e = ((-(2 ^ 62) ≤ y ∧ y < 2 ^ 62) ∧ W (rngD 0 y.toNat) e) := rfl
theorem r_iRange1 : diRange1 ra e W = ra e (rg1K W) := rfl
def rg2K (W : List D → Ev → Prop) : List (L × Option Nat) → Ev → Prop := fun xs e => match xs with
  | [(.fr (.int i), _), (.fr (.int j), _)] => (-(2 ^ 62) ≤ i ∧ i < 2 ^ 62 ∧ -(2 ^ 62) ≤ j ∧ j < 2 ^ 62) ∧ W (rngD i (j - i).toNat) e
  | _ => False
theorem r_rg2K {y z : Int} {p p' : Option Nat} : rg2K W [(.fr (.int y), p), (.fr (.int z), p')] e = ((-(2 ^ 62) ≤ y ∧ y < 2 ^ 62 ∧ -(2 ^ 62) ≤ z ∧ z < 2 ^ 62) ∧ W (rngD y (z - y).toNat) e) := rfl
theorem r_iRange2 : diRange2 ra e W = ra e (rg2K W) := rfl
def forK (g : DG) (t : DS) (De : DEnds) : List D → Ev → Prop := fun ds e => forD g t De ds e
theorem r_forK : forK g t De ds e = forD g t De ds e := rfl
theorem r_for {ti : DI} : dsFor ti g t De e = ti e (forK g t De) := rfl
def bodyK (t : DS) (N : Ev → Prop) (r : L → Ev → Prop) (bk : Ev → Prop) : Ev → Prop := fun e => t ⟨N, r, bk, N⟩ e
theorem r_bodyK : bodyK t N rt bk e = t ⟨N, rt, bk, N⟩ e := rfl
def cpEnd (Q : L → Ev → Prop) : List L → Ev → Prop := fun acc e => Q (.box .lst acc) e
theorem r_cpEnd {acc : List L} : cpEnd Q acc e = Q (.box .lst acc) e := rfl
variable {own : List Nat} {M : List L → Ev → Prop} {acc : List L}
def cpK (own : List Nat) (g : DG) (tt : DT) (te : DE) (Q : L → Ev → Prop) : List D → Ev → Prop := fun ds e => compD own g tt te (cpEnd Q) ds [] (wipeE e own)
theorem r_cpK : cpK own g tt te Q ds e = compD own g tt te (cpEnd Q) ds [] (wipeE e own) := rfl
theorem r_comp {ti : DI} : dComp ti own g tt te e Q = ti e (cpK own g tt te Q) := rfl
theorem r_wipe0 : wipeE e [] = e := rfl
theorem r_wipeS {v : Nat} : wipeE e (v :: own) = (wipeE e own).set v none := rfl
theorem r_yes : dtYes e q = q true e := rfl
def cmK3 (own : List Nat) (acc : List L) (M : List L → Ev → Prop) : L → Ev → Prop := fun l e => acc.length < sizeLine ∧ M (acc ++ [l]) (wipeE e own)
theorem r_cmK3 : cmK3 own acc M l e = (acc.length < sizeLine ∧ M (acc ++ [l]) (wipeE e own)) := rfl
def cmK2 (te : DE) (own : List Nat) (acc : List L) (M : List L → Ev → Prop) : Bool → Ev → Prop := fun b e => if b = true then te e (cmK3 own acc M) else M acc (wipeE e own)
theorem r_cmK2 {b : Bool} : cmK2 te own acc M b e = if b = true then te e (cmK3 own acc M) else M acc (wipeE e own) := rfl
def cmK (tt : DT) (te : DE) (own : List Nat) (acc : List L) (M : List L → Ev → Prop) : Ev → Prop := fun e => tt e (cmK2 te own acc M)
theorem r_cmK : cmK tt te own acc M e = tt e (cmK2 te own acc M) := rfl
def cmN (own : List Nat) (g : DG) (tt : DT) (te : DE) (M : List L → Ev → Prop) (ds : List D) : List L → Ev → Prop := fun acc e => compD own g tt te M ds acc e
theorem r_cmN : cmN own g tt te M ds acc e = compD own g tt te M ds acc e := rfl
theorem r_compC : compD own g tt te M (d :: ds) acc e = g (.fr d) e (cmK tt te own acc (cmN own g tt te M ds)) := rfl
theorem r_compN : compD own g tt te M [] acc e = M acc e := rfl
theorem rng2 : rngD 0 2 = [.int 0, .int 1] := rfl
theorem rng3 : rngD 0 3 = [.int 0, .int 1, .int 2] := rfl
theorem rng4 : rngD 0 4 = [.int 0, .int 1, .int 2, .int 3] := rfl
/-! #### a def's ends -/
variable {bs : List Nat} {ls : List L} {kk : L → List L → Prop}
def endN (bs : List Nat) (ls : List L) (k : L → List L → Prop) : Ev → Prop := fun env => OutOk bs env ∧ k (.fr .non) (outs bs env 0 ls)
theorem r_endN : endN bs ls kk e = (OutOk bs e ∧ kk (.fr .non) (outs bs e 0 ls)) := rfl
def endR (bs : List Nat) (ls : List L) (k : L → List L → Prop) : L → Ev → Prop := fun r env => OutOk bs env ∧ k r (outs bs env 0 ls)
theorem r_endR : endR bs ls kk l e = (OutOk bs e ∧ kk l (outs bs e 0 ls)) := rfl
def noK : Ev → Prop := fun _ => False
theorem r_ends : endsOf bs ls kk = ⟨endN bs ls kk, endR bs ls kk, noK, noK⟩ := rfl
theorem r_outOk0 : OutOk [] e = True := rfl
theorem r_outOkS {v : Nat} : OutOk (v :: bs) e = (isSl v e ∧ OutOk bs e) := rfl
/-! #### operators -/
section
variable {k : L → Prop} {y z : Int} {v w : Str} {p p' : Bool} {xs ys : List D}
theorem r_addI : opAdd (.int y) (.int z) k = k (.fr (.int (y + z))) := rfl
theorem r_addS : opAdd (.str v) (.str w) k = (v.length + w.length ≤ sizeLine ∧ k (.fr (.str (v ++ w)))) := rfl
theorem r_addL : opAdd (.box .lst xs) (.box .lst ys) k = (xs.length + ys.length ≤ sizeLine ∧ k (.box .lst ((xs ++ ys).map L.fr))) := rfl
theorem r_addT : opAdd (.tup xs) (.tup ys) k = (xs.length + ys.length ≤ sizeLine ∧ k (.fr (.tup (xs ++ ys)))) := rfl
theorem r_iaddI : opAddI (.int y) (.int z) k = k (.fr (.int (y + z))) := rfl
theorem r_iaddS : opAddI (.str v) (.str w) k = (v.length + w.length ≤ sizeLine ∧ k (.fr (.str (v ++ w)))) := rfl
theorem r_sub : opSub (.int y) (.int z) k = k (.fr (.int (y - z))) := rfl
theorem r_mulI : opMul (.int y) (.int z) k = (IntMulOk y z ∧ k (.fr (.int (y * z)))) := rfl
theorem r_mod : opMod (.int y) (.int z) k = (z ≠ 0 ∧ k (.fr (.int (y.fmod z)))) := rfl
theorem r_fdiv : opFdiv (.int y) (.int z) k = (DivOk z ∧ k (.fr (.int (y.fdiv z)))) := rfl
theorem r_pow : opPow (.int y) (.int z) k = ((0 ≤ z ∧ z ≤ 1000000 ∧ y.natAbs < 2 ^ 64) ∧ k (.fr (.int (y ^ z.toNat)))) := rfl
theorem r_cmpI {F : Int → Int → Bool} : cmpI F (.int y) (.int z) k = k (.fr (.bl (F y z))) := rfl
theorem r_eqI : opEq (.int y) (.int z) k = k (.fr (.bl (decide (y = z)))) := rfl
theorem r_eqS : opEq (.str v) (.str w) k = k (.fr (.bl (decide (v = w)))) := rfl
theorem r_eqB : opEq (.bl p) (.bl p') k = k (.fr (.bl (decide (p = p')))) := rfl
theorem r_eqT : opEq (.tup xs) a k = (Cmp2 (.tup xs) a ∧ k (.fr (.bl (PyData.eqv (D.tup xs).py a.py)))) := by unfold opEq; rfl
theorem r_eqL : opEq (.box .lst xs) a k = (Cmp2 (.box .lst xs) a ∧ k (.fr (.bl (PyData.eqv (D.box .lst xs).py a.py)))) := by unfold opEq; rfl
theorem r_neI : opNe (.int y) (.int z) k = k (.fr (.bl (!decide (y = z)))) := rfl
theorem r_neS : opNe (.str v) (.str w) k = k (.fr (.bl (!decide (v = w)))) := rfl
theorem r_neB : opNe (.bl p) (.bl p') k = k (.fr (.bl (!decide (p = p')))) := rfl
theorem r_neT : opNe (.tup xs) a k = (Cmp2 (.tup xs) a ∧ k (.fr (.bl (!PyData.eqv (D.tup xs).py a.py)))) := by unfold opNe; rfl
theorem r_neL : opNe (.box .lst xs) a k = (Cmp2 (.box .lst xs) a ∧ k (.fr (.bl (!PyData.eqv (D.box .lst xs).py a.py)))) := by unfold opNe; rfl
theorem r_isN : opIsN a .non k = k (.fr (.bl a.isNon)) := rfl
theorem r_notN : opNotN a .non k = k (.fr (.bl (!a.isNon))) := rfl
theorem r_inT : opIn a (.tup xs) k = (a.flat = true ∧ xs.all D.flat = true ∧ k (.fr (.bl (xs.any fun d => d.feq a)))) := rfl
theorem r_inR : opIn a (.ro xs) k = (a.flat = true ∧ xs.all D.flat = true ∧ k (.fr (.bl (xs.any fun d => d.feq a)))) := rfl
theorem r_inL : opIn a (.box .lst xs) k = (a.flat = true ∧ xs.all D.flat = true ∧ k (.fr (.bl (xs.any fun d => d.feq a)))) := rfl
theorem r_inS : opIn (.str v) (.str w) k = k (.fr (.bl (!(Builtin.Str.occurrences w v 0 w.length 1).isEmpty))) := rfl
theorem r_notIn : opNotIn a d k = opIn a d (fun r => match r with | .fr (.bl c) => k (.fr (.bl (!c))) | _ => False) := rfl
end
/-! #### built-ins -/
section
variable {K : L → List L → Prop} {kx : DX → List L → Prop} {F : D → (L → Prop) → Prop} {F2 : D → D → (L → Prop) → Prop} {k : L → Prop}
def c1K (K : L → List L → Prop) (ls : List L) : L → Prop := fun r => K r ls
theorem r_c1K : c1K K ls l = K l ls := rfl
theorem r_con1 : con1 F [l] K kx = F l.toD (c1K K [l]) := rfl
theorem r_con2 : con2 F2 [l, m] K kx = F2 l.toD m.toD (c1K K [l, m]) := rfl
theorem r_con1F : con1F F [.fr d] K kx = F d (c1K K [.fr d]) := rfl
theorem r_lenL : fLen (.box .lst ds) k = k (.fr (.int ds.length)) := rfl
theorem r_lenT : fLen (.tup ds) k = k (.fr (.int ds.length)) := rfl
theorem r_lenK : fLen .kt k = k (.fr (.int 0)) := rfl
theorem r_lenR : fLen (.ro ds) k = k (.fr (.int ds.length)) := rfl
theorem r_lenS {z : Str} : fLen (.str z) k = (z.length ≤ sizeLine ∧ k (.fr (.int z.length))) := rfl
theorem r_isi1 {s : String} : fIsi d (.ty s) k = (knownTy s = true ∧ ∃ t, d.tyn = some t ∧ k (.fr (.bl (isB t s)))) := rfl
theorem r_isi2 {s s' : String} : fIsi d (.tup [.ty s, .ty s']) k = ((knownTy s = true ∧ knownTy s' = true) ∧ ∃ t, d.tyn = some t ∧ k (.fr (.bl (isB t s || isB t s')))) := rfl
theorem r_listL : fList (.box .lst ds) k = k (.box .lst (ds.map L.fr)) := rfl
theorem r_listR : fList (.ro ds) k = k (.box .lst (ds.map L.fr)) := rfl
theorem r_listT : fList (.tup ds) k = k (.box .lst (ds.map L.fr)) := rfl
theorem r_tupleT : fTuple (.tup ds) k = k (.fr (.tup ds)) := rfl
theorem r_tupleL : fTuple (.box .lst ds) k = k (.fr (.tup ds)) := rfl
theorem r_intI {y : Int} : fInt (.int y) k = k (.fr (.int y)) := rfl
theorem r_intB {p : Bool} : fInt (.bl p) k = k (.fr (.int (if p then 1 else 0))) := rfl
theorem r_absI {y : Int} : fAbs (.int y) k = k (.fr (.int (if y < 0 then -y else y))) := rfl
theorem r_bools {G : List Bool → Bool} : fBools G (.box .lst ds) k = ∃ bs, dBools ds = some bs ∧ k (.fr (.bl (G bs))) := rfl
theorem r_ints {G : List Int → Int} {cc : List Int → Prop} : fInts G cc (.box .lst ds) k = ∃ ns, dInts ds = some ns ∧ cc ns ∧ k (.fr (.int (G ns))) := rfl
end
theorem r_toD : L.toD (.fr d) = d := by simp [L.toD]
theorem r_toDb {s : Shape} : L.toD (.box s ls) = .box s (L.toDs ls) := by simp [L.toD]
theorem r_toDsN : L.toDs [] = [] := by simp [L.toDs]
theorem r_toDsC : L.toDs (l :: ls) = l.toD :: L.toDs ls := by simp [L.toDs]
theorem r_toDsF : L.toDs (ds.map L.fr) = ds := toDs_fr ds
theorem atK_of {y : Int} (h0 : 0 ≤ y) (h1 : y < ds.length) (h : ∀ d ∈ ds, k d) : atK ds y k := by
  obtain ⟨d, e, hd, _⟩ := atI_of h0 h1
  exact ⟨d, e, h d hd⟩
theorem atK_get {y : Int} {d : D} (h : ds[y.toNat]? = some d) (h0 : 0 ≤ y) (hk : k d) : atK ds y k := by
  have hy : (y.toNat : Int) = y := Int.toNat_of_nonneg h0
  refine ⟨d, ?_, hk⟩
  rw [← hy]
  exact atI_nat h
theorem atK_ints {xs : List Int} {y : Int} (h0 : 0 ≤ y) (h1 : y < xs.length) (h : ∀ x, k (.int x)) : atK (xs.map D.int) y k :=
  atK_of h0 (by simpa using h1) fun d hd => by
    obtain ⟨x, _, rfl⟩ := List.mem_map.mp hd
    exact h x
/-! ### loops -/
theorem forD_ix' {I : Nat → Ev → Prop} (h0 : I 0 env)
    (hs : ∀ (i : Nat) (d : D) (env : Ev), ds[i]? = some d → I i env → ∀ N : Ev → Prop, (∀ e, I (i + 1) e → N e) → g (.fr d) env (bodyK t N rt n))
    (he : ∀ e, I ds.length e → n e) : forD g t ⟨n, rt, bk, ct⟩ ds env := forD_ix I h0 hs he
theorem compD_ix' {I : Nat → List L → Ev → Prop} (h0 : I 0 [] env)
    (hs : ∀ (i : Nat) (d : D) (acc : List L) (env : Ev), ds[i]? = some d → I i acc env → ∀ M : List L → Ev → Prop, (∀ a e, I (i + 1) a e → M a e) → g (.fr d) env (cmK tt te own acc M))
    (he : ∀ a e, I ds.length a e → M a e) : compD own g tt te M ds [] env := compD_ix I h0 hs he
end
end TL

namespace TL
open PySem PySem.Spec PyProof.Rows L2
/-! ### [.. for k in d ..], d the dict of a slot: it is locked the while -/
def keyTup (k : List Key) : D := .tup (k.map kD)
theorem walkK {K : PySem.W.Frag} {F R0 : Hp} {d : Addr} {od : Obj} {kvs : List (List Key × V)} (h : R0 d = some (.frz od (.dT kvs))) : WalkD K F R0 (Itkt d od kvs) ((kvs.map (·.1)).map keyTup) where
  goes := fun i F' H hi s s' r => ⟨r _ _ h, by simpa using hi⟩
  stops := fun F' H s s' r => ⟨r _ _ h, by simp⟩
  yields := fun i x H H' F' R ps d0 ⟨e, k, v, q, hk, ex, hq⟩ hd s g => by
    subst e; subst ex
    obtain ⟨F3, s3, e3, g3⟩ := g.addTup hq
    have ed : d0 = keyTup k := by
      rw [List.getElem?_map, List.getElem?_map, hk] at hd
      exact (Option.some.inj hd).symm
    subst ed
    exact ⟨F3, s3, g3, .tup e3 (kDs_reps k)⟩
def dKComp (i : Nat) (own : List Nat) (g : DG) (tt : DT) (te : DE) : DE := fun env Q => match env[i]? with
  | some (some (.box (.dT ks) ls)) => ∃ ds : List D, ls = ds.map L.fr ∧ ks.length = ds.length ∧ compD own g tt te (fun acc env2 => Q (.lst acc) (env2.set i (some (.box (.dT ks) ls)))) (ks.map keyTup) [] (wipeE (env.set i none) own)
  | _ => False
section
variable {X : Cx} {Y : Act} {elt tg iter : Expr} {pos : Pos}
theorem de_kcomp {i : Nat} {scope : Scope} {ifs : List Expr} {own : List (Str × Nat)} {g : DG} {tt : DT} {te : DE} (hc : X.calm = true) (hN : X.N.Nodup) (hi : PE X iter (tVar i)) (ok : BlkOk X.N X.env.scope scope own)
    (hg : ∀ (Y : Act), YOk (own.map (·.2)) Y → ∀ (s : Shared) (H : Hp) (C : Addr) (cl : List (Str × Addr)) (fp : List Addr), PG (X.blk s H scope (compEnvC scope cl C X.env) fp) tg (liftG Y X.K g))
    (ht : ∀ (Y : Act), YOk (own.map (·.2)) Y → ∀ (s : Shared) (H : Hp) (C : Addr) (cl : List (Str × Addr)) (fp : List Addr), PTs (X.blk s H scope (compEnvC scope cl C X.env) fp) ifs (liftT Y X.K tt))
    (he : ∀ (Y : Act), YOk (own.map (·.2)) Y → ∀ (s : Shared) (H : Hp) (C : Addr) (cl : List (Str × Addr)) (fp : List Addr), PE (X.blk s H scope (compEnvC scope cl C X.env) fp) elt (lift Y X.K te)) (hs : ∀ x, foldedSetIterable iter X.env x = pure x := by intro _; rfl) :
    PE X (.ListComp elt [⟨tg, iter, ifs, 0⟩] scope pos) (lift Y X.K (dKComp i (own.map (·.2)) g tt te)) :=
  by
  have base : PE X (.ListComp elt [⟨tg, iter, ifs, 0⟩] scope pos) (tLc (iKeys (tVar i)) (fun v σ H Q => ∃ Y, YOk (own.map (·.2)) Y ∧ liftG Y X.K g v σ H Q) (fun σ H Q => ∃ Y, YOk (own.map (·.2)) Y ∧ liftT Y X.K tt σ H Q) (fun σ H Q => ∃ Y, YOk (own.map (·.2)) Y ∧ lift Y X.K te σ H Q) (own.map (·.2))) := pe_lc hc hN (pi_keys (tg := tg) hi) ok (fun s H C cl fp => pg_some (X := X.blk s H scope (compEnvC scope cl C X.env) fp) fun Y y => hg Y y s H C cl fp) (fun s H C cl fp => pts_some (X := X.blk s H scope (compEnvC scope cl C X.env) fp) fun Y y => ht Y y s H C cl fp)
    (fun s H C cl fp => pe_some (X := X.blk s H scope (compEnvC scope cl C X.env) fp) fun Y y => he Y y s H C cl fp) hs
  exact PE.imp (pe_lock base) fun σ H Q ⟨F, R, env, k, a, q, kk⟩ => by
    unfold dKComp at q
    split at q
    · rename_i ks ls hev
      obtain ⟨ds, el, hlen, q⟩ := q
      subst el
      obtain ⟨u, hu⟩ := a.wf.get hev
      have g0 := a.hold.perm (slots_get hev hu)
      obtain ⟨p, vs, eu, hp, hl, rr⟩ := g0.dT
      subst eu
      obtain ⟨p', dx, vs', ev', e1, e2, e3, el, g1⟩ := g0.open
      cases ev'
      have g2 : Hold X.K F R H (Shape.adr (.dT ks) p dx ++ []) (slotsP σ (env.set i none)) := Hold.dropN g1
      have g2 : Hold X.K F R H [p] (slotsP σ (env.set i none)) := g2
      refine ⟨p, _, hp, by first | trivial | exact True.intro | (intro z; cases z), fun od => ?_⟩
      have g3 := g2.write (o := .frz od (.dT (ks.zip vs))) (p := p) (by simp)
      have g3' : Hold X.K F R (upd H p (.frz od (.dT (ks.zip vs)))) [p] (slotsP σ (env.set i none) ++ []) := by simpa using g3
      obtain ⟨R', sR, eR, g4, back⟩ := Hold.frameX g3' (fun b hb xs z => by
        have e : b = p := by simpa using hb
        subst e
        rw [upd_same] at z
        cases z)
      have eR : R' p = some (.frz od (.dT (ks.zip vs))) := by rw [eR p (by simp), upd_same]
      have ek : (ks.zip vs).map (·.1) = ks := List.map_fst_zip (Nat.le_of_eq hl)
      have wk := walkK (K := X.K) (F := F) eR
      rw [ek] at wk
      refine ⟨.ref p, hu, p, od, rfl, .inr ⟨_, upd_same, fun Da hD => ?_⟩⟩
      refine comp_core (Q := fun v H' => H' p = some (HO.frz od (HO.dT (ks.zip vs))) ∧ Q v (upd H' p (HO.dT (ks.zip vs)))) (R := R') (k := fun l env2 => k l (env2.set i (some (.box (.dT ks) (ds.map L.fr))))) (a.wf.none) g4 wk q (fun l env' v F' H' q' s w g => ?_) Da hD
      have g : Hold X.K F' R' H' [] ((v, l) :: slotsP σ env') := g
      refine ⟨g.hR _ _ eR, ?_⟩
      have b1 : Hold X.K F' R H' [p] (((v, l) :: slotsP σ env') ++ []) := back F' H' _ s g
      have b2 : Hold X.K F' R H' [p] ((v, l) :: slotsP σ env') := by simpa using b1
      have b3 := b2.write (o := .dT (ks.zip vs)) (p := p) (by simp)
      have b4 := Hold.pushs (rr.mono s) b3
      have hq : vs.length = (ds.map L.fr).length := by rw [rr.length, List.length_map]
      have b5 : Hold X.K F' R (upd H' p (.dT (ks.zip vs))) (Shape.adr (.dT ks) p dx ++ []) (vs.zip (ds.map L.fr) ++ ((v, l) :: slotsP σ env')) := b4
      have b6 := Hold.close (s := .dT ks) b5 (by rw [map_zip1 hq, upd_same]; rfl) (by show ks.length = _; rw [List.length_zip, ← hq, Nat.min_self]; exact hl) True.intro
      rw [map_zip2 hq] at b6
      have b7 : Hold X.K F' R (upd H' p (.dT (ks.zip vs))) [] ((v, l) :: ((.ref p, .box (.dT ks) (ds.map L.fr)) :: slotsP σ env')) := b6.perm (List.Perm.swap _ _ _)
      have hiE : i < env'.length := by
        rw [← w.len]
        exact (List.getElem?_eq_some_iff.mp hu).1
      -- the slot i of env' is let go
      have b8 : Hold X.K F' R (upd H' p (.dT (ks.zip vs))) [] (slotsP σ env' ++ [(.ref p, .box (.dT ks) (ds.map L.fr)), (v, l)]) := b7.perm (by
        refine List.Perm.trans (List.Perm.swap _ _ _) ?_
        exact (List.perm_append_comm (l₁ := [(V.ref p, L.box (.dT ks) (ds.map L.fr)), (v, l)])))
      have b9 := b8.unslot i w
      refine kk _ _ v F' _ q' s (w.setL hu) (b9.perm ?_)
      refine List.Perm.trans ?_ (List.Perm.cons _ (slots_put hu hiE).symm)
      refine List.Perm.trans List.perm_append_comm ?_
      exact List.Perm.swap _ _ _
    · exact q.elim
/-! ### x.f[key] = e: a dict in a field of what a slot owns -/
theorem fld_split {f : Str} {lf : L} : ∀ {ns : List Str} {qs : List (V × L)}, fldL ns (qs.map (·.2)) f = some lf → ∃ A vf B, qs = A ++ (vf, lf) :: B ∧ (∀ x, putA f x ns qs = A ++ x :: B) ∧ fldL ns (qs.map (·.1)) f = some vf
  | [], _, h => by simp [fldL] at h
  | _ :: _, [], h => by simp [fldL] at h
  | n :: ns, q :: qs, h => by
    simp only [List.map_cons, fldL] at h
    by_cases e : f = n
    · rw [if_pos e] at h
      have h := Option.some.inj h
      refine ⟨[], q.1, qs, by rw [← h]; rfl, fun x => ?_, ?_⟩
      · simp [putA, e]
      · simp [fldL, e]
    · rw [if_neg e] at h
      obtain ⟨A, vf, B, e1, e2, e3⟩ := fld_split h
      refine ⟨q :: A, vf, B, by rw [e1]; rfl, fun x => ?_, ?_⟩
      · simp only [putA]
        rw [if_neg (fun z => e z.symm), e2]; rfl
      · simp only [List.map_cons, fldL]
        rw [if_neg e, e3]
def dsFDPut (i : Nat) (C : Addr) (f : Str) (tk tv : DE) : DS := fun De env => (∃ l, env[i]? = some (some l)) ∧ tv env fun lv env1 => match env1[i]? with
  | some (some (.box (.obj C' ns) ls)) => C' = C ∧ ∃ ks ds, fldL ns ls f = some (.box (.dT ks) (ds.map L.fr)) ∧ ds.length < sizeLine ∧ tk (env1.set i none) fun lk env2 => match lk.toD with
    | .tup kd => ∃ k, keysD kd = some k ∧ De.nx (env2.set i (some (.box (.obj C' ns) (putA f (.box (.dT (putDK ks k)) ((putDL ks k lv.toD ds).map L.fr)) ns ls))))
    | _ => False
  | _ => False
theorem ds_fdput {i j : Nat} {C : Addr} {f : Str} {o ke e : Expr} {pos' apos : Pos} {tk tv : DE} (hr : Room j X.A) (hc : Cls X.K C) (hn : NoAttr X.K C f) (ho : PE X o (tVar i)) (hk : PE X ke (lift Y X.K tk)) (hv : PE X e (lift Y X.K tv)) (hb : attributeBase o f X.env (eval o X.env) = eval o X.env := by rfl)
    (hs : swapsWith e (some (.Subscript (.Attribute o f apos) ke pos')) pos.line X.env = pure false := by rfl) :
    PS X (.Assign [.Subscript (.Attribute o f apos) ke pos'] e pos) (liftS Y X.K (dsFDPut i C f tk tv)) :=
  PS.imp (ps_dput (hu_of hr) (pe_fld ho hb) hk hv hs) fun D σ H ⟨F, R, env, De, a, ⟨⟨l0, h0⟩, q⟩, k⟩ => by
    obtain ⟨v0, hv0⟩ := a.wf.get h0
    refine ⟨F, R, env, _, a, q, fun lv env1 vv F1 H1 q1 s1 w1 g1 => ?_⟩
    obtain ⟨F2, s2, g2⟩ := g1.frz
    split at q1
    · rename_i C' ns ls hev
      obtain ⟨e, ks, ds, hf, hlen, q1⟩ := q1
      subst e
      have g3 := g2.drop.perm (slots_get hev hv0)
      obtain ⟨p, dx, vs, ep, e1, e2, e3, el, g4⟩ := g3.open
      subst ep
      have e2 : ns.length = vs.length := e2
      have m1 : (vs.zip ls).map (·.1) = vs := map_zip1 el
      have m2 : (vs.zip ls).map (·.2) = ls := map_zip2 el
      obtain ⟨A, vf, B, eq, ep, ef⟩ := fld_split (ns := ns) (qs := vs.zip ls) (f := f) (lf := .box (.dT ks) (ds.map L.fr)) (by rw [m2]; exact hf)
      rw [m1] at ef
      refine ⟨.ref p, hv0, p, _, dx, _, vf, rfl, e1, hc, hn, fldL_lookup ef, ?_⟩
      -- the instance is set aside
      have g4' : Hold X.K F2 R H1 (Shape.adr (.obj C' ns) p dx ++ []) (slotsP σ (env1.set i none) ++ vs.zip ls) := g4.perm List.perm_append_comm
      obtain ⟨R', sR, eR, g5, back⟩ := Hold.frameX g4' (fun b hb xs z => Shape.nt (s := .obj C' ns) e1 e3 (by simpa using hb) z)
      refine ⟨F2, R', env1.set i none, _, ⟨a.f.trans (s1.trans s2), a.r.trans sR, a.fx, a.len, w1.none, g5⟩, q1, fun lk env2 vk F3 H3 q3 s3 w3 g6 => ?_⟩
      obtain ⟨F4, s4, g7⟩ := g6.frz
      have hrk := g7.head
      split at q3
      · rename_i kd hkd
        rw [hkd] at hrk
        obtain ⟨k0, hk0, q3⟩ := q3
        obtain ⟨pk, kvs, ek, hpk, rk⟩ := hrk.tup_inv
        have ekv := keysD_reps rk hk0
        subst ekv
        have rv : Rep X.K F4 vv lv.toD := (g2.head).mono (s3.trans s4)
        have hp3 : H3 p = some (.ins C' dx (ns.zip vs)) := by
          have z : R' p = H1 p := eR p (by simp [Shape.adr])
          exact g7.hR _ _ (z.trans e1)
        have hd3 : (Shape.obj C' ns).own H3 p dx := by
          have z : R' dx = H1 dx := eR dx (by simp [Shape.adr])
          exact g7.hR _ _ (z.trans e3)
        have b1 := back F4 H3 _ (s3.trans s4) g7.drop
        rw [eq] at b1
        have b2 : Hold X.K F4 R H3 (Shape.adr (.obj C' ns) p dx ++ []) ((vf, .box (.dT ks) (ds.map L.fr)) :: (A ++ (B ++ slotsP σ env2))) := b1.perm (by
          refine List.perm_append_comm.trans ?_
          rw [List.append_assoc]
          exact List.perm_middle)
        obtain ⟨pd, vs2, evf, hpd, hl2, rr⟩ := b2.dT
        subst evf
        obtain ⟨pd', dx', vs3, ev', f1, f2, f3, fl, b3⟩ := b2.open
        cases ev'
        have hds : vs2.length = ds.length := rr.length
        have nodup := b3.own
        have ne : p ≠ pd := by
          obtain ⟨As, _, nd, _⟩ := nodup
          intro z
          subst z
          simp [Shape.adr] at nd
        have ned : dx ≠ pd := by
          obtain ⟨As, _, nd, _⟩ := nodup
          intro z
          subst z
          simp [Shape.adr] at nd
        have b4 := Hold.pushs (rr.putD (k := k0) (ks := ks) rv) (Hold.dropN (ps := vs3.zip (ds.map L.fr)) b3)
        have hq : (putDL ks k0 vv vs2).length = ((putDL ks k0 lv.toD ds).map L.fr).length := by rw [(rr.putD (k := k0) (ks := ks) rv).length, List.length_map]
        have b5 := Hold.closeW (s := .dT ks) (s' := .dT (putDK ks k0)) (Xs := Shape.adr (.obj C' ns) p dx ++ []) b4 (by
          show (putDK ks k0).length = _
          rw [List.length_zip, ← hq, Nat.min_self]; exact putDL_len hl2) f3 rfl rfl
        rw [map_zip1 hq, map_zip2 hq] at b5
        have b6 : Hold X.K F4 R (upd H3 pd ((Shape.dT (putDK ks k0)).ho dx' (putDL ks k0 vv vs2))) (Shape.adr (.obj C' ns) p dx ++ []) ((A ++ (.ref pd, .box (.dT (putDK ks k0)) ((putDL ks k0 lv.toD ds).map L.fr)) :: B) ++ slotsP σ env2) := b5.perm (by
          rw [List.append_assoc]
          exact List.perm_middle.symm)
        have lz : ns.length = (vs.zip ls).length := by rw [List.length_zip, ← el, e2, Nat.min_self]
        have b7 := b6
        rw [← ep] at b7
        have mm1 : (putA f ((V.ref pd, L.box (.dT (putDK ks k0)) ((putDL ks k0 lv.toD ds).map L.fr)) : V × L) ns (vs.zip ls)).map (·.1) = vs := by
          rw [ep, ← m1, eq]; simp
        have mm2 : (putA f ((V.ref pd, L.box (.dT (putDK ks k0)) ((putDL ks k0 lv.toD ds).map L.fr)) : V × L) ns (vs.zip ls)).map (·.2) = putA f (.box (.dT (putDK ks k0)) ((putDL ks k0 lv.toD ds).map L.fr)) ns ls := by
          rw [putA_map _ f _ ns _ lz, m2]
        have b8 := Hold.close (s := .obj C' ns) b7 (by rw [mm1, upd_ne ne]; exact hp3) (by
          have z := congrArg List.length mm1
          rw [List.length_map] at z
          show ns.length = _
          rw [z]; exact e2) (by show (upd H3 pd _) dx = _; rw [upd_ne ned]; exact hd3)
        rw [mm2] at b8
        refine ⟨pd, _, rfl, .inr ⟨_, k0, pk, hpd, ek, g7.hF _ _ hpk, by rw [List.length_zip, hl2, Nat.min_self, hds]; exact hlen, rfl⟩, ?_⟩
        rw [putK_zip hl2]
        have hiE : i < env2.length := by
          rw [← w3.len]
          exact (List.getElem?_eq_some_iff.mp hv0).1
        have b9 := (b8.perm (List.perm_append_comm (l₁ := [(V.ref p, _)]))).unslot i w3
        have b10 := b9.perm (List.perm_append_comm (l₂ := [(V.ref p, _)]))
        refine k.nx _ _ _ _ q3 ((s1.trans s2).trans (s3.trans s4)) (a.to ((s1.trans s2).trans (s3.trans s4)) (w3.setL hv0) (b10.perm (slots_put hv0 hiE).symm))
      · exact q3.elim
    · exact q1.elim
end
end TL

namespace TL
open PySem PySem.Spec PyProof.Rows L2
section
variable {X : Cx} {Y : Act} {a b e o : Expr} {rest : List Expr} {pos : Pos}
/-! ### sorted, max, pop(i) -/
def fSorted : D → (L → Prop) → Prop := fun d k => match d with
  | .box .lst ds => ∃ ns, dInts ds = some ns ∧ ns.length < 64 ∧ ∀ ns' : List Int, ns'.Perm ns → ns'.Pairwise (· ≤ ·) → k (.lst ((ns'.map D.int).map L.fr))
  | _ => False
abbrev cSorted : Con := con1 fSorted
theorem bi_sorted : BiOk X (.builtin "sorted") cSorted := bi1 cr_sorted fun v d H F1 F R ps k Q r s1 g c h => by
  unfold fSorted at c
  split at c
  · obtain ⟨ns, e, hl, c⟩ := c
    have e := dInts_of e
    subst e
    obtain ⟨p, vs, ev, h1, rr⟩ := r.lst_inv
    rw [rr.dInts] at h1
    exact ⟨p, ns, by rw [ev], SqL.of (s1 _ _ h1), hl, fun ns' q hp hs hq => h _ _ F _ (c ns' hp hs) (Same.refl _) (g.newL (reps_ints ns') hq)⟩
  · exact c.elim
def fMax2 : D → D → (L → Prop) → Prop := fun d e k => match d, e with
  | .int i, .int j => k (.fr (.int (if j > i then j else i)))
  | _, _ => False
abbrev cMax2 : Con := con2 fMax2
theorem bi_max2 (hc : X.calm = true) : BiOk X (.builtin "max") cMax2 := bi2 (call_max2 hc) fun v u d e H F1 F R ps k Q r r' s1 g c h => by
  unfold fMax2 at c
  split at c
  · exact ⟨_, _, by rw [r.int_inv, r'.int_inv], h _ _ F H c (Same.refl _) (g.push (.int _))⟩
  · exact c.elim
def mPopAt : Mt := fun l ls k => match l, ls with
  | .box .lst xs, [.fr (.int j)] => (-(2 ^ 63) ≤ j ∧ j < 2 ^ 63) ∧ ∃ n y, ixN xs.length j = some n ∧ xs[n]? = some y ∧ k y (.box .lst (xs.eraseIdx n))
  | _, _ => False
theorem zip_erase : ∀ {vs : List V} {ls : List L} {n : Nat} {v : V} {l : L}, vs.length = ls.length → vs[n]? = some v → ls[n]? = some l → (vs.zip ls).Perm ((v, l) :: (vs.eraseIdx n).zip (ls.eraseIdx n))
  | [], _, _, _, _, _, h, _ => by simp at h
  | _ :: _, [], _, _, _, _, _, h => by simp at h
  | v :: vs, l :: ls, 0, _, _, _, h1, h2 => by
    simp only [List.getElem?_cons_zero, Option.some.injEq] at h1 h2
    subst h1; subst h2
    exact List.Perm.refl _
  | v :: vs, l :: ls, n + 1, _, _, hl, h1, h2 => by
    simp only [List.getElem?_cons_succ] at h1 h2
    simp only [List.zip_cons_cons, List.eraseIdx_cons_succ]
    exact (List.Perm.cons _ (zip_erase (by simpa using hl) h1 h2)).trans (List.Perm.swap _ _ _)
theorem mtr_popAt : MtR X "list.pop" (liftM X.K mPopAt) := MtR.imp mt_popAt fun x vs H Q ⟨F, R, l, ls, ps, k, hl, g, q, kk⟩ => by
  unfold mPopAt at q
  split at q
  · rename_i xs j
    obtain ⟨⟨j0, j1⟩, n, y, hn, hy, q⟩ := q
    match vs, hl with
    | [u], _ =>
      have g : Hold X.K F R H [] ((x, .box .lst xs) :: (u, .fr (.int j)) :: ps) := g
      have eu := g.drop.head.int_inv
      subst eu
      have g : Hold X.K F R H [] ((x, .box .lst xs) :: ps) := (g.perm (List.Perm.swap _ _ _)).drop
      obtain ⟨p, dx, ws, ex, eH, _, _, el, g1⟩ := g.open
      have hnl : n < xs.length := (List.getElem?_eq_some_iff.mp hy).1
      have hw : ws[n]? = some (ws[n]'(by omega)) := List.getElem?_eq_getElem (by omega)
      have hs := ixN_seq hn
      refine ⟨p, ws, j, n, _, ex, rfl, eH, j0, j1, by rw [el]; exact hs.1, hw, ?_⟩
      have g2 := g1.perm (List.Perm.append_right ps (zip_erase el hw hy))
      have g2' : Hold X.K F R H (Shape.lst.adr p dx ++ []) ((ws.eraseIdx n).zip (xs.eraseIdx n) ++ ((ws[n]'(by omega), y) :: ps)) := g2.perm List.perm_middle.symm
      have g3 := Hold.closeW (s := .lst) (s' := .lst) g2' True.intro True.intro rfl rfl
      have el' : (ws.eraseIdx n).length = (xs.eraseIdx n).length := by rw [List.length_eraseIdx, List.length_eraseIdx, el]
      rw [map_zip1 el', map_zip2 el'] at g3
      subst ex
      exact kk _ _ _ F _ q (Same.refl _) (g3.perm (List.Perm.swap _ _ _))
  · exact q.elim
/-! ### x or y, lists -/
def dOrT (ta tb : DE) : DE := fun env Q => ta env fun l env1 => match l with
  | .box .lst ls => if ls.isEmpty = true then tb env1 Q else Q (.box .lst ls) env1
  | .fr (.box .lst ds) => if ds.isEmpty = true then tb env1 Q else Q (.fr (.box .lst ds)) env1
  | _ => False
theorem de_orT {ta tb : DE} (ha : PE X a (lift Y X.K ta)) (hb : PE X (.BoolOp .Or (b :: rest) pos) (lift Y X.K tb)) : PE X (.BoolOp .Or (a :: b :: rest) pos) (lift Y X.K (dOrT ta tb)) :=
  PE.imp (pe_orT ha hb) fun σ H Q ⟨F, R, env, k, a, q, kk⟩ => by
    refine ⟨F, R, env, _, a, q, fun l env1 v F1 H1 q1 s1 w1 g1 => ?_⟩
    split at q1
    · rename_i ls
      obtain ⟨p, dx, vs, ev, eH, _, _, el, g2⟩ := g1.open
      have g3 : Hold X.K F1 R H1 [] (slotsP σ env1) := g1.drop
      subst ev
      have ee : vs.isEmpty = ls.isEmpty := by cases vs <;> cases ls <;> first | rfl | simp at el
      refine ⟨!vs.isEmpty, .inl ⟨vs, SqL.of eH, rfl⟩, ?_⟩
      rw [ee]
      cases h : ls.isEmpty with
      | true =>
        rw [if_pos h] at q1
        exact (if_neg Bool.false_ne_true).mpr ⟨F1, R, env1, k, a.to s1 w1 g3, q1, fun l env2 v F2 H2 q2 s2 w2 g2 => kk l env2 v F2 H2 q2 (s1.trans s2) w2 g2⟩
      | false =>
        rw [if_neg (by rw [h]; exact Bool.false_ne_true)] at q1
        exact (if_pos rfl).mpr (kk _ env1 _ F1 H1 q1 s1 w1 g1)
    · rename_i ds
      obtain ⟨p, vs, ev, hp, rr⟩ := g1.head.lst_inv
      have el := rr.length
      subst ev
      have ee : vs.isEmpty = ds.isEmpty := by cases vs <;> cases ds <;> first | rfl | simp at el
      refine ⟨!vs.isEmpty, .inl ⟨vs, SqL.of (g1.hF _ _ hp), rfl⟩, ?_⟩
      rw [ee]
      cases h : ds.isEmpty with
      | true =>
        rw [if_pos h] at q1
        exact (if_neg Bool.false_ne_true).mpr ⟨F1, R, env1, k, a.to s1 w1 g1.drop, q1, fun l env2 v F2 H2 q2 s2 w2 g2 => kk l env2 v F2 H2 q2 (s1.trans s2) w2 g2⟩
      | false =>
        rw [if_neg (by rw [h]; exact Bool.false_ne_true)] at q1
        exact (if_pos rfl).mpr (kk _ env1 _ F1 H1 q1 s1 w1 g1)
    · exact q1.elim
/-! ### isinstance(x, C) of an own class -/
structure ClsT (K : PySem.W.Frag) (C : Addr) : Prop where
  cl : Cls K C
  ha : PySem.W.findIn K (.ref C) "__class__" = some (some (.builtin "object.__class__"))
  hn : PySem.W.specialIn K (.builtin "object.__class__") "__get__" = some (some (.builtin "getset_descriptor.__get__"))
  ht : PySem.W.takesIn K (.builtin "object.__class__") = some true
  hm : PySem.W.mroIn K C (.type "object") = some true
def fIsC (C : Addr) : D → D → (L → Prop) → Prop := fun d e k => match d, e with
  | .box (.obj C' _) _, .ref C'' => (C' = C ∧ C'' = C) ∧ k (.fr (.bl true))
  | _, _ => False
abbrev cIsC (C : Addr) : Con := con2 (fIsC C)
theorem bi_isC {C : Addr} (T : ClsT X.K C) : BiOk X (.builtin "isinstance") (cIsC C) := bi2 call_isi fun v u d e H F1 F R ps k Q r r' s1 g c h => by
  unfold fIsC at c
  split at c
  · obtain ⟨⟨e1, e2⟩, c⟩ := c
    subst e1; subst e2
    obtain ⟨p, dx, vs, ev, hp, _, _, rr⟩ := r.obj_inv
    subst ev
    cases r' with
    | ref a =>
      refine ⟨_, .ref _, .ref _, .ref _, true, rfl, .own _, .base (.ins (s1 _ _ hp) T.cl T.ha T.hn T.ht T.hm), ?_, h _ _ F H c (Same.refl _) (g.push (.bl _))⟩
      unfold PySem.W.kitOne
      rw [if_pos (by simp)]
  · exact c.elim
/-! ### x == y by an own __eq__: the same data -/
def cEq (cond : D → Prop) : Con := fun args k _ => ∃ d, cond d ∧ args = [.fr d, .fr d] ∧ ∀ l m, k (.fr (.bl true)) [l, m]
def EqR (K : PySem.W.Frag) (cond : D → Prop) (a b : Addr) (H : Hp) : Prop := ∃ d, cond d ∧ Rep K H (.ref a) d ∧ Rep K H (.ref b) d
theorem eq_sp {K : PySem.W.Frag} {cond : D → Prop} : ∀ vs H Q E, spEq (EqR K cond) vs H Q E → spD K (cEq cond) vs H Q E := fun vs H Q E ⟨a, b, e, ⟨d, hc, ra, rb⟩, h⟩ => by
  subst e
  refine ⟨H, fun _ => none, [.fr d, .fr d], fun r _ => r = .fr (.bl true), fun _ _ => False, rfl, ⟨⟨[], .cons (As := []) (.fr ra) (.cons (As := []) (.fr rb) .nil), by simp, by simp⟩, fun _ => .inl rfl, Same.refl _, fun _ _ e => by cases e⟩, ⟨d, hc, rfl, fun _ _ => rfl⟩, fun r ls' v F' H' e s _ g => ?_, fun _ _ _ _ _ _ q => q.elim⟩
  subst e
  rw [g.head.bl_inv]
  exact h H' (s.trans g.hF)
def opEqO (C : Addr) (cond : D → Prop) : Op2 := fun a b k => match a with
  | .box (.obj C' _) _ => C' = C ∧ b = a ∧ cond a ∧ k (.fr (.bl true))
  | _ => False
theorem Hold.ext {K : PySem.W.Frag} {F R H H' : Hp} {Xs : List Addr} {ps : List (V × L)} (h : Hold K F R H Xs ps) (e : Same H H') : Hold K F R H' Xs ps := by
  obtain ⟨As, ow, nd, n⟩ := h.own
  have eq : ∀ a ∈ Xs ++ As, H' a = H a := fun a ha => by
    obtain ⟨_, _, u, z⟩ := n a ha
    rw [z]; exact e _ _ z
  refine ⟨⟨As, ow.mono (Same.refl _) fun a ha => eq a (List.mem_append_right _ ha), nd, fun a ha => ?_⟩, h.dis, h.hF.trans e, h.hR.trans e⟩
  obtain ⟨x, y, z⟩ := n a ha
  exact ⟨x, y, by rw [eq a ha]; exact z⟩
theorem opr_eqO {C f : Addr} {fd : FuncData} {ps : List Str} {cond : D → Prop} {n : Nat} (F : FnOk X.prog X.w X.K X.mg X.base (L2.CX X.prog X.w) n f fd ps (spD X.K (cEq cond))) (hs : PySem.W.findIn X.K (.ref C) "__eq__" = some (some (.ref f))) (hf : PySem.W.isFn X.K (.ref f) = true) (hb : Binds X.K fd ps []) (hr : Room n X.A) :
    OpR X (compareOp .Eq) (liftO X.K (opEqO C cond)) :=
  OpR.imp (op_eqG (rcG_ins (C := C) (F.imp (eq_sp (cond := cond))) hs hf hb passL) hr) fun x y H Q ⟨F, R, ps, da, db, k, g, ra, rb, q, kk⟩ => by
    unfold opEqO at q
    split at q
    · obtain ⟨e, eb, hc, q⟩ := q
      subst e; subst eb
      obtain ⟨p, dx, vs, ev, hp, _, _, _⟩ := ra.obj_inv
      obtain ⟨p2, dx2, vs2, ev2, hp2, _, _, _⟩ := rb.obj_inv
      subst ev; subst ev2
      exact ⟨⟨p, p2, dx, dx2, _, _, rfl, rfl, g.hF _ _ hp, g.hF _ _ hp2, _, hc, ra.mono g.hF, rb.mono g.hF⟩, fun H' e => kk _ _ F H' q (Same.refl _) ((g.ext e).push (.bl _))⟩
    · exact q.elim
theorem dg_tyC {x : Str} {C : Addr} {p : Pos} (hg : Gl X x) (hm : X.mg x = some (.ref C)) (hd : (x == ("__debug__" : Str)) = false := by decide) : PE X (.Name x p) (lift Y X.K (dC (.ref C))) := de_c (pe_glob (v := .ref C) hg hm rfl hd) fun _ => .ref C
end
end TL

namespace TL
open PySem PySem.Spec PyProof.Rows L2
/-! ### for x in a list or a tuple -/
section
variable {X : Cx} {Y : Act} {tg e : Expr} {pos : Pos}
def iAny (K : PySem.W.Frag) (tl : TE) : TI := fun σ H R => tl σ H fun x H1 => ∃ a, x = .ref a ∧ (((∃ xs, SqL K H1 a xs) ∧ R (Itl K a) H1) ∨ ((∃ xs, SqT K H1 a xs) ∧ R (Itt K a) H1))
theorem pi_any {l : Expr} {tl : TE} (hl : PE X l tl) : PI X tg l (iAny X.K tl) := by
  refine ⟨fun pins s σ H R I h => ?_⟩
  refine thn (hl.run pins s σ H _ I h) fun v s1 ⟨x, H1, I1, r1, q1⟩ => ?_
  obtain ⟨a, e, q1⟩ := q1
  subst e
  cases r1
  rcases q1 with ⟨⟨xs, hq⟩, q⟩ | ⟨⟨xs, hq⟩, q⟩
  · obtain ⟨its, rv, p, hz⟩ := I1.list hq
    refine wpAny_pyIter_list p.isList ?_
    refine ⟨s1.heap.objs.size, [s1.heap.objs.size], _, _, H1, rfl, I1.kept (t' := s1.toks) fun b o e => Heap.get?_push_of_some _ e, turn_list a _, ⟨_, Heap.get?_push_size _ rfl, rfl, rfl⟩, fun b hb => ?_, q⟩
    have e : b = s1.heap.objs.size := by simpa using hb
    subst e
    exact I1.fpOk (Nat.le_refl _) (I1.hok.fresh (Nat.le_refl _))
  · obtain ⟨its, rv, p, hz⟩ := I1.tuple hq
    refine wpAny_pyIter_tuple (show s1.heap.IsTuple a its.toArray from p) ?_
    refine ⟨s1.heap.objs.size, [s1.heap.objs.size], _, _, H1, rfl, I1.kept (t' := s1.toks) fun b o e => Heap.get?_push_of_some _ e, turn_tuple a _, ⟨_, Heap.get?_push_size _ rfl, rfl, rfl⟩, fun b hb => ?_, q⟩
    have e : b = s1.heap.objs.size := by simpa using hb
    subst e
    exact I1.fpOk (Nat.le_refl _) (I1.hok.fresh (Nat.le_refl _))
def diAny (t : DE) : DI := fun env Q => t env fun l env1 => match l.toD with
  | .box .lst ds => Q ds env1
  | .tup ds => Q ds env1
  | .kt => Q [] env1
  | _ => False
theorem Rep.kt_inv {K : PySem.W.Frag} {F : Hp} {v : V} (h : Rep K F v .kt) : ∃ p, v = .ref p ∧ SqT K F p [] := by
  cases h with
  | kt a => exact ⟨_, rfl, Same.seqT (fun _ _ e => by cases e) a⟩
theorem di_any {t : DE} (h : PE X e (lift Y X.K t)) : PI X tg e (liftI Y X.K (diAny t)) :=
  PI.imp (pi_any h) fun σ H Q ⟨F, R, env, k, a, q, kk⟩ => by
    refine ⟨F, R, env, _, a, q, fun l env1 v F1 H1 q1 s1 w1 g1 => ?_⟩
    obtain ⟨F2, s2, g2⟩ := g1.frz
    have hr := g2.head
    split at q1
    · rename_i ds hl
      rw [hl] at hr
      obtain ⟨p, vs, e, h, r⟩ := hr.lst_inv
      have hs : SqL X.K F2 p vs := SqL.of h
      exact ⟨p, e, .inl ⟨⟨vs, g2.hF.seq hs⟩, kk _ _ F2 H1 _ q1 (s1.trans s2) w1 g2.drop (walkL hs r)⟩⟩
    · rename_i ds hl
      rw [hl] at hr
      obtain ⟨p, vs, e, h, r⟩ := hr.tup_inv
      exact ⟨p, e, .inr ⟨⟨vs, Same.seqT g2.hF h.sq⟩, kk _ _ F2 H1 _ q1 (s1.trans s2) w1 g2.drop (walkT h.sq r)⟩⟩
    · rename_i hl
      rw [hl] at hr
      obtain ⟨p, e, h⟩ := hr.kt_inv
      exact ⟨p, e, .inr ⟨⟨[], Same.seqT g2.hF h⟩, kk _ _ F2 H1 _ q1 (s1.trans s2) w1 g2.drop (walkT h .nil)⟩⟩
    · exact q1.elim
theorem lookup_rel {env : Env} {x : Str} : ∀ {names : List (Str × NameKind)}, (names.lookup x = some .cell ∨ names.lookup x = some .free) →
    ((names.map fun (n, k) => if (k == NameKind.free && env.scope.kind == .function && env.kindOf n == some .cell) then (n, NameKind.cell) else (n, k)).lookup x = some .cell ∨
     (names.map fun (n, k) => if (k == NameKind.free && env.scope.kind == .function && env.kindOf n == some .cell) then (n, NameKind.cell) else (n, k)).lookup x = some .free)
  | [], h => by simp at h
  | (n, k) :: r, h => by
    simp only [List.map_cons]
    by_cases e : (x == n) = true
    · have hk : k = .cell ∨ k = .free := by
        simp only [List.lookup_cons, e] at h
        rcases h with h | h
        · exact .inl (Option.some.inj h)
        · exact .inr (Option.some.inj h)
      split
      · left; simp [List.lookup_cons, e]
      · rcases hk with hk | hk
        · left; simp [List.lookup_cons, e, hk]
        · right; simp [List.lookup_cons, e, hk]
    · have h' : r.lookup x = some .cell ∨ r.lookup x = some .free := by
        have e' : (x == n) = false := by simpa using e
        simpa [List.lookup_cons, e'] using h
      have ih := lookup_rel (env := env) h'
      have e' : (x == n) = false := by simpa using e
      split <;> simpa [List.lookup_cons, e'] using ih
theorem blkOk_in {N : List Str} {scope0 scope : Scope} {own : List (Str × Nat)} {s : Shared} {H : Hp} {C : Addr} {cl : List (Str × Addr)} {fp : List Addr} (hN : X.N = N) (h : blkC N scope0 scope own = true) :
    BlkOk (X.blk s H scope0 (compEnvC scope0 cl C X.env) fp).N (X.blk s H scope0 (compEnvC scope0 cl C X.env) fp).env.scope scope own := by
  have b := blkOk_by h
  subst hN
  exact ⟨b.kind, b.uniq, b.ix, fun y hy e => lookup_rel (b.free y hy e), b.own⟩
end
section
variable {P : Program} {w : World} {K : PySem.W.Frag} {mg : Str → Option Value} {base : Heap}
theorem okDD {x qual : Str} {st : Stmt} {dvs : List V} {kws : List (Str × V)} {f : Addr} {fd : FuncData} {N ps : List Str} {k : Nat} {C : Con} (bs : List Nat) (F : FunD K x qual (defArgs st) (defBody st) (defScope st) dvs kws f fd) (S : FnScope N ps (defScope st)) (hlen : ∀ ls k kx, C ls k kx → ls.length = ps.length) (t : DS)
    (hbody : ∀ (cdv : Value) (A : Around) (outer : List Env) (s : Shared) (H : Hp) (E : XK) (Y : Act), Room k (A.deeper (envOfC qual (defScope st) s.heap.objs.size f cdv)) → YFn bs Y →
      PSs (cxOf (L2.CX P w) P w K mg base N qual (defScope st) f cdv A outer s H E) (defBody st) (liftS Y K t))
    (hC : ∀ ls k kx, C ls k kx → t (endsOf bs ls k) (entry bs N.length ls)) :
    FnOk P w K mg base (L2.CX P w) (k + 1) f fd ps (spD K C) := by
  refine F.ok (CX := L2.CX P w) S (fun vs H Q E ⟨F, R, ls, k, kx, h1, _, h3, _⟩ => h1.trans (hlen _ _ _ h3)) fun cdv A outer s H vs Q E hr ⟨Fr, R, ls, kk, kx, hl, hold, hc, hq, _⟩ => ?_
  obtain ⟨F1, s1, g1⟩ := Hold.entry (bs := bs) (qs := []) 0 hl (by simpa using hold)
  have kn := Known.of 0 hl g1
  have hle : vs.length = (entryL bs 0 ls).length := by rw [entryL_length]; exact hl
  have hps : vs.length = ps.length := hl.trans (hlen _ _ _ hc)
  have hN : ps.length ≤ N.length := by
    have := congrArg List.length S.pre
    rw [List.length_take] at this
    omega
  have hY : YFn bs ⟨F1, R, bs.filterMap fun j => (vs[j]?).map fun v => (j, some v), N.length⟩ := fun q hq => by
    obtain ⟨j, hj, e⟩ := List.mem_filterMap.mp hq
    cases hv : vs[j]? with
    | none => rw [hv] at e; cases e
    | some v => rw [hv] at e; cases e; exact hj
  refine ⟨_, hbody cdv A outer s H E _ hr hY, F1, R, entry bs N.length ls, _, ⟨Same.refl _, Same.refl _, fun q hq => ?_, ?_, ?_, ?_⟩, hC ls kk kx hc, ?_⟩
  · obtain ⟨j, hj, e⟩ := List.mem_filterMap.mp hq
    cases hv : vs[j]? with
    | none => rw [hv] at e; cases e
    | some v =>
      rw [hv] at e
      cases e
      have hjl : j < vs.length := (List.getElem?_eq_some_iff.mp hv).1
      show (vs.map some ++ List.replicate (N.length - vs.length) none)[j]? = some (some v)
      rw [List.getElem?_append_left (by rw [List.length_map]; exact hjl), List.getElem?_map, hv]
      rfl
  · show (vs.map some ++ List.replicate (N.length - vs.length) none).length = N.length
    simp only [List.length_append, List.length_map, List.length_replicate]
    omega
  · unfold entry L2.start
    rw [← hl]
    exact Wf_entry vs _ _ hle
  · unfold entry L2.start
    rw [slots_entry _ _ _ _ hle]
    simpa using g1
  · have fin : ∀ (l : L) (env' : Ev) (v : V) (σ' : L2.St) (F' H' : Hp), (OutOk bs env' ∧ kk l (outs bs env' 0 ls)) → Same F1 F' → (∀ q ∈ (bs.filterMap fun j => (vs[j]?).map fun v => (j, some v)), σ'[q.1]? = some q.2) → Wf σ' env' → Hold K F' R H' [] ((v, l) :: slotsP σ' env') → Q v H' := by
      intro l env' v σ' F' H' ⟨q1, q2⟩ s' fx w g
      refine hq l _ v F' H' q2 (s1.trans s') (by rw [outs_length]; exact hl.symm) ?_
      have g2 : Hold K F' R H' [] (slotsP σ' env' ++ [(v, l)]) := g.perm (List.perm_append_comm (l₁ := [(v, l)]))
      have g3 := Hold.outs (bs := bs) (σ := σ') (env := env') (qs := [(v, l)]) 0 hl w (fun i hi _ => q1.get hi) (fun i v' hi hv' _ => fx (i, some v') (List.mem_filterMap.mpr ⟨i, hi, by rw [show vs[i]? = some v' by simpa using hv']; rfl⟩)) (kn.mono s') g2
      exact g3.perm (List.perm_append_comm (l₂ := [(v, l)]))
    refine ⟨fun env' σ' F' H' q s' a => ?_, fun l env' v σ' F' H' q s' fx w g => fin l env' v σ' F' H' q s' fx w g, fun _ _ _ _ q => q.elim, fun _ _ _ _ q => q.elim⟩
    exact fin (.fr .non) env' .non σ' F' H' q s' a.fx a.wf (a.hold.push .non)
end
/-! ### while -/
theorem while_ix {c : DT} {tb : DS} {De : DEnds} {env : Ev} {n : Nat} (I : Nat → Ev → Prop) (h0 : I n env)
    (hs : ∀ (m : Nat) (e : Ev), I m e → ∀ N : Ev → Prop, (∀ (m' : Nat) e', m' < m → I m' e' → N e') → c e fun b e1 => if b = true then tb { De with nx := N, ct := N, bk := De.nx } e1 else De.nx e1) : dsWhile c tb De env := by
  -- as many turns as the measure says
  have key : ∀ (m k : Nat) (e : Ev), m < k → I m e → whileN c tb De k e := by
    intro m
    induction m using Nat.strongRecOn with
    | ind m ih =>
      intro k e hk h
      cases k with
      | zero => omega
      | succ k => exact hs m e h _ fun m' e' hm h' => ih m' hm k e' (by omega) h'
  exact ⟨n + 1, key n (n + 1) env (Nat.lt_succ_self n) h0⟩
end TL

namespace TL
open PySem PySem.Spec PyProof.Rows L2
section
variable {n bk ct N : Ev → Prop} {rt : L → Ev → Prop} {t u : DS} {c : DT} {ta tb td tk tx tv te : DE} {ra : DA} {g : DG} {i j : Nat} {l m : L} {o : Option L} {e env : Ev} {Q : L → Ev → Prop} {De : DEnds} {C A : Addr} {f : Str} {ns : List Str} {ls : List L} {ds : List D} {d x : D}
/-! #### fields -/
def fldK (ns : List Str) (ds : List D) (f : Str) (k : D → Prop) : Prop := ∃ d, fldL ns ds f = some d ∧ k d
def fldKL (ns : List Str) (ls : List L) (f : Str) (k : D → Prop) : Prop := ∃ d, fldL ns ls f = some (.fr d) ∧ k d
theorem r_fldK {k : D → Prop} {a : Str} : fldK (a :: ns) (d :: ds) f k = if f = a then k d else fldK ns ds f k := by
  unfold fldK
  by_cases h : f = a <;> simp [fldL, h]
theorem r_fldKL0 {k : D → Prop} {a : Str} : fldKL (a :: ns) (.fr d :: ls) f k = if f = a then k d else fldKL ns ls f k := by
  unfold fldKL
  by_cases h : f = a <;> simp [fldL, h]
theorem r_fldKL1 {k : D → Prop} {a : Str} {s : Shape} {ms : List L} : fldKL (a :: ns) (.box s ms :: ls) f k = if f = a then False else fldKL ns ls f k := by
  unfold fldKL
  by_cases h : f = a <;> simp [fldL, h]
def rdK (Q : L → Ev → Prop) (e : Ev) : D → Prop := fun d => Q (.fr d) e
theorem r_rdK : rdK Q e d = Q (.fr d) e := rfl
def fvK (C : Addr) (f : Str) (Q : L → Ev → Prop) (e : Ev) : L → Prop := fun l => match l with
  | .fr (.box (.obj C' ns) ds) => C' = C ∧ fldK ns ds f (rdK Q e)
  | .box (.obj C' ns) ls => C' = C ∧ fldKL ns ls f (rdK Q e)
  | _ => False
theorem r_fvK0 {C' : Addr} : fvK C f Q e (.fr (.box (.obj C' ns) ds)) = (C' = C ∧ fldK ns ds f (rdK Q e)) := rfl
theorem r_fvK1 {C' : Addr} : fvK C f Q e (.box (.obj C' ns) ls) = (C' = C ∧ fldKL ns ls f (rdK Q e)) := rfl
theorem r_fldV : dFldV i C f e Q = peekK i (fvK C f Q e) e := by
  unfold dFldV peekK fvK fldK fldKL rdK
  cases h : e[i]? with
  | none => rfl
  | some o => cases o with
    | none => rfl
    | some l => cases l with
      | fr d => cases d with
        | box s ds => cases s <;> rfl
        | _ => rfl
      | box s ls => cases s <;> rfl
def fdK2 (C : Addr) (f : Str) (Q : L → Ev → Prop) (e : Ev) : D → Prop := fun d => match d with
  | .box (.obj C' ns) ds => C' = C ∧ fldK ns ds f (rdK Q e)
  | _ => False
theorem r_fdK2 {C' : Addr} : fdK2 C f Q e (.box (.obj C' ns) ds) = (C' = C ∧ fldK ns ds f (rdK Q e)) := rfl
def fdK (C : Addr) (f : Str) (Q : L → Ev → Prop) : L → Ev → Prop := fun l e => fdK2 C f Q e l.toD
theorem r_fdK : fdK C f Q l e = fdK2 C f Q e l.toD := rfl
theorem r_fld : dFld ta C f e Q = ta e (fdK C f Q) := by
  unfold dFld
  refine congrArg (ta e) ?_
  funext l e
  unfold fdK fdK2 fldK rdK
  cases l.toD with
  | box s ds => cases s <;> rfl
  | _ => rfl
theorem r_putNn : putN f [] = [f] := rfl
theorem r_putNc {a : Str} : putN f (a :: ns) = if a = f then a :: ns else a :: putN f ns := rfl
theorem r_putAn {α : Type} {y : α} {ys : List α} : putA f y [] ys = [y] := by cases ys <;> rfl
theorem r_putAc {α : Type} {y z : α} {ys : List α} {a : Str} : putA f y (a :: ns) (z :: ys) = if a = f then y :: ys else z :: putA f y ns ys := rfl
def sfK2 (i : Nat) (C : Addr) (f : Str) (n : Ev → Prop) (l : L) (e : Ev) : L → Prop := fun o => match o with
  | .box (.obj C' ns) ls => (C' = C ∧ ns.length < 1000) ∧ setK i n (.box (.obj C' (putN f ns)) (putA f l ns ls)) e
  | _ => False
theorem r_sfK2 {C' : Addr} : sfK2 i C f n l e (.box (.obj C' ns) ls) = ((C' = C ∧ ns.length < 1000) ∧ setK i n (.box (.obj C' (putN f ns)) (putA f l ns ls)) e) := rfl
def sfK (i : Nat) (C : Addr) (f : Str) (n : Ev → Prop) : L → Ev → Prop := fun l e => peekK i (sfK2 i C f n l e) e
theorem r_sfK : sfK i C f n l e = peekK i (sfK2 i C f n l e) e := rfl
theorem r_sFld : dsFld i C f ta ⟨n, rt, bk, ct⟩ e = ta e (sfK i C f n) := by
  unfold dsFld
  refine congrArg (ta e) ?_
  funext l e
  unfold sfK peekK sfK2 setK
  cases h : e[i]? with
  | none => rfl
  | some o => cases o with
    | none => rfl
    | some l => cases l with
      | fr d => rfl
      | box s ls => cases s <;> rfl
/-! #### made, methods -/
def mkR (ms : List (Option Nat)) (e : Ev) (Q : L → Ev → Prop) : L → List L → Prop := fun r ls => r = .fr .non ∧ match ls with
  | o :: ls => Q o (restore e ms ls)
  | [] => False
theorem r_mkR {ms : List (Option Nat)} {r : L} : mkR ms e Q r (l :: ls) = (r = .fr .non ∧ Q l (restore e ms ls)) := rfl
def mkK (A : Addr) (K : Con) (dds : List D) (Q : L → Ev → Prop) : List (L × Option Nat) → Ev → Prop := fun xs e => K (.box (.obj A []) [] :: (xs.map (·.1) ++ dds.map L.fr)) (mkR (xs.map (·.2)) e Q) kF
theorem r_mkK {K : Con} {dds : List D} {xs : List (L × Option Nat)} : mkK A K dds Q xs e = K (.box (.obj A []) [] :: (xs.map (·.1) ++ dds.map L.fr)) (mkR (xs.map (·.2)) e Q) kF := rfl
theorem r_make {K : Con} {dds : List D} : dMake A K dds ra e Q = ra e (mkK A K dds Q) := rfl
def meR (ms : List (Option Nat)) (e : Ev) (Q : L → Ev → Prop) : L → List L → Prop := fun r ls => match ls with
  | _ :: ls => Q r (restore e ms ls)
  | [] => False
theorem r_meR {ms : List (Option Nat)} {r : L} : meR ms e Q r (l :: ls) = Q r (restore e ms ls) := rfl
def meK3 (K : Con) (dds : List D) (s : L) (Q : L → Ev → Prop) : List (L × Option Nat) → Ev → Prop := fun xs e => K (s :: (xs.map (·.1) ++ dds.map L.fr)) (meR (xs.map (·.2)) e Q) kF
theorem r_meK3 {K : Con} {dds : List D} {xs : List (L × Option Nat)} : meK3 K dds l Q xs e = K (l :: (xs.map (·.1) ++ dds.map L.fr)) (meR (xs.map (·.2)) e Q) kF := rfl
def meK2 (A : Addr) (mm : Str) (K : Con) (dds : List D) (ra : DA) (Q : L → Ev → Prop) (e : Ev) : D → Prop := fun d => match d with
  | .box (.obj A' ns) ds => (A' = A ∧ mm ∉ ns) ∧ ra e (meK3 K dds (.fr (.box (.obj A' ns) ds)) Q)
  | _ => False
theorem r_meK2 {A' : Addr} {mm : Str} {K : Con} {dds : List D} : meK2 A mm K dds ra Q e (.box (.obj A' ns) ds) = ((A' = A ∧ mm ∉ ns) ∧ ra e (meK3 K dds (.fr (.box (.obj A' ns) ds)) Q)) := rfl
def meK (A : Addr) (mm : Str) (K : Con) (dds : List D) (ra : DA) (Q : L → Ev → Prop) : L → Ev → Prop := fun l e => meK2 A mm K dds ra Q e l.toD
theorem r_meK {mm : Str} {K : Con} {dds : List D} : meK A mm K dds ra Q l e = meK2 A mm K dds ra Q e l.toD := rfl
theorem r_meth {mm : Str} {K : Con} {dds : List D} : dMeth A mm K dds ta ra e Q = ta e (meK A mm K dds ra Q) := by
  unfold dMeth
  refine congrArg (ta e) ?_
  funext l e
  unfold meK meK2 meK3 meR
  cases l.toD with
  | box s ds => cases s <;> rfl
  | _ => rfl
/-! #### dicts -/
theorem r_dict : dDict e Q = Q (.box (.dT []) []) e := rfl
def dcK (k : List (List Key) → List D → Prop) : L → Prop := fun l => match l with
  | .fr (.box (.dT ks) ds) => k ks ds
  | .box (.dT ks) ls => ∃ ds, ls = ds.map L.fr ∧ k ks ds
  | _ => False
theorem r_dcK0 {k : List (List Key) → List D → Prop} {ks : List (List Key)} : dcK k (.fr (.box (.dT ks) ds)) = k ks ds := rfl
theorem fr_inj : ∀ {as bs : List D}, as.map L.fr = bs.map L.fr → as = bs
  | [], [], _ => rfl
  | [], _ :: _, h => by simp at h
  | _ :: _, [], h => by simp at h
  | a :: as, b :: bs, h => by
    simp only [List.map_cons, List.cons.injEq, L.fr.injEq] at h
    rw [h.1, fr_inj h.2]
theorem r_dcK1 {k : List (List Key) → List D → Prop} {ks : List (List Key)} : dcK k (.box (.dT ks) (ds.map L.fr)) = k ks ds := by
  apply propext
  constructor
  · rintro ⟨es, h, q⟩
    rw [fr_inj h]; exact q
  · intro h; exact ⟨ds, rfl, h⟩
theorem r_dcK2 {k : List (List Key) → List D → Prop} {ks : List (List Key)} : dcK k (.box (.dT ks) []) = k ks [] := r_dcK1 (ds := [])
theorem r_dcAt {k : List (List Key) → List D → Prop} : dcAt e i k = peekK i (dcK k) e := by
  unfold dcAt peekK dcK
  cases h : e[i]? with
  | none => rfl
  | some o => cases o with
    | none => rfl
    | some l => cases l with
      | fr d => cases d with
        | box s ds => cases s <;> rfl
        | _ => rfl
      | box s ls => cases s <;> rfl
def anyT : List (List Key) → List D → Prop := fun _ _ => True
theorem r_anyT {ks : List (List Key)} : anyT ks ds = True := rfl
def gtK4 (k : List Key) (d : D) (Q : L → Ev → Prop) (e : Ev) : List (List Key) → List D → Prop := fun ks ds => Q (.fr ((lookK ks ds k).getD d)) e
theorem r_gtK4 {k : List Key} {ks : List (List Key)} : gtK4 k d Q e ks ds = Q (.fr ((lookK ks ds k).getD d)) e := rfl
def keyK (kd : List D) (k : List Key → Prop) : Prop := ∃ q, keysD kd = some q ∧ k q
theorem r_keyK2 {y z : Int} {k : List Key → Prop} : keyK [.int y, .int z] k = k [.inl y, .inl z] := by simp [keyK, keysD, keyD]
def gtK5 (i : Nat) (d : D) (Q : L → Ev → Prop) (e : Ev) : List Key → Prop := fun k => dcAt e i (gtK4 k d Q e)
theorem r_gtK5 {k : List Key} : gtK5 i d Q e k = dcAt e i (gtK4 k d Q e) := rfl
def gtK3 (i : Nat) (d : D) (Q : L → Ev → Prop) (e : Ev) : D → Prop := fun kd => match kd with
  | .tup kd => keyK kd (gtK5 i d Q e)
  | _ => False
theorem r_gtK3 {kd : List D} : gtK3 i d Q e (.tup kd) = keyK kd (gtK5 i d Q e) := rfl
def gtK2 (i : Nat) (lk : L) (Q : L → Ev → Prop) : L → Ev → Prop := fun lx e => gtK3 i lx.toD Q e lk.toD
theorem r_gtK2 : gtK2 i l Q m e = gtK3 i m.toD Q e l.toD := rfl
def gtK (i : Nat) (tx : DE) (Q : L → Ev → Prop) : L → Ev → Prop := fun lk e => tx e (gtK2 i lk Q)
theorem r_gtK : gtK i tx Q l e = tx e (gtK2 i l Q) := rfl
theorem r_dget : dDGet i tk tx e Q = (dcAt e i anyT ∧ tk e (gtK i tx Q)) := by
  unfold dDGet
  refine congrArg _ (congrArg _ ?_)
  funext lk e1
  unfold gtK
  refine congrArg (tx e1) ?_
  funext lx e2
  unfold gtK2 gtK3
  cases lk.toD <;> rfl
def dxK3 (k : List Key) (Q : L → Ev → Prop) (e : Ev) (ks : List (List Key)) (ds : List D) : Prop := ∃ d, lookK ks ds k = some d ∧ Q (.fr d) e
def dxK4 (Q : L → Ev → Prop) (e : Ev) (ks : List (List Key)) (ds : List D) : List Key → Prop := fun k => dxK3 k Q e ks ds
theorem r_dxK4 {ks : List (List Key)} {k : List Key} : dxK4 Q e ks ds k = dxK3 k Q e ks ds := rfl
def dxK2 (Q : L → Ev → Prop) (e : Ev) : D → D → Prop := fun d kd => match d, kd with
  | .box (.dT ks) ds, .tup kd => keyK kd (dxK4 Q e ks ds)
  | _, _ => False
theorem r_dxK2 {ks : List (List Key)} {kd : List D} : dxK2 Q e (.box (.dT ks) ds) (.tup kd) = keyK kd (dxK4 Q e ks ds) := rfl
def dxK1 (ld : L) (Q : L → Ev → Prop) : L → Ev → Prop := fun lk e => dxK2 Q e ld.toD lk.toD
theorem r_dxK1 : dxK1 l Q m e = dxK2 Q e l.toD m.toD := rfl
def dxK (tk : DE) (Q : L → Ev → Prop) : L → Ev → Prop := fun ld e => tk e (dxK1 ld Q)
theorem r_dxK : dxK tk Q l e = tk e (dxK1 l Q) := rfl
theorem r_dix : dDIx td tk e Q = td e (dxK tk Q) := by
  unfold dDIx
  refine congrArg (td e) ?_
  funext ld e1
  unfold dxK
  refine congrArg (tk e1) ?_
  funext lk e2
  unfold dxK1 dxK2 dxK4 dxK3 keyK
  cases ld.toD with
  | box s ds => cases s with
    | dT ks => cases lk.toD with
      | tup kd =>
        apply propext
        constructor
        · rintro ⟨k, d, h1, h2, h3⟩; exact ⟨k, h1, d, h2, h3⟩
        · rintro ⟨k, h1, d, h2, h3⟩; exact ⟨k, d, h1, h2, h3⟩
      | _ => rfl
    | _ => rfl
  | _ => rfl
def inK4 (b : Bool) (Q : L → Ev → Prop) (e : Ev) (ks : List (List Key)) (ds : List D) : List Key → Prop := fun k => Q (.fr (.bl (b != (lookK ks ds k).isSome))) e
theorem r_inK4t {ks : List (List Key)} {k : List Key} : inK4 true Q e ks ds k = Q (.fr (.bl (!(lookK ks ds k).isSome))) e := by unfold inK4; simp
theorem r_inK4f {ks : List (List Key)} {k : List Key} : inK4 false Q e ks ds k = Q (.fr (.bl (lookK ks ds k).isSome)) e := by unfold inK4; simp
def inK2 (b : Bool) (Q : L → Ev → Prop) (e : Ev) : D → D → Prop := fun d kd => match d, kd with
  | .box (.dT ks) ds, .tup kd => keyK kd (inK4 b Q e ks ds)
  | _, _ => False
theorem r_inK2 {b : Bool} {ks : List (List Key)} {kd : List D} : inK2 b Q e (.box (.dT ks) ds) (.tup kd) = keyK kd (inK4 b Q e ks ds) := rfl
def inK1 (b : Bool) (lk : L) (Q : L → Ev → Prop) : L → Ev → Prop := fun ld e => inK2 b Q e ld.toD lk.toD
theorem r_inK1 {b : Bool} : inK1 b l Q m e = inK2 b Q e m.toD l.toD := rfl
def inK (b : Bool) (td : DE) (Q : L → Ev → Prop) : L → Ev → Prop := fun lk e => td e (inK1 b lk Q)
theorem r_inK {b : Bool} : inK b td Q l e = td e (inK1 b l Q) := rfl
theorem r_din : dDIn tk td e Q = tk e (inK false td Q) := by
  unfold dDIn
  refine congrArg (tk e) ?_
  funext lk e1
  unfold inK
  refine congrArg (td e1) ?_
  funext ld e2
  unfold inK1 inK2 keyK inK4
  cases ld.toD with
  | box s ds => cases s with
    | dT ks => cases lk.toD with
      | tup kd => simp
      | _ => rfl
    | _ => rfl
  | _ => rfl
theorem r_dnotin : dDNotIn tk td e Q = tk e (inK true td Q) := by
  unfold dDNotIn
  refine congrArg (tk e) ?_
  funext lk e1
  unfold inK
  refine congrArg (td e1) ?_
  funext ld e2
  unfold inK1 inK2 keyK inK4
  cases ld.toD with
  | box s ds => cases s with
    | dT ks => cases lk.toD with
      | tup kd => simp
      | _ => rfl
    | _ => rfl
  | _ => rfl
def dpK5 (i : Nat) (v : D) (n : Ev → Prop) (e : Ev) (ks : List (List Key)) (ds : List D) : List Key → Prop := fun k => ds.length < sizeLine ∧ setK i n (.box (.dT (putDK ks k)) ((putDL ks k v ds).map L.fr)) e
theorem r_dpK5 {ks : List (List Key)} {k : List Key} : dpK5 i d n e ks ds k = (ds.length < sizeLine ∧ setK i n (.box (.dT (putDK ks k)) ((putDL ks k d ds).map L.fr)) e) := rfl
def dpK4 (i : Nat) (v : D) (kd : D) (n : Ev → Prop) (e : Ev) : L → Prop := fun l => match l, kd with
  | .box (.dT ks) ls, .tup kd => ∃ ds, ls = ds.map L.fr ∧ keyK kd (dpK5 i v n e ks ds)
  | _, _ => False
theorem r_dpK40 {ks : List (List Key)} {kd : List D} : dpK4 i x (.tup kd) n e (.box (.dT ks) (ds.map L.fr)) = keyK kd (dpK5 i x n e ks ds) := by
  apply propext
  constructor
  · rintro ⟨es, h, q⟩
    rw [fr_inj h]; exact q
  · intro h; exact ⟨ds, rfl, h⟩
theorem r_dpK41 {ks : List (List Key)} {kd : List D} : dpK4 i x (.tup kd) n e (.box (.dT ks) []) = keyK kd (dpK5 i x n e ks []) := r_dpK40 (ds := [])
def dpK2 (i : Nat) (lv : L) (n : Ev → Prop) : L → Ev → Prop := fun lk e => peekK i (dpK4 i lv.toD lk.toD n e) e
theorem r_dpK2 : dpK2 i l n m e = peekK i (dpK4 i l.toD m.toD n e) e := rfl
def dpK (i : Nat) (tk : DE) (n : Ev → Prop) : L → Ev → Prop := fun lv e => tk e (dpK2 i lv n)
theorem r_dpK : dpK i tk n l e = tk e (dpK2 i l n) := rfl
theorem r_dput : dsDPut i tk tv ⟨n, rt, bk, ct⟩ e = tv e (dpK i tk n) := by
  unfold dsDPut
  refine congrArg (tv e) ?_
  funext lv e1
  unfold dpK
  refine congrArg (tk e1) ?_
  funext lk e2
  unfold dpK2 peekK dpK4 keyK dpK5 setK
  cases h : e2[i]? with
  | none => cases lk.toD <;> rfl
  | some o => cases o with
    | none => cases lk.toD <;> rfl
    | some l => cases l with
      | fr d => cases lk.toD <;> rfl
      | box s ls => cases s with
        | dT ks => cases lk.toD with
          | tup kd =>
            apply propext
            constructor
            · rintro ⟨k, ds, h1, h2, h3, h4⟩; exact ⟨ds, h2, k, h1, h3, h4⟩
            · rintro ⟨ds, h2, k, h1, h3, h4⟩; exact ⟨k, ds, h1, h2, h3, h4⟩
          | _ => rfl
        | _ => cases lk.toD <;> rfl
theorem ex_isSl : (∃ l, e[i]? = some (some l)) = isSl i e := by
  unfold isSl slotL
  cases h : e[i]? with
  | none => simp
  | some o => cases o <;> simp
def dsDPut' (i : Nat) (tk tv : DE) : DS := fun De env => (∃ l, env[i]? = some (some l)) ∧ dsDPut i tk tv De env
theorem r_dput' : dsDPut' i tk tv ⟨n, rt, bk, ct⟩ e = (isSl i e ∧ tv e (dpK i tk n)) := by
  unfold dsDPut'
  rw [r_dput, ex_isSl]
/-! #### dicts in fields -/
def fpK6 (i : Nat) (C : Addr) (f : Str) (v : D) (ns : List Str) (ls : List L) (ks : List (List Key)) (ds : List D) (n : Ev → Prop) (e : Ev) : List Key → Prop := fun k => setK i n (.box (.obj C ns) (putA f (.box (.dT (putDK ks k)) ((putDL ks k v ds).map L.fr)) ns ls)) e
theorem r_fpK6 {k : List Key} {ks : List (List Key)} : fpK6 i C f d ns ls ks ds n e k = setK i n (.box (.obj C ns) (putA f (.box (.dT (putDK ks k)) ((putDL ks k d ds).map L.fr)) ns ls)) e := rfl
def fpK5 (i : Nat) (C : Addr) (f : Str) (v : D) (ns : List Str) (ls : List L) (ks : List (List Key)) (ds : List D) (n : Ev → Prop) (e : Ev) : D → Prop := fun kd => match kd with
  | .tup kd => keyK kd (fpK6 i C f v ns ls ks ds n e)
  | _ => False
theorem r_fpK5 {ks : List (List Key)} {kd : List D} : fpK5 i C f d ns ls ks ds n e (.tup kd) = keyK kd (fpK6 i C f d ns ls ks ds n e) := rfl
def fpK4 (i : Nat) (C : Addr) (f : Str) (v : D) (ns : List Str) (ls : List L) (ks : List (List Key)) (ds : List D) (n : Ev → Prop) : L → Ev → Prop := fun lk e => fpK5 i C f v ns ls ks ds n e lk.toD
theorem r_fpK4 {ks : List (List Key)} : fpK4 i C f d ns ls ks ds n l e = fpK5 i C f d ns ls ks ds n e l.toD := rfl
def unS (i : Nat) (k : Ev → Prop) (e : Ev) : Prop := k (e.set i none)
theorem r_unS0 {k : Ev → Prop} : unS 0 k (o :: e) = k (none :: e) := rfl
theorem r_unSS {k : Ev → Prop} : unS (i + 1) k (o :: e) = unS i (consN o k) e := rfl
def runK (tk : DE) (Q : L → Ev → Prop) : Ev → Prop := fun e => tk e Q
theorem r_runK : runK tk Q e = tk e Q := rfl
def fdAt (ns : List Str) (ls : List L) (f : Str) (k : List (List Key) → List D → Prop) : Prop := ∃ ks ds, fldL ns ls f = some (.box (.dT ks) (ds.map L.fr)) ∧ k ks ds
theorem r_fdAt0 {a : Str} {k : List (List Key) → List D → Prop} : fdAt (a :: ns) (.fr d :: ls) f k = if f = a then False else fdAt ns ls f k := by
  unfold fdAt
  by_cases h : f = a <;> simp [fldL, h]
theorem r_fdAt1 {a : Str} {ks : List (List Key)} {k : List (List Key) → List D → Prop} : fdAt (a :: ns) (.box (.dT ks) (ds.map L.fr) :: ls) f k = if f = a then k ks ds else fdAt ns ls f k := by
  unfold fdAt
  by_cases h : f = a
  · simp only [fldL, if_pos h]
    apply propext
    constructor
    · rintro ⟨ks', es, h, q⟩
      simp only [Option.some.injEq, L.box.injEq, Shape.dT.injEq] at h
      obtain ⟨h1, h2⟩ := h
      subst h1
      rw [fr_inj h2]; exact q
    · intro h; exact ⟨ks, ds, rfl, h⟩
  · simp [fldL, h]
theorem r_fdAt2 {a : Str} {ks : List (List Key)} {k : List (List Key) → List D → Prop} : fdAt (a :: ns) (.box (.dT ks) [] :: ls) f k = if f = a then k ks [] else fdAt ns ls f k := r_fdAt1 (ds := [])
def fpK3 (i : Nat) (C : Addr) (f : Str) (tk : DE) (v : D) (n : Ev → Prop) (e : Ev) (ns : List Str) (ls : List L) : List (List Key) → List D → Prop := fun ks ds => ds.length < sizeLine ∧ unS i (runK tk (fpK4 i C f v ns ls ks ds n)) e
theorem r_fpK3 {ks : List (List Key)} : fpK3 i C f tk d n e ns ls ks ds = (ds.length < sizeLine ∧ unS i (runK tk (fpK4 i C f d ns ls ks ds n)) e) := rfl
def fpK2 (i : Nat) (C : Addr) (f : Str) (tk : DE) (v : D) (n : Ev → Prop) (e : Ev) : L → Prop := fun l => match l with
  | .box (.obj C' ns) ls => C' = C ∧ fdAt ns ls f (fpK3 i C' f tk v n e ns ls)
  | _ => False
theorem r_fpK2 {C' : Addr} : fpK2 i C f tk d n e (.box (.obj C' ns) ls) = (C' = C ∧ fdAt ns ls f (fpK3 i C' f tk d n e ns ls)) := rfl
def fpK (i : Nat) (C : Addr) (f : Str) (tk : DE) (n : Ev → Prop) : L → Ev → Prop := fun lv e => peekK i (fpK2 i C f tk lv.toD n e) e
theorem r_fpK : fpK i C f tk n l e = peekK i (fpK2 i C f tk l.toD n e) e := rfl
theorem r_fdput : dsFDPut i C f tk tv ⟨n, rt, bk, ct⟩ e = (isSl i e ∧ tv e (fpK i C f tk n)) := by
  unfold dsFDPut
  rw [ex_isSl]
  refine congrArg _ (congrArg (tv e) ?_)
  funext lv e1
  unfold fpK peekK fpK2 fdAt fpK3 unS runK
  cases h : e1[i]? with
  | none => rfl
  | some o => cases o with
    | none => rfl
    | some l => cases l with
      | fr d => rfl
      | box s ls => cases s with
        | obj C' ns =>
          have hk : ∀ (ks : List (List Key)) (ds : List D), (fun (lk : L) (env2 : Ev) => match lk.toD with
              | .tup kd => ∃ k, keysD kd = some k ∧ n (env2.set i (some (.box (.obj C' ns) (putA f (.box (.dT (putDK ks k)) ((putDL ks k lv.toD ds).map L.fr)) ns ls))))
              | _ => False) = fpK4 i C' f lv.toD ns ls ks ds n := fun ks ds => by
            funext lk e2
            unfold fpK4 fpK5 keyK fpK6 setK
            cases lk.toD <;> rfl
          show (C' = C ∧ ∃ ks ds, fldL ns ls f = some (.box (.dT ks) (ds.map L.fr)) ∧ ds.length < sizeLine ∧ tk (e1.set i none) (fun (lk : L) (env2 : Ev) => match lk.toD with
              | .tup kd => ∃ k, keysD kd = some k ∧ n (env2.set i (some (.box (.obj C' ns) (putA f (.box (.dT (putDK ks k)) ((putDL ks k lv.toD ds).map L.fr)) ns ls))))
              | _ => False)) = (C' = C ∧ ∃ ks ds, fldL ns ls f = some (.box (.dT ks) (ds.map L.fr)) ∧ ds.length < sizeLine ∧ tk (e1.set i none) (fpK4 i C' f lv.toD ns ls ks ds n))
          simp only [hk]
        | _ => rfl
/-! #### walks -/
variable {W : List D → Ev → Prop} {xs : List (L × Option Nat)}
def yqK2 (W : List D → Ev → Prop) (e : Ev) : D → Prop := fun d => match d with | .box .lst ds => W ds e | .tup ds => W ds e | .kt => W [] e | _ => False
theorem r_yqK2k : yqK2 W e .kt = W [] e := rfl
theorem r_yqK2l : yqK2 W e (.box .lst ds) = W ds e := rfl
theorem r_yqK2t : yqK2 W e (.tup ds) = W ds e := rfl
def yqK (W : List D → Ev → Prop) : L → Ev → Prop := fun l e => yqK2 W e l.toD
theorem r_yqK : yqK W l e = yqK2 W e l.toD := rfl
theorem r_iAny : diAny ta e W = ta e (yqK W) := rfl
def enK (W : List D → Ev → Prop) : List (L × Option Nat) → Ev → Prop := fun xs e => match xs with
  | [(.fr (.box .lst ds), _)] => W (pairsE 0 ds) e
  | [(.fr (.tup ds), _)] => W (pairsE 0 ds) e
  | _ => False
theorem r_enKl {p : Option Nat} : enK W [(.fr (.box .lst ds), p)] e = W (pairsE 0 ds) e := rfl
theorem r_enKt {p : Option Nat} : enK W [(.fr (.tup ds), p)] e = W (pairsE 0 ds) e := rfl
theorem r_iEnum : diEnum ra e W = ra e (enK W) := rfl
def ziK (W : List D → Ev → Prop) : List (L × Option Nat) → Ev → Prop := fun xs e => match xs with
  | [(.fr (.box .lst ds), _), (.fr (.box .lst es), _)] => W (pairsZ ds es) e
  | _ => False
theorem r_ziK {es : List D} {p p' : Option Nat} : ziK W [(.fr (.box .lst ds), p), (.fr (.box .lst es), p')] e = W (pairsZ ds es) e := rfl
theorem r_iZip : diZip ra e W = ra e (ziK W) := rfl
def kcEnd (i : Nat) (l : L) (Q : L → Ev → Prop) : List L → Ev → Prop := fun acc e => Q (.box .lst acc) (e.set i (some l))
theorem r_kcEnd {acc : List L} : kcEnd i l Q acc e = Q (.box .lst acc) (e.set i (some l)) := rfl
def kcK (i : Nat) (own : List Nat) (g : DG) (tt : DT) (te : DE) (Q : L → Ev → Prop) (e : Ev) : L → Prop := fun l => match l with
  | .box (.dT ks) ls => ∃ ds : List D, ls = ds.map L.fr ∧ ks.length = ds.length ∧ compD own g tt te (kcEnd i (.box (.dT ks) ls) Q) (ks.map keyTup) [] (wipeE (e.set i none) own)
  | _ => False
theorem r_kcK {own : List Nat} {tt : DT} {ks : List (List Key)} : kcK i own g tt te Q e (.box (.dT ks) (ds.map L.fr)) = (ks.length = ds.length ∧ compD own g tt te (kcEnd i (.box (.dT ks) (ds.map L.fr)) Q) (ks.map keyTup) [] (wipeE (e.set i none) own)) := by
  apply propext
  constructor
  · rintro ⟨es, h, q⟩
    have := fr_inj h
    subst this
    exact q
  · intro h; exact ⟨ds, rfl, h⟩
theorem r_kcomp {own : List Nat} {tt : DT} : dKComp i own g tt te e Q = peekK i (kcK i own g tt te Q e) e := by
  unfold dKComp peekK kcK
  cases h : e[i]? with
  | none => rfl
  | some o => cases o with
    | none => rfl
    | some l => cases l with
      | fr d => rfl
      | box s ls => cases s <;> rfl
/-! #### the rest -/
theorem r_never : dsNever De e = False := rfl
variable {k : L → Prop}
theorem r_sorted : fSorted (.box .lst ds) k = ∃ ns, dInts ds = some ns ∧ ns.length < 64 ∧ ∀ ns' : List Int, ns'.Perm ns → ns'.Pairwise (· ≤ ·) → k (.lst ((ns'.map D.int).map L.fr)) := rfl
theorem r_max2 {y z : Int} : fMax2 (.int y) (.int z) k = k (.fr (.int (if z > y then z else y))) := rfl
theorem r_popAt {K : L → L → Prop} {y : Int} : mPopAt (.box .lst ls) [.fr (.int y)] K = ((-(2 ^ 63) ≤ y ∧ y < 2 ^ 63) ∧ ∃ n z, ixN ls.length y = some n ∧ ls[n]? = some z ∧ K z (.box .lst (ls.eraseIdx n))) := rfl
theorem r_isC {C' C'' : Addr} : fIsC C (.box (.obj C' ns) ds) (.ref C'') k = ((C' = C ∧ C'' = C) ∧ k (.fr (.bl true))) := rfl
def otK (tb : DE) (Q : L → Ev → Prop) : L → Ev → Prop := fun l e => match l with
  | .box .lst ls => if ls.isEmpty = true then tb e Q else Q (.box .lst ls) e
  | .fr (.box .lst ds) => if ds.isEmpty = true then tb e Q else Q (.fr (.box .lst ds)) e
  | _ => False
theorem r_otK0 : otK tb Q (.box .lst ls) e = if ls.isEmpty = true then tb e Q else Q (.box .lst ls) e := rfl
theorem r_otK1 : otK tb Q (.fr (.box .lst ds)) e = if ds.isEmpty = true then tb e Q else Q (.fr (.box .lst ds)) e := rfl
theorem r_orT : dOrT ta tb e Q = ta e (otK tb Q) := rfl
def ifK' (t : DS) (N : Ev → Prop) (rt : L → Ev → Prop) (n : Ev → Prop) : Bool → Ev → Prop := fun b e => if b = true then t ⟨N, rt, n, N⟩ e else n e
theorem r_ifK' {b : Bool} : ifK' t N rt n b e = if b = true then t ⟨N, rt, n, N⟩ e else n e := rfl
theorem while_ix' {m : Nat} {I : Nat → Ev → Prop} (h0 : I m e)
    (hs : ∀ (m : Nat) (e : Ev), I m e → ∀ N : Ev → Prop, (∀ (m' : Nat) e', m' < m → I m' e' → N e') → c e (ifK' t N rt n)) : dsWhile c t ⟨n, rt, bk, ct⟩ e := while_ix I h0 hs
end
end TL

namespace TL
open PySem PySem.Spec PyProof.Rows L2
/-! ### a field of an instance that is owned, taken out and put back -/
theorem Hold.focus {K : PySem.W.Frag} {F R H : Hp} {Xs : List Addr} {ps : List (V × L)} {v : V} {C : Addr} {ns : List Str} {ls : List L} {f : Str} {s : Shape} {ms : List L}
    (h : Hold K F R H Xs ((v, .box (.obj C ns) ls) :: ps)) (hf : fldL ns ls f = some (.box s ms)) :
    ∃ p dx vs a, v = .ref p ∧ H p = some (.ins C dx (ns.zip vs)) ∧ ns.length = vs.length ∧ fldL ns vs f = some (.ref a) ∧ Hold K F R H Xs ((v, .box (.obj C ns) (TL.putA f (.fr (.ref a)) ns ls)) :: (.ref a, .box s ms) :: ps) := by
  obtain ⟨p, dx, vs, ep, e1, e2, e3, el, g4⟩ := h.open
  subst ep
  have e2 : ns.length = vs.length := e2
  have m1 : (vs.zip ls).map (·.1) = vs := map_zip1 el
  have m2 : (vs.zip ls).map (·.2) = ls := map_zip2 el
  have lz : ns.length = (vs.zip ls).length := by rw [List.length_zip, ← el, e2, Nat.min_self]
  obtain ⟨A, vf, B, eq, eput, ef⟩ := fld_split (ns := ns) (qs := vs.zip ls) (f := f) (lf := .box s ms) (by rw [m2]; exact hf)
  rw [m1] at ef
  have g5 : Hold K F R H (Shape.adr (.obj C ns) p dx ++ Xs) ((vf, .box s ms) :: (A ++ (B ++ ps))) := by
    rw [eq] at g4
    refine g4.perm ?_
    rw [List.append_assoc]
    exact List.perm_middle
  obtain ⟨a, _, _, ea, _⟩ := g5.open
  subst ea
  have g6 : Hold K F R H (Shape.adr (.obj C ns) p dx ++ Xs) (((.ref a, .fr (.ref a)) : V × L) :: ((.ref a, .box s ms) :: (A ++ (B ++ ps)))) := g5.push (.ref a)
  have g7 : Hold K F R H (Shape.adr (.obj C ns) p dx ++ Xs) (TL.putA f ((.ref a, .fr (.ref a)) : V × L) ns (vs.zip ls) ++ ((.ref a, .box s ms) :: ps)) := by
    rw [eput]
    refine g6.perm ?_
    have q : ∀ (x y : V × L) (A B C : List (V × L)), (x :: y :: (A ++ (B ++ C))).Perm ((A ++ x :: B) ++ (y :: C)) := by
      intro x y A B C
      have h1 : (x :: y :: (A ++ (B ++ C))).Perm (x :: ((A ++ B) ++ (y :: C))) := by
        rw [← List.append_assoc]
        exact List.Perm.cons _ (List.perm_middle.symm)
      refine h1.trans ?_
      rw [List.append_assoc, List.append_assoc, List.cons_append]
      exact List.perm_middle.symm
    exact q _ _ _ _ _
  have mm1 : (TL.putA f ((V.ref a, L.fr (.ref a)) : V × L) ns (vs.zip ls)).map (·.1) = vs := by
    rw [eput]
    have := m1
    rw [eq] at this
    simpa using this
  have mm2 : (TL.putA f ((V.ref a, L.fr (.ref a)) : V × L) ns (vs.zip ls)).map (·.2) = TL.putA f (.fr (.ref a)) ns ls := by rw [TL.putA_map _ f _ ns _ lz, m2]
  have g8 := Hold.close (s := .obj C ns) g7 (by rw [mm1]; exact e1) (by
    have z := congrArg List.length mm1
    rw [List.length_map] at z
    show ns.length = _
    rw [z]; exact e2) e3
  rw [mm2] at g8
  exact ⟨p, dx, vs, a, rfl, e1, e2, ef, g8⟩
theorem Hold.unfocus {K : PySem.W.Frag} {F R H : Hp} {Xs : List Addr} {ps : List (V × L)} {v : V} {C : Addr} {ns : List Str} {ls : List L} {f : Str} {a : Addr} {l' : L}
    (h : Hold K F R H Xs ((v, .box (.obj C ns) ls) :: (.ref a, l') :: ps)) (hf : fldL ns ls f = some (.fr (.ref a))) :
    Hold K F R H Xs ((v, .box (.obj C ns) (TL.putA f l' ns ls)) :: ps) := by
  obtain ⟨p, dx, vs, ep, e1, e2, e3, el, g4⟩ := h.open
  subst ep
  have e2 : ns.length = vs.length := e2
  have m1 : (vs.zip ls).map (·.1) = vs := map_zip1 el
  have m2 : (vs.zip ls).map (·.2) = ls := map_zip2 el
  have lz : ns.length = (vs.zip ls).length := by rw [List.length_zip, ← el, e2, Nat.min_self]
  obtain ⟨A, vf, B, eq, eput, ef⟩ := fld_split (ns := ns) (qs := vs.zip ls) (f := f) (lf := .fr (.ref a)) (by rw [m2]; exact hf)
  have g5 : Hold K F R H (Shape.adr (.obj C ns) p dx ++ Xs) ((vf, .fr (.ref a)) :: (A ++ (B ++ ((.ref a, l') :: ps)))) := by
    rw [eq] at g4
    refine g4.perm ?_
    rw [List.append_assoc]
    exact List.perm_middle
  have ev : vf = .ref a := by
    have := g5.head
    cases this
    rfl
  subst ev
  have g6 := g5.drop
  have g7 : Hold K F R H (Shape.adr (.obj C ns) p dx ++ Xs) (TL.putA f ((.ref a, l') : V × L) ns (vs.zip ls) ++ ps) := by
    rw [eput]
    refine g6.perm ?_
    rw [List.append_assoc, List.cons_append]
    refine List.Perm.append_left _ ?_
    exact List.perm_middle
  have mm1 : (TL.putA f ((V.ref a, l') : V × L) ns (vs.zip ls)).map (·.1) = vs := by
    rw [eput]
    have := m1
    rw [eq] at this
    simpa using this
  have mm2 : (TL.putA f ((V.ref a, l') : V × L) ns (vs.zip ls)).map (·.2) = TL.putA f l' ns ls := by rw [TL.putA_map _ f _ ns _ lz, m2]
  have g8 := Hold.close (s := .obj C ns) g7 (by rw [mm1]; exact e1) (by
    have z := congrArg List.length mm1
    rw [List.length_map] at z
    show ns.length = _
    rw [z]; exact e2) e3
  rw [mm2] at g8
  exact g8
section
variable {X : Cx} {Y : Act} {e o a b e1 e3 ke : Expr} {es : List Expr} {pos pos' apos cpos : Pos} {t t1 t3 tk : DE}
/-- known for good from now on -/
def dFz (t : DE) : DE := fun env Q => t env fun l env1 => Q (.fr l.toD) env1
theorem de_fz (h : PE X e (lift Y X.K t)) : PE X e (lift Y X.K (dFz t)) :=
  PE.imp h fun σ H Q ⟨F, R, env, k, a, q, kk⟩ => ⟨F, R, env, _, a, q, fun l env1 v F1 H1 q1 s1 w1 g1 => by
    obtain ⟨F2, s2, g2⟩ := g1.frz
    exact kk _ env1 v F2 H1 q1 (s1.trans s2) w1 g2⟩
/-- key in d, d the name in the slot i -/
def dDInV (i : Nat) (tk : DE) : DE := fun env Q => tk env fun lk env1 => match lk.toD with
  | .tup kd => ∃ k, keysD kd = some k ∧ dcAt env1 i fun ks ds => Q (.fr (.bl (lookK ks ds k).isSome)) env1
  | _ => False
def dDNotInV (i : Nat) (tk : DE) : DE := fun env Q => tk env fun lk env1 => match lk.toD with
  | .tup kd => ∃ k, keysD kd = some k ∧ dcAt env1 i fun ks ds => Q (.fr (.bl (!(lookK ks ds k).isSome))) env1
  | _ => False
theorem lift_dinv {i : Nat} {σ : L2.St} {H : Hp} {Q : VK} (h : lift Y X.K (dDInV i tk) σ H Q) : tDIn (lift Y X.K tk) (tVar i) σ H Q := by
  obtain ⟨F, R, env, k, a, q, kk⟩ := h
  refine ⟨F, R, env, _, a, q, fun lk env1 vk F1 H1 q1 s1 w1 g1 => ?_⟩
  obtain ⟨F2, s2, g2⟩ := g1.frz
  have hr := g2.head
  split at q1
  · rename_i kd h2
    rw [h2] at hr
    obtain ⟨kk0, hk0, q1⟩ := q1
    obtain ⟨pk, kvs, ek, hpk, rk⟩ := hr.tup_inv
    have ekv := keysD_reps rk hk0
    subst ekv
    obtain ⟨ks, ds, p, vs, q4, hv, hp, hl, rr⟩ := dcAt_hold (Y := Y) w1 g2.drop q1
    have lk := (Reps.look (ks := ks) kk0 rr).same
    refine ⟨_, hv, p, lookK ks vs kk0, rfl, .inr ⟨_, kk0, pk, .inl hp, ek, g2.hF _ _ hpk, lookK_valV.symm⟩, ?_⟩
    rw [lk]
    exact kk _ env1 _ F2 H1 q4 (s1.trans s2) w1 (g2.drop.push (.bl _))
  · exact q1.elim
theorem lift_dnotinv {i : Nat} {σ : L2.St} {H : Hp} {Q : VK} (h : lift Y X.K (dDNotInV i tk) σ H Q) : tDNotIn (lift Y X.K tk) (tVar i) σ H Q := by
  obtain ⟨F, R, env, k, a, q, kk⟩ := h
  refine ⟨F, R, env, _, a, q, fun lk env1 vk F1 H1 q1 s1 w1 g1 => ?_⟩
  obtain ⟨F2, s2, g2⟩ := g1.frz
  have hr := g2.head
  split at q1
  · rename_i kd h2
    rw [h2] at hr
    obtain ⟨kk0, hk0, q1⟩ := q1
    obtain ⟨pk, kvs, ek, hpk, rk⟩ := hr.tup_inv
    have ekv := keysD_reps rk hk0
    subst ekv
    obtain ⟨ks, ds, p, vs, q4, hv, hp, hl, rr⟩ := dcAt_hold (Y := Y) w1 g2.drop q1
    have lk := (Reps.look (ks := ks) kk0 rr).same
    refine ⟨_, hv, p, lookK ks vs kk0, rfl, .inr ⟨_, kk0, pk, .inl hp, ek, g2.hF _ _ hpk, lookK_valV.symm⟩, ?_⟩
    rw [lk]
    exact kk _ env1 _ F2 H1 q4 (s1.trans s2) w1 (g2.drop.push (.bl _))
  · exact q1.elim
theorem dt_dinv {i j : Nat} (hr : Room j X.A) (hk : PE X ke (lift Y X.K tk)) (ho : PE X o (tVar i)) (h1 : behindInMarks .In o = false := by rfl) : PT X (.Compare ke [.In] [o] pos) (liftT Y X.K (dB (dDInV i tk))) :=
  PT.imp (pt_cmp (pc_din (hu_of hr) hk ho) h1) fun σ H Q h => by
    obtain ⟨F, R, env, k, a, q, kk⟩ := h
    refine lift_dinv (Y := Y) ⟨F, R, env, _, a, q, fun l env' v F' H' ⟨c, e, q'⟩ s w g => ?_⟩
    subst e
    exact ⟨c, g.head.bl_inv, kk c env' F' H' q' s w g.drop⟩
theorem dt_dnotinv {i j : Nat} (hr : Room j X.A) (hk : PE X ke (lift Y X.K tk)) (ho : PE X o (tVar i)) (h1 : behindInMarks .NotIn o = false := by rfl) : PT X (.Compare ke [.NotIn] [o] pos) (liftT Y X.K (dB (dDNotInV i tk))) :=
  PT.imp (pt_cmp (pc_dnotin (hu_of hr) hk ho) h1) fun σ H Q h => by
    obtain ⟨F, R, env, k, a, q, kk⟩ := h
    refine lift_dnotinv (Y := Y) ⟨F, R, env, _, a, q, fun l env' v F' H' ⟨c, e, q'⟩ s w g => ?_⟩
    subst e
    exact ⟨c, g.head.bl_inv, kk c env' F' H' q' s w g.drop⟩
/-- key in x.f, x the name in the slot i that owns its instance -/
def fdIn (env : Ev) (i : Nat) (C : Addr) (f : Str) (k : List (List Key) → List D → Prop) : Prop := match env[i]? with
  | some (some (.box (.obj C' ns) ls)) => C' = C ∧ ∃ ks ds, fldL ns ls f = some (.box (.dT ks) (ds.map L.fr)) ∧ k ks ds
  | _ => False
def dDNotInF (i : Nat) (C : Addr) (f : Str) (tk : DE) : DE := fun env Q => tk env fun lk env1 => match lk.toD with
  | .tup kd => ∃ k, keysD kd = some k ∧ fdIn env1 i C f fun ks ds => Q (.fr (.bl (!(lookK ks ds k).isSome))) env1
  | _ => False
theorem lift_dnotinf {i : Nat} {C : Addr} {f : Str} (hc : Cls X.K C) (hn : NoAttr X.K C f) {σ : L2.St} {H : Hp} {Q : VK} (h : lift Y X.K (dDNotInF i C f tk) σ H Q) : tDNotIn (lift Y X.K tk) (tFld X.K (tVar i) f) σ H Q := by
  obtain ⟨F, R, env, k, a, q, kk⟩ := h
  refine ⟨F, R, env, _, a, q, fun lk env1 vk F1 H1 q1 s1 w1 g1 => ?_⟩
  obtain ⟨F2, s2, g2⟩ := g1.frz
  have hr := g2.head
  split at q1
  · rename_i kd h2
    rw [h2] at hr
    obtain ⟨kk0, hk0, q1⟩ := q1
    obtain ⟨pk, kvs, ek, hpk, rk⟩ := hr.tup_inv
    have ekv := keysD_reps rk hk0
    subst ekv
    unfold fdIn at q1
    split at q1
    · rename_i C' ns ls hev
      obtain ⟨e, ks, ds, hf, q1⟩ := q1
      subst e
      obtain ⟨u, hu⟩ := w1.get hev
      have g3 := g2.drop.perm (slots_get hev hu)
      obtain ⟨p, dx, vs, a0, ep, e1, e2, ef, g4⟩ := g3.focus hf
      subst ep
      obtain ⟨pd, vs2, evf, hpd, hl2, rr⟩ := (g4.perm (List.Perm.swap _ _ _)).dT
      cases evf
      have lk := (Reps.look (ks := ks) kk0 rr).same
      refine ⟨_, hu, p, _, dx, _, .ref a0, rfl, e1, hc, hn, fldL_lookup ef, ?_⟩
      refine ⟨a0, lookK ks vs2 kk0, rfl, .inr ⟨_, kk0, pk, .inl hpd, ek, g2.hF _ _ hpk, lookK_valV.symm⟩, ?_⟩
      rw [lk]
      exact kk _ env1 _ F2 H1 q1 (s1.trans s2) w1 (g2.drop.push (.bl _))
    · exact q1.elim
  · exact q1.elim
theorem dt_dnotinf {i j : Nat} {C : Addr} {f : Str} (hr : Room j X.A) (hc : Cls X.K C) (hn : NoAttr X.K C f) (hk : PE X ke (lift Y X.K tk)) (ho : PE X o (tVar i)) (hb : attributeBase o f X.env (eval o X.env) = eval o X.env := by rfl) (h1 : behindInMarks .NotIn (.Attribute o f apos) = false := by rfl) :
    PT X (.Compare ke [.NotIn] [.Attribute o f apos] pos) (liftT Y X.K (dB (dDNotInF i C f tk))) :=
  PT.imp (pt_cmp (pc_dnotin (hu_of hr) hk (pe_fld ho hb)) h1) fun σ H Q h => by
    obtain ⟨F, R, env, k, a, q, kk⟩ := h
    refine lift_dnotinf (Y := Y) hc hn ⟨F, R, env, _, a, q, fun l env' v F' H' ⟨c, e, q'⟩ s w g => ?_⟩
    subst e
    exact ⟨c, g.head.bl_inv, kk c env' F' H' q' s w g.drop⟩
/-! #### methods of lists in fields -/
/-- x.f.append(e), x the name in the slot i that owns its instance -/
def dFApp (i : Nat) (C : Addr) (f : Str) (t : DE) : DE := fun env Q => match env[i]? with
  | some (some (.box (.obj C' ns) ls)) => C' = C ∧ ∃ ms, fldL ns ls f = some (.box .lst ms) ∧ ms.length < sizeLine ∧ t (env.set i none) fun l env1 => Q (.fr .non) (env1.set i (some (.box (.obj C' ns) (putA f (.box .lst (ms ++ [l])) ns ls))))
  | _ => False
theorem putA_get {α : Type} {f : Str} {x : α} : ∀ {ns : List Str} {ys : List α}, (∃ y, fldL ns ys f = some y) → fldL ns (putA f x ns ys) f = some x
  | [], _, ⟨y, h⟩ => by simp [fldL] at h
  | _ :: _, [], ⟨y, h⟩ => by simp [fldL] at h
  | n :: ns, y :: ys, ⟨z, h⟩ => by
    simp only [fldL] at h
    simp only [putA]
    by_cases e : f = n
    · rw [if_pos e.symm]; simp [fldL, e]
    · rw [if_neg e] at h
      rw [if_neg (fun w => e w.symm)]
      simp only [fldL]
      rw [if_neg e]
      exact putA_get ⟨z, h⟩
theorem putA_put {α : Type} {f : Str} {x y : α} : ∀ {ns : List Str} {ys : List α}, (∃ y, fldL ns ys f = some y) → putA f x ns (putA f y ns ys) = putA f x ns ys
  | [], _, ⟨y, h⟩ => by simp [fldL] at h
  | _ :: _, [], ⟨y, h⟩ => by simp [fldL] at h
  | n :: ns, z :: zs, ⟨w, h⟩ => by
    simp only [fldL] at h
    by_cases e : n = f
    · simp [putA, e]
    · rw [if_neg (fun w => e w.symm)] at h
      have ih := putA_put (f := f) (x := x) (y := y) ⟨w, h⟩
      simp only [putA, if_neg e, ih]
/-- what was set aside comes back into its slot -/
theorem Hold.backSlot {K : PySem.W.Frag} {F R H : Hp} {σ : L2.St} {env : Ev} {i : Nat} {v : V} {l : L} {qs : List (V × L)} (h : Hold K F R H [] ((v, l) :: (slotsP σ env ++ qs))) (w : Wf σ env) (hv : σ[i]? = some (some v)) : Hold K F R H [] (qs ++ slotsP σ (env.set i (some l))) := by
  have hi : i < env.length := by
    rw [← w.len]
    exact (List.getElem?_eq_some_iff.mp hv).1
  have h1 : Hold K F R H [] (slotsP σ env ++ ((v, l) :: qs)) := h.perm List.perm_middle.symm
  have h2 := h1.unslot i w
  refine h2.perm ?_
  refine List.perm_middle.trans ?_
  refine List.Perm.trans ?_ List.perm_append_comm
  exact List.Perm.append_right _ (slots_put hv hi).symm
theorem de_fapp {i : Nat} {C : Addr} {f : Str} {t : DE} (hc : Cls X.K C) (hn : NoAttr X.K C f) (ho : PE X o (tVar i)) (ha : PE X e (lift Y X.K t)) (hb : attributeBase o f X.env (eval o X.env) = eval o X.env := by rfl)
    (hbase : attributeBase (.Attribute o f pos') "append" X.env (eval (.Attribute o f pos') X.env) = eval (.Attribute o f pos') X.env := by rfl)
    (hfew : ((backTo cpos (starEach [e] X.env)).all (fun x => !x.1) && (backToKw cpos (keywordEach [] X.env)).all (fun x => x.1.isSome)
      && decide ([e].length + ([] : List Keyword).length + (if ([] : List Keyword).isEmpty then 0 else 1) < 30)) = true := by rfl)
    (hline : (apos.endLine == cpos.line) = true := by rfl) (hs : starEach [e] X.env = (false, eval e X.env) :: starEach [] X.env := by rfl) (hplain : (backTo cpos (starEach [] X.env)).any (·.1) = false := by rfl) :
    PE X (.Call (.Attribute (.Attribute o f pos') "append" apos) [e] [] cpos) (lift Y X.K (dFApp i C f t)) :=
  PE.imp (pe_bm PySem.F.plainAttrs_list PySem.F.slot_list_append PySem.F.type_list_append mtr_append (pe_fld ho hb) (da_own ha da_nil hs) hbase hfew hline hs hplain) fun σ H Q ⟨F, R, env, k, a, q, kk⟩ => by
    unfold dFApp at q
    split at q
    · rename_i C' ns ls hev
      obtain ⟨e, ms, hf, hlen, q⟩ := q
      subst e
      obtain ⟨u, hu⟩ := a.wf.get hev
      have g1 := a.hold.perm (slots_get hev hu)
      obtain ⟨p, dx, vs, a0, ep, e1, e2, ef, g2⟩ := g1.focus hf
      subst ep
      refine ⟨.ref p, hu, p, _, dx, _, .ref a0, rfl, e1, hc, hn, fldL_lookup ef, ?_⟩
      obtain ⟨_, dx2, vs2, ea, el1, _, _, el2, _⟩ := (g2.perm (List.Perm.swap _ _ _)).open
      cases ea
      refine ⟨.inl ⟨rfl, _, SqL.of el1⟩, ?_⟩
      -- the instance and the list are set aside
      have g3 : Hold X.K F R H [] (slotsP σ (env.set i none) ++ [(.ref p, .box (.obj C' ns) (putA f (.fr (.ref a0)) ns ls)), (.ref a0, .box .lst ms)]) := g2.perm (List.perm_append_comm (l₁ := [(V.ref p, L.box (.obj C' ns) (putA f (.fr (.ref a0)) ns ls)), (V.ref a0, L.box .lst ms)]))
      obtain ⟨R', sR, g4, back⟩ := Hold.frame g3
      refine ⟨F, R', env.set i none, fun xs env1 => match xs with
        | [(l, _)] => k (.fr .non) (env1.set i (some (.box (.obj C' ns) (putA f (.box .lst (ms ++ [l])) ns ls))))
        | _ => False, ⟨a.f, a.r.trans sR, a.fx, a.len, a.wf.none, g4⟩, q, fun xs env1 vs1 F1 H1 q1 s1 w1 m1 g5 => ?_⟩
      dsimp only at q1
      split at q1
      · rename_i l o
        have b1 := back F1 H1 _ s1 g5
        have hl : vs1.length = [l].length := m1.len
        refine ⟨F1, R, .box .lst ms, [l], slotsP σ env1 ++ [(.ref p, .box (.obj C' ns) (putA f (.fr (.ref a0)) ns ls))], fun r l' => r = L.fr .non ∧ l' = L.box .lst (ms ++ [l]), hl, b1.perm ?_, ⟨hlen, rfl, rfl⟩, fun r l' v' F' H' ⟨er, el'⟩ s2 g6 => ?_⟩
        · show ((vs1.zip [l] ++ slotsP σ env1) ++ [(V.ref p, L.box (.obj C' ns) (putA f (.fr (.ref a0)) ns ls)), (V.ref a0, L.box .lst ms)]).Perm _
          have q : ∀ (A B : List (V × L)) (x y : V × L), ((A ++ B) ++ [x, y]).Perm (y :: (A ++ (B ++ [x]))) := by
            intro A B x y
            have : (A ++ B) ++ [x, y] = (A ++ (B ++ [x])) ++ [y] := by simp
            rw [this]
            exact List.perm_append_comm
          exact q _ _ _ _
        · subst er; subst el'
          have hget : fldL ns (putA f (L.fr (.ref a0)) ns ls) f = some (.fr (.ref a0)) := putA_get ⟨_, hf⟩
          have g7 : Hold X.K F' R H' [] ((.ref p, .box (.obj C' ns) (putA f (.fr (.ref a0)) ns ls)) :: (.ref a0, .box .lst (ms ++ [l])) :: (slotsP σ env1 ++ [(v', .fr .non)])) := g6.perm (by
            have q : ∀ (A : List (V × L)) (x y z : V × L), (x :: y :: (A ++ [z])).Perm (z :: y :: (A ++ [x])) := by
              intro A x y z
              have h1 : (x :: y :: (A ++ [z])).Perm (y :: x :: z :: A) := (List.Perm.swap _ _ _).trans (List.Perm.cons _ (List.Perm.cons _ List.perm_append_comm))
              have h2 : (z :: y :: (A ++ [x])).Perm (y :: z :: x :: A) := (List.Perm.swap _ _ _).trans (List.Perm.cons _ (List.Perm.cons _ List.perm_append_comm))
              exact h1.trans ((List.Perm.cons _ (List.Perm.swap _ _ _)).trans h2.symm)
            exact q _ _ _ _)
          have g8 := g7.unfocus hget
          rw [putA_put ⟨_, hf⟩] at g8
          have g9 := g8.backSlot w1 hu
          exact kk _ _ v' F' H' q1 (s1.trans s2) (w1.setL hu) g9
      · exact q1.elim
    · exact q.elim
/-! #### own methods that are lent self -/
/-- x.m(..), x the name in the slot i, whose instance is lent -/
def dSelf (i : Nat) (A : Addr) (m : Str) (C : Con) (dds : List D) (t : DA) : DE := fun env Q => match env[i]? with
  | some (some (.box (.obj A' ns) ls)) => (A' = A ∧ m ∉ ns) ∧ t (env.set i none) fun xs env1 => C (.box (.obj A' ns) ls :: (xs.map (·.1) ++ dds.map L.fr)) (fun r ls' => match ls' with
    | o :: ls2 => Q r ((restore env1 (xs.map (·.2)) ls2).set i (some o))
    | [] => False) kF
  | _ => False
theorem de_self {i : Nat} {A : Addr} {m : Str} {C : Con} {dds : List D} {dvs : List V} {ds : List Value} {t : DA} {k : Nat} {f : Addr} {fd : FuncData} {ps : List Str} {pl : Sem Bool}
    (hc : Cls X.K A) (hm : Meth X.K A m f) (F : FnOk X.prog X.w X.K X.mg X.base (L2.CX X.prog X.w) k f fd ps (spD X.K C)) (hr : Room k X.A) (hb : Binds X.K fd ps ds) (hd : Vals dvs ds) (hD : Reps X.K (fun _ => none) dvs dds)
    (ho : PE X o (tVar i)) (ha : PA X (e :: es) (liftA Y X.K t)) (hst : starEach (e :: es) X.env = (false, eval e X.env) :: starEach es X.env := by rfl) (hpl : (backTo pos (starEach es X.env)).any (·.1) = false := by rfl)
    (ht : eval (.Call (.Attribute o m apos) (e :: es) [] pos) X.env = (do
      let ov ← eval o X.env
      standAt apos.atName
      let (f, first) ← holding [ov] (getMethod ov m pl)
      callWith pos f first (backTo pos (starEach (e :: es) X.env)) (backToKw pos (keywordEach [] X.env))) := by rfl) :
    PE X (.Call (.Attribute o m apos) (e :: es) [] pos) (lift Y X.K (dSelf i A m C dds t)) :=
  PE.imp (pe_meth (pl := pl) ho hc hm F hr hb hd passL ha hst hpl ht) fun σ H Q ⟨F, R, env, k, a, q, kk⟩ => by
    unfold dSelf at q
    split at q
    · rename_i A' ns ls hev
      obtain ⟨⟨e, hmn⟩, q⟩ := q
      subst e
      obtain ⟨u, hu⟩ := a.wf.get hev
      have g1 := a.hold.perm (slots_get hev hu)
      obtain ⟨p, dx, vs, ep, e1, e2, e3, el, _⟩ := g1.open
      subst ep
      refine ⟨.ref p, hu, p, dx, _, rfl, e1, lookup_notin hmn, ?_⟩
      have g3 : Hold X.K F R H [] (slotsP σ (env.set i none) ++ [(.ref p, .box (.obj A' ns) ls)]) := g1.perm (List.perm_append_comm (l₁ := [(V.ref p, L.box (.obj A' ns) ls)]))
      obtain ⟨R', sR, g4, back⟩ := Hold.frame g3
      refine ⟨F, R', env.set i none, _, ⟨a.f, a.r.trans sR, a.fx, a.len, a.wf.none, g4⟩, q, fun xs env1 vs1 F1 H1 q1 s1 w1 m1 g5 => ?_⟩
      have b1 := back F1 H1 _ s1 g5
      refine call_core hD (hv := [.ref p]) (hls := [.box (.obj A' ns) ls]) rfl m1 w1 (b1.perm (List.perm_append_comm (l₂ := [(V.ref p, L.box (.obj A' ns) ls)]))) q1 fun r ls' v F' H' q2 s2 le w2 g6 => ?_
      match ls', q2, le, w2, g6 with
      | o :: ls2, q2, _, w2, g6 =>
        have w2 : Wf σ (restore env1 (xs.map (·.2)) ls2) := w2
        have g7 : Hold X.K F' R H' [] ((.ref p, o) :: (slotsP σ (restore env1 (xs.map (·.2)) ls2) ++ [(v, r)])) := g6.perm (by
          refine (List.Perm.swap _ _ _).trans (List.Perm.cons _ ?_)
          exact (List.perm_append_comm (l₁ := [(v, r)])))
        have g9 := g7.backSlot w2 hu
        exact kk _ _ v F' H' q2 (s1.trans s2) (w2.setL hu) g9
      | [], q2, _, _, _ => exact q2.elim
    · exact q.elim
/-- x.m(e1, x.f, e3): both x and what its field holds are lent -/
def dSelfAl (i : Nat) (A : Addr) (m f : Str) (C : Con) (t1 t3 : DE) : DE := fun env Q => match env[i]? with
  | some (some (.box (.obj A' ns) ls)) => (A' = A ∧ m ∉ ns) ∧ ∃ s ms, fldL ns ls f = some (.box s ms) ∧ t1 (env.set i none) fun l1 env1 => t3 env1 fun l3 env2 =>
    ∀ a, C [.box (.obj A' ns) (putA f (.fr (.ref a)) ns ls), .fr l1.toD, .box s ms, .fr l3.toD] (fun r ls' => match ls' with
      | [.box (.obj A2 ns2) ls2, _, lf, _] => fldL ns2 ls2 f = some (.fr (.ref a)) ∧ Q r (env2.set i (some (.box (.obj A2 ns2) (putA f lf ns2 ls2))))
      | _ => False) kF
  | _ => False
theorem de_selfal {i : Nat} {A : Addr} {m f : Str} {C : Con} {k : Nat} {g : Addr} {fd : FuncData} {ps : List Str} {pl : Sem Bool} {o2 : Expr}
    (hc : Cls X.K A) (hn : NoAttr X.K A f) (hm : Meth X.K A m g) (F : FnOk X.prog X.w X.K X.mg X.base (L2.CX X.prog X.w) k g fd ps (spD X.K C)) (hr : Room k X.A) (hb : Binds X.K fd ps [])
    (ho : PE X o (tVar i)) (ho2 : PE X o2 (tVar i)) (h1 : PE X e1 (lift Y X.K t1)) (h3 : PE X e3 (lift Y X.K t3)) (hab : attributeBase o2 f X.env (eval o2 X.env) = eval o2 X.env := by rfl)
    (hs1 : starEach [e1, .Attribute o2 f pos', e3] X.env = (false, eval e1 X.env) :: starEach [.Attribute o2 f pos', e3] X.env := by rfl)
    (hs2 : starEach [.Attribute o2 f pos', e3] X.env = (false, eval (.Attribute o2 f pos') X.env) :: starEach [e3] X.env := by rfl)
    (hs3 : starEach [e3] X.env = (false, eval e3 X.env) :: starEach [] X.env := by rfl)
    (hpl : (backTo pos (starEach [.Attribute o2 f pos', e3] X.env)).any (·.1) = false := by rfl)
    (ht : eval (.Call (.Attribute o m apos) [e1, .Attribute o2 f pos', e3] [] pos) X.env = (do
      let ov ← eval o X.env
      standAt apos.atName
      let (fn, first) ← holding [ov] (getMethod ov m pl)
      callWith pos fn first (backTo pos (starEach [e1, .Attribute o2 f pos', e3] X.env)) (backToKw pos (keywordEach [] X.env))) := by rfl) :
    PE X (.Call (.Attribute o m apos) [e1, .Attribute o2 f pos', e3] [] pos) (lift Y X.K (dSelfAl i A m f C t1 t3)) :=
  PE.imp (pe_meth (pl := pl) (dvs := []) ho hc hm F hr hb .nil passL (pa_cons h1 (pa_cons (pe_fld ho2 hab) (pa_cons h3 pa_nil hs3) hs2) hs1) hs1 hpl ht) fun σ H Q ⟨F, R, env, k, a, q, kk⟩ => by
    unfold dSelfAl at q
    split at q
    · rename_i A' ns ls hev
      obtain ⟨⟨e, hmn⟩, s, ms, hf, q⟩ := q
      subst e
      obtain ⟨u, hu⟩ := a.wf.get hev
      have g1 := a.hold.perm (slots_get hev hu)
      obtain ⟨p, dx, vs, a0, ep, e1, e2, ef, g2⟩ := g1.focus hf
      subst ep
      refine ⟨.ref p, hu, p, dx, _, rfl, e1, lookup_notin hmn, ?_⟩
      -- both are set aside
      have hget : fldL ns (putA f (L.fr (.ref a0)) ns ls) f = some (.fr (.ref a0)) := putA_get ⟨_, hf⟩
      have g3 : Hold X.K F R H [] (slotsP σ (env.set i none) ++ [(.ref p, .box (.obj A' ns) (putA f (.fr (.ref a0)) ns ls)), (.ref a0, .box s ms)]) := g2.perm (List.perm_append_comm (l₁ := [(V.ref p, L.box (.obj A' ns) (putA f (.fr (.ref a0)) ns ls)), (V.ref a0, L.box s ms)]))
      obtain ⟨R', sR, g4, back⟩ := Hold.frame g3
      refine ⟨F, R', env.set i none, _, ⟨a.f, a.r.trans sR, a.fx, a.len, a.wf.none, g4⟩, q, fun l1 env1 v1 F1 H1 q1 s1 w1 g5 => ?_⟩
      have b1 := back F1 H1 _ s1 g5
      have b1' : Hold X.K F1 R H1 [] ((v1, l1) :: (slotsP σ env1 ++ [(.ref p, .box (.obj A' ns) (putA f (.fr (.ref a0)) ns ls)), (.ref a0, .box s ms)])) := b1
      obtain ⟨F2, s2, b2⟩ := b1'.frz
      have b3 : Hold X.K F2 R H1 [] ((.ref p, .box (.obj A' ns) (putA f (.fr (.ref a0)) ns ls)) :: (slotsP σ env1 ++ [(v1, .fr l1.toD), (.ref a0, .box s ms)])) := b2.perm (by
        have q : ∀ (A : List (V × L)) (x y z : V × L), (x :: (A ++ [y, z])).Perm (y :: (A ++ [x, z])) := by
          intro A x y z
          have h1 : (x :: (A ++ [y, z])).Perm (x :: y :: z :: A) := List.Perm.cons _ List.perm_append_comm
          have h2 : (y :: (A ++ [x, z])).Perm (y :: x :: z :: A) := List.Perm.cons _ List.perm_append_comm
          exact h1.trans ((List.Perm.swap _ _ _).trans h2.symm)
        exact q _ _ _ _)
      obtain ⟨p2, dx2, vs2, ep2, f1, f2, f3, fl, b3o⟩ := b3.open
      cases ep2
      have ef2 : fldL ns vs2 f = some (.ref a0) := by
        obtain ⟨As, ow, _, _⟩ := b3o.own
        have m1 : (vs2.zip (putA f (L.fr (.ref a0)) ns ls)).map (·.1) = vs2 := map_zip1 fl
        have m2 : (vs2.zip (putA f (L.fr (.ref a0)) ns ls)).map (·.2) = putA f (L.fr (.ref a0)) ns ls := map_zip2 fl
        obtain ⟨A1, A2, _, o1, _⟩ := ow.split
        rw [m1, m2] at o1
        obtain ⟨w, hw, rw'⟩ := o1.fld hget
        cases rw'
        exact hw
      refine ⟨.ref p, hu, p, _, dx2, _, .ref a0, rfl, f1, hc, hn, fldL_lookup ef2, ?_⟩
      have g6 : Hold X.K F2 R H1 [] (slotsP σ env1 ++ [(v1, .fr l1.toD), (.ref p, .box (.obj A' ns) (putA f (.fr (.ref a0)) ns ls)), (.ref a0, .box s ms)]) := b2.perm (by
        have q : ∀ (A : List (V × L)) (x y z : V × L), (x :: (A ++ [y, z])).Perm (A ++ [x, y, z]) := by
          intro A x y z
          exact (List.perm_middle (l₁ := A) (l₂ := [y, z])).symm
        exact q _ _ _ _)
      obtain ⟨R2, sR2, g7, back2⟩ := Hold.frame g6
      refine ⟨F2, R2, env1, _, ⟨a.f.trans (s1.trans s2), a.r.trans sR2, a.fx, a.len, w1, g7⟩, q1, fun l3 env2 v3 F3 H3 q3 s3 w3 g8 => ?_⟩
      have b4 := back2 F3 H3 _ s3 g8
      have b4' : Hold X.K F3 R H3 [] ((v3, l3) :: (slotsP σ env2 ++ [(v1, .fr l1.toD), (.ref p, .box (.obj A' ns) (putA f (.fr (.ref a0)) ns ls)), (.ref a0, .box s ms)])) := b4
      obtain ⟨F4, s4, b5⟩ := b4'.frz
      have b6 : Hold X.K F4 R H3 [] ([V.ref p, v1, V.ref a0].zip [L.box (.obj A' ns) (putA f (.fr (.ref a0)) ns ls), .fr l1.toD, .box s ms] ++ ([v3].zip ([((.fr l3.toD : L), (none : Option Nat))].map (·.1)) ++ slotsP σ env2)) := b5.perm (by
        have q : ∀ (A : List (V × L)) (w x y z : V × L), (w :: (A ++ [x, y, z])).Perm ([y, x, z] ++ ([w] ++ A)) := by
          intro A w x y z
          have h1 : (w :: (A ++ [x, y, z])).Perm (w :: ([x, y, z] ++ A)) := List.Perm.cons _ List.perm_append_comm
          refine h1.trans ?_
          have h2 : (w :: ([x, y, z] ++ A)).Perm ([x, y, z] ++ (w :: A)) := List.perm_middle.symm
          refine h2.trans ?_
          exact List.Perm.swap _ _ _
        exact q _ _ _ _ _)
      have m3 : Marks σ [v3] [((.fr l3.toD : L), (none : Option Nat))] := ⟨fun i z => by (simp at z), trivial⟩
      refine call_core (C := C) (dds := []) (dvs := []) .nil (hv := [.ref p, v1, .ref a0]) (hls := [.box (.obj A' ns) (putA f (.fr (.ref a0)) ns ls), .fr l1.toD, .box s ms]) rfl m3 w3 b6 (q3 a0) fun r ls' v F' H' q2 s5 le w2 g9 => ?_
      split at q2
      · rename_i A2 ns2 ls2 x1 lf x2
        obtain ⟨hf2, q2⟩ := q2
        have g9 : Hold X.K F' R H' [] ((v, r) :: ((V.ref p, L.box (.obj A2 ns2) ls2) :: (v1, x1) :: (V.ref a0, lf) :: slotsP σ env2)) := g9
        have g10 : Hold X.K F' R H' [] ((V.ref p, L.box (.obj A2 ns2) ls2) :: (V.ref a0, lf) :: (slotsP σ env2 ++ [(v, r)])) := (g9.perm (by
          have q : ∀ (A : List (V × L)) (w x y z : V × L), (w :: x :: y :: z :: A).Perm (y :: x :: z :: (A ++ [w])) := by
            intro A w x y z
            have h1 : (w :: x :: y :: z :: A).Perm (x :: y :: z :: (A ++ [w])) := (List.perm_append_comm (l₁ := [w]) (l₂ := x :: y :: z :: A))
            exact h1.trans (List.Perm.swap _ _ _)
          exact q _ _ _ _ _)).drop
        have g11 := g10.unfocus hf2
        have g12 := g11.backSlot w3 hu
        exact kk _ _ v F' H' q2 ((s1.trans s2).trans ((s3.trans s4).trans s5)) (w3.setL hu) g12
      · exact q2.elim
    · exact q.elim
end
end TL

namespace TL
open PySem PySem.Spec PyProof.Rows L2
/-! ### for x in a list that is owned: each item is handed on with all that it owns -/
theorem Hold.spine {K : PySem.W.Frag} {F R H : Hp} {Xs : List Addr} {ps : List (V × L)} {p : Addr} {o : HO} (h : Hold K F R H (p :: Xs) ps) (hp : H p = some o) : Same F (upd F p o) ∧ Hold K (upd F p o) R H Xs ps := by
  obtain ⟨As, ow, nd, n⟩ := h.own
  have np := n p (List.mem_cons_self)
  have s : Same F (upd F p o) := fun b u e => by
    rw [upd_ne (fun z => by rw [z, np.1] at e; cases e)]; exact e
  have nd' : (p :: (Xs ++ As)).Nodup := nd
  obtain ⟨hnp, nd2⟩ := List.nodup_cons.mp nd'
  refine ⟨s, ⟨As, ow.mono s fun a _ => rfl, nd2, fun a ha => ?_⟩, fun a => ?_, fun b u e => ?_, h.hR⟩
  · obtain ⟨x, y, z⟩ := n a (List.mem_cons_of_mem _ ha)
    exact ⟨by rw [upd_ne (fun w => hnp (by rw [← w]; exact ha))]; exact x, y, z⟩
  · by_cases e : a = p
    · subst e; exact .inl np.2.1
    · rcases h.dis a with q | q | q
      · exact .inl q
      · exact .inr (.inl (by rw [upd_ne e]; exact q))
      · exact .inr (.inr q)
  · by_cases e2 : b = p
    · subst e2; rw [upd_same] at e; rw [← e]; exact hp
    · rw [upd_ne e2] at e; exact h.hF _ _ e
def forM (g : DG) (tb : DS) (De : DEnds) : List L → Ev → Prop
  | [], env => De.nx env
  | l :: ls, env => g l env fun env1 => tb { De with nx := forM g tb De ls, ct := forM g tb De ls, bk := De.nx } env1
def dsForM (t : DE) (g : DG) (tb : DS) : DS := fun De env => t env fun l env1 => match l with
  | .box .lst ls => forM g tb De ls env1
  | _ => False
section
variable {X : Cx} {Y : Act} {pos : Pos} {body : List Stmt}
theorem ds_forM {tg iter : Expr} {t : DE} {g : DG} {tb : DS} (hp : PassesOwn (model X.prog X.w) X.A X.env X.xe) (hc : X.calm = true) (hi : PE X iter (lift Y X.K t)) (hg : PG X tg (liftG Y X.K g)) (hb : PSs X body (liftS Y X.K tb)) (hs : ∀ x, foldedSetIterable iter X.env x = pure x := by intro _; rfl) :
    PS X (.For tg iter body [] pos) (liftS Y X.K (dsForM t g tb)) :=
  PS.imp (ps_for hp hc (pi_list hi) hg hb hs) fun D σ H ⟨F, R, env, De, a, q, k⟩ => by
    refine ⟨F, R, env, _, a, q, fun l env1 v F1 H1 q1 s1 w1 g1 => ?_⟩
    split at q1
    · rename_i ls
      obtain ⟨p, dx, vs, ep, e1, e2, e3, el, g2⟩ := g1.open
      subst ep
      have e1 : H1 p = some (.lst vs) := e1
      have g2 : Hold X.K F1 R H1 (p :: []) (vs.zip ls ++ slotsP σ env1) := g2
      obtain ⟨sp, g3⟩ := g2.spine e1
      have hF2 : (upd F1 p (.lst vs)) p = some (.lst vs) := upd_same
      generalize upd F1 p (.lst vs) = F2 at sp g3 hF2
      have s12 : Same F F2 := s1.trans sp
      refine ⟨p, rfl, ⟨vs, SqL.of e1⟩, ?_⟩
      have inv0 : Hold X.K F2 R H1 [] (slotsP σ env1 ++ (vs.drop 0).zip (ls.drop 0)) := by
        rw [List.drop_zero, List.drop_zero]; exact g3.perm List.perm_append_comm
      refine ⟨fun i m σ' H' => m = ls.length - i ∧ i ≤ ls.length ∧ ∃ F' env', Same F2 F' ∧ (∀ q ∈ Y.fx, σ'[q.1]? = some q.2) ∧ σ'.length = Y.n ∧ Wf σ' env' ∧ Hold X.K F' R H' [] (slotsP σ' env' ++ (vs.drop i).zip (ls.drop i)) ∧ forM g tb De (ls.drop i) env',
        ⟨_, rfl, Nat.zero_le _, F2, env1, Same.refl _, a.fx, a.len, w1, inv0, by rw [List.drop_zero]; exact q1⟩, ?_⟩
      rintro i m σ' H' ⟨rfl, hi, F', env', s, fx', len', wf', hold', q'⟩
      have seq : ∀ {F3 H3 : Hp} {R3 : Hp} {ps : List (V × L)}, Same F2 F3 → Hold X.K F3 R3 H3 [] ps → SqL X.K H3 p vs := fun s3 h3 => SqL.of (h3.hF _ _ (s3 _ _ hF2))
      by_cases hlt : i < ls.length
      · have hltv : i < vs.length := by omega
        have gv : vs[i]? = some vs[i] := List.getElem?_eq_getElem hltv
        refine .inr ⟨⟨vs, vs[i], seq s hold', gv⟩, fun σ3 H3 => ∃ F3 env3, Same F2 F3 ∧ (∀ q ∈ Y.fx, σ3[q.1]? = some q.2) ∧ σ3.length = Y.n ∧ Wf σ3 env3 ∧ Hold X.K F3 R H3 [] (slotsP σ3 env3 ++ (vs.drop (i + 1)).zip (ls.drop (i + 1))) ∧ forM g tb De (ls.drop (i + 1)) env3,
          fun σ3 H3 h3 => ⟨ls.length - (i + 1), by omega, rfl, hlt, h3⟩, fun x H2 ⟨eH, y⟩ => ?_⟩
        subst eH
        have ex : vs[i] = x := by
          have := y vs (seq s hold')
          rw [gv] at this
          exact Option.some.inj this
        rw [List.drop_eq_getElem_cons hlt] at q' hold'
        rw [List.drop_eq_getElem_cons hltv] at hold'
        rw [List.zip_cons_cons, ex] at hold'
        have h4 : Hold X.K F' R H2 [] (((x, ls[i]) :: slotsP σ' env') ++ (vs.drop (i + 1)).zip (ls.drop (i + 1))) := hold'.perm List.perm_middle
        obtain ⟨R2, sR, h5, back⟩ := Hold.frame h4
        have a5 : At Y X.K F' R2 H2 σ' env' := ⟨a.f.trans (s12.trans s), a.r.trans sR, fx', len', wf', h5.drop⟩
        refine ⟨F', R2, env', _, _, a5, h5, q', fun env4 σ4 F4 H4 q4 s4 a4 => ?_⟩
        have dropP : ∀ {F5 H5 : Hp} {ps : List (V × L)}, Same F' F5 → Hold X.K F5 R2 H5 [] ps → Hold X.K F5 R H5 [] ps := fun {F5 H5 ps} s5 h => Hold.dropN ((back F5 H5 _ s5 h).perm List.perm_append_comm)
        refine ⟨F4, R2, env4, _, a4, q4, ⟨fun env5 σ5 F5 H5 q5 s5 a5 => ?_, fun l env5 v σ5 F5 H5 q5 s5 fx5 w5 h5 => ?_, fun env5 σ5 F5 H5 q5 s5 a5 => ?_, fun env5 σ5 F5 H5 q5 s5 a5 => ?_⟩⟩
        · exact ⟨F5, env5, s.trans (s4.trans s5), a5.fx, a5.len, a5.wf, back F5 H5 _ (s4.trans s5) a5.hold, q5⟩
        · exact k.rt _ _ _ _ _ _ q5 (s12.trans (s.trans (s4.trans s5))) fx5 w5 (dropP (s4.trans s5) h5)
        · exact k.nx _ _ _ _ q5 (s12.trans (s.trans (s4.trans s5))) ⟨a5.f, a.r, a5.fx, a5.len, a5.wf, dropP (s4.trans s5) a5.hold⟩
        · exact ⟨F5, env5, s.trans (s4.trans s5), a5.fx, a5.len, a5.wf, back F5 H5 _ (s4.trans s5) a5.hold, q5⟩
      · have e : i = ls.length := by omega
        subst e
        rw [List.drop_length] at q' hold'
        rw [List.zip_nil_right, List.append_nil] at hold'
        exact .inl ⟨⟨vs, seq s hold', by omega⟩, k.nx _ _ _ _ q' (s12.trans s) ⟨a.f.trans (s12.trans s), a.r, fx', len', wf', hold'⟩⟩
    · exact q1.elim
end
/-! ### sorted pairs of ints -/
def pairT (p : Int × Int) : D := .tup [.int p.1, .int p.2]
def fSortedP : D → (L → Prop) → Prop := fun d k => match d with
  | .box .lst ds => ∃ qs : List (Int × Int), ds = qs.map pairT ∧ ∀ qs' : List (Int × Int), qs'.Perm qs → qs'.Pairwise (fun a b => SrtO.lexB b a = false) → k (.box .lst ((qs'.map pairT).map L.fr))
  | _ => False
abbrev cSortedP : Con := con1F fSortedP
def pairV (H : Hp) : V → Int × Int
  | .ref t => match H t with
    | some (.tup [.int i, .int j]) => (i, j)
    | _ => (0, 0)
  | _ => (0, 0)
theorem pairV_rep {K : PySem.W.Frag} {F H : Hp} (hF : Same F H) {v : V} {p : Int × Int} (r : Rep K F v (pairT p)) : pairV H v = p ∧ ∃ t, v = .ref t ∧ H t = some (.tup [.int p.1, .int p.2]) := by
  obtain ⟨t, vs, e, h, rr⟩ := r.tup_inv
  cases rr with
  | cons r1 rr => cases rr with
    | cons r2 rr => cases rr with
      | nil =>
        have e1 := r1.int_inv
        have e2 := r2.int_inv
        subst e; subst e1; subst e2
        have h' : H t = some (.tup [.int p.1, .int p.2]) := hF _ _ h
        exact ⟨by simp only [pairV, h'], t, rfl, h'⟩
theorem pairV_reps {K : PySem.W.Frag} {F H : Hp} (hF : Same F H) : ∀ {vs : List V} {qs : List (Int × Int)}, Reps K F vs (qs.map pairT) → vs.map (pairV H) = qs ∧ ∀ x ∈ vs, Rep K F x (pairT (pairV H x))
  | _, [], .nil => ⟨rfl, fun x hx => by cases hx⟩
  | _, q :: qs, .cons r rr => by
    obtain ⟨a, b⟩ := pairV_reps hF (qs := qs) rr
    obtain ⟨c, _⟩ := pairV_rep hF r
    refine ⟨by rw [List.map_cons, a, c], fun x hx => ?_⟩
    rcases List.mem_cons.mp hx with e | hx
    · rw [e, c]; exact r
    · exact b x hx
theorem reps_of_all {K : PySem.W.Frag} {F : Hp} {f : V → D} : ∀ {vs : List V}, (∀ x ∈ vs, Rep K F x (f x)) → Reps K F vs (vs.map f)
  | [], _ => .nil
  | v :: vs, h => .cons (h v List.mem_cons_self) (reps_of_all fun x hx => h x (List.mem_cons_of_mem _ hx))
theorem bi_sortedP {X : Cx} : BiOk X (.builtin "sorted") cSortedP := bi1F cr_sortedPO fun v d H F R ps k Q r g c h => by
  unfold fSortedP at c
  split at c
  · obtain ⟨qs, e, c⟩ := c
    subst e
    obtain ⟨p, vs, ev, h1, rr⟩ := r.lst_inv
    obtain ⟨m, al⟩ := pairV_reps g.hF rr
    refine ⟨p, vs, pairV H, by rw [ev], SqL.of (g.hF _ _ h1), fun x hx => ?_, fun ys q hs hb hq => ?_⟩
    · obtain ⟨_, t, e, e2⟩ := pairV_rep g.hF (al x hx)
      exact ⟨t, e, e2⟩
    · have ry : Reps X.K F ys ((ys.map (pairV H)).map pairT) := by
        rw [List.map_map]
        exact reps_of_all fun x hx => al x ((hb.perm.mem_iff).mp hx)
      have hp : (ys.map (pairV H)).Perm qs := by rw [← m]; exact hb.perm.map _
      exact h _ _ F _ (c _ hp (List.pairwise_map.mpr hs)) (Same.refl _) (g.newL ry hq)
  · exact c.elim
/-! ### rules -/
section
variable {n bk ct N : Ev → Prop} {rt : L → Ev → Prop} {t u : DS} {ta tb td tk tx tv te : DE} {ra : DA} {g : DG} {i j : Nat} {l m : L} {o : Option L} {e env : Ev} {Q : L → Ev → Prop} {De : DEnds} {C A : Addr} {f : Str} {ns : List Str} {ls ms : List L} {ds : List D} {d x : D} {a : Str} {s : Shape}
def fzK (Q : L → Ev → Prop) : L → Ev → Prop := fun l e => Q (.fr l.toD) e
theorem r_fzK : fzK Q l e = Q (.fr l.toD) e := rfl
theorem r_fz : dFz ta e Q = ta e (fzK Q) := rfl
def ivK4 (b : Bool) (k : List Key) (Q : L → Ev → Prop) (e : Ev) : List (List Key) → List D → Prop := fun ks ds => Q (.fr (.bl (b != (lookK ks ds k).isSome))) e
theorem r_ivK4t {k : List Key} {ks : List (List Key)} : ivK4 true k Q e ks ds = Q (.fr (.bl (!(lookK ks ds k).isSome))) e := by unfold ivK4; simp
theorem r_ivK4f {k : List Key} {ks : List (List Key)} : ivK4 false k Q e ks ds = Q (.fr (.bl (lookK ks ds k).isSome)) e := by unfold ivK4; simp
def ivK3 (b : Bool) (i : Nat) (Q : L → Ev → Prop) (e : Ev) : List Key → Prop := fun k => dcAt e i (ivK4 b k Q e)
theorem r_ivK3 {b : Bool} {k : List Key} : ivK3 b i Q e k = dcAt e i (ivK4 b k Q e) := rfl
def ivK2 (b : Bool) (i : Nat) (Q : L → Ev → Prop) (e : Ev) : D → Prop := fun d => match d with
  | .tup kd => keyK kd (ivK3 b i Q e)
  | _ => False
theorem r_ivK2 {b : Bool} : ivK2 b i Q e (.tup ds) = keyK ds (ivK3 b i Q e) := rfl
def ivK (b : Bool) (i : Nat) (Q : L → Ev → Prop) : L → Ev → Prop := fun l e => ivK2 b i Q e l.toD
theorem r_ivK {b : Bool} : ivK b i Q l e = ivK2 b i Q e l.toD := rfl
theorem r_dinv : dDInV i tk e Q = tk e (ivK false i Q) := by
  unfold dDInV
  refine congrArg (tk e) ?_
  funext lk e1
  unfold ivK ivK2 keyK ivK3 ivK4
  cases lk.toD <;> simp
theorem r_dnotinv : dDNotInV i tk e Q = tk e (ivK true i Q) := by
  unfold dDNotInV
  refine congrArg (tk e) ?_
  funext lk e1
  unfold ivK ivK2 keyK ivK3 ivK4
  cases lk.toD <;> simp
def fiK (C : Addr) (f : Str) (k : List (List Key) → List D → Prop) : L → Prop := fun l => match l with
  | .box (.obj C' ns) ls => C' = C ∧ fdAt ns ls f k
  | _ => False
theorem r_fiK {C' : Addr} {k : List (List Key) → List D → Prop} : fiK C f k (.box (.obj C' ns) ls) = (C' = C ∧ fdAt ns ls f k) := rfl
theorem r_fdAt3 {k : List (List Key) → List D → Prop} : fdAt (a :: ns) (.box .lst ms :: ls) f k = if f = a then False else fdAt ns ls f k := by
  unfold fdAt
  by_cases h : f = a <;> simp [fldL, h]
def nfK3 (i : Nat) (C : Addr) (f : Str) (Q : L → Ev → Prop) (e : Ev) : List Key → Prop := fun k => peekK i (fiK C f (ivK4 true k Q e)) e
theorem r_nfK3 {k : List Key} : nfK3 i C f Q e k = peekK i (fiK C f (ivK4 true k Q e)) e := rfl
def nfK2 (i : Nat) (C : Addr) (f : Str) (Q : L → Ev → Prop) (e : Ev) : D → Prop := fun d => match d with
  | .tup kd => keyK kd (nfK3 i C f Q e)
  | _ => False
theorem r_nfK2 : nfK2 i C f Q e (.tup ds) = keyK ds (nfK3 i C f Q e) := rfl
def nfK (i : Nat) (C : Addr) (f : Str) (Q : L → Ev → Prop) : L → Ev → Prop := fun l e => nfK2 i C f Q e l.toD
theorem r_nfK : nfK i C f Q l e = nfK2 i C f Q e l.toD := rfl
theorem r_dnotinf : dDNotInF i C f tk e Q = tk e (nfK i C f Q) := by
  unfold dDNotInF
  refine congrArg (tk e) ?_
  funext lk e1
  unfold nfK nfK2 keyK nfK3 fdIn peekK fiK fdAt ivK4
  cases h : e1[i]? with
  | none => cases lk.toD <;> rfl
  | some o => cases o with
    | none => cases lk.toD <;> rfl
    | some l => cases l with
      | fr d => cases lk.toD <;> rfl
      | box s ls => cases s <;> cases lk.toD <;> simp
/-! #### lists in fields -/
def lfAt (ns : List Str) (ls : List L) (f : Str) (k : List L → Prop) : Prop := ∃ ms, fldL ns ls f = some (.box .lst ms) ∧ k ms
theorem r_lfAt0 {k : List L → Prop} : lfAt (a :: ns) (.fr d :: ls) f k = if f = a then False else lfAt ns ls f k := by
  unfold lfAt
  by_cases h : f = a <;> simp [fldL, h]
theorem r_lfAt1 {k : List L → Prop} : lfAt (a :: ns) (.box .lst ms :: ls) f k = if f = a then k ms else lfAt ns ls f k := by
  unfold lfAt
  by_cases h : f = a <;> simp [fldL, h]
theorem r_lfAt2 {k : List L → Prop} {ks : List (List Key)} : lfAt (a :: ns) (.box (.dT ks) ms :: ls) f k = if f = a then False else lfAt ns ls f k := by
  unfold lfAt
  by_cases h : f = a <;> simp [fldL, h]
def rQ (Q : L → Ev → Prop) (r : L) : Ev → Prop := fun e => Q r e
theorem r_rQ : rQ Q l e = Q l e := rfl
def faK3 (i : Nat) (C : Addr) (f : Str) (ns : List Str) (ls ms : List L) (Q : L → Ev → Prop) : L → Ev → Prop := fun l e => setK i (rQ Q (.fr .non)) (.box (.obj C ns) (putA f (.box .lst (ms ++ [l])) ns ls)) e
theorem r_faK3 : faK3 i C f ns ls ms Q l e = setK i (rQ Q (.fr .non)) (.box (.obj C ns) (putA f (.box .lst (ms ++ [l])) ns ls)) e := rfl
def faK2 (i : Nat) (C : Addr) (f : Str) (ns : List Str) (ls : List L) (t : DE) (Q : L → Ev → Prop) (e : Ev) : List L → Prop := fun ms => ms.length < sizeLine ∧ unS i (runK t (faK3 i C f ns ls ms Q)) e
theorem r_faK2 : faK2 i C f ns ls ta Q e ms = (ms.length < sizeLine ∧ unS i (runK ta (faK3 i C f ns ls ms Q)) e) := rfl
def faK (i : Nat) (C : Addr) (f : Str) (t : DE) (Q : L → Ev → Prop) (e : Ev) : L → Prop := fun l => match l with
  | .box (.obj C' ns) ls => C' = C ∧ lfAt ns ls f (faK2 i C' f ns ls t Q e)
  | _ => False
theorem r_faK {C' : Addr} : faK i C f ta Q e (.box (.obj C' ns) ls) = (C' = C ∧ lfAt ns ls f (faK2 i C' f ns ls ta Q e)) := rfl
theorem r_fapp : dFApp i C f ta e Q = peekK i (faK i C f ta Q e) e := by
  unfold dFApp peekK faK lfAt faK2 unS runK faK3 setK rQ
  cases h : e[i]? with
  | none => rfl
  | some o => cases o with
    | none => rfl
    | some l => cases l with
      | fr d => rfl
      | box s ls => cases s <;> rfl
/-! #### lent self -/
def runA (ra : DA) (K : List (L × Option Nat) → Ev → Prop) : Ev → Prop := fun e => ra e K
theorem r_runA {K : List (L × Option Nat) → Ev → Prop} : runA ra K e = ra e K := rfl
def seR (i : Nat) (ms : List (Option Nat)) (e : Ev) (Q : L → Ev → Prop) : L → List L → Prop := fun r ls => match ls with
  | o :: ls2 => setK i (rQ Q r) o (restore e ms ls2)
  | [] => False
theorem r_seR {ks : List (Option Nat)} {r : L} : seR i ks e Q r (l :: ls) = setK i (rQ Q r) l (restore e ks ls) := rfl
def seK3 (i : Nat) (K : Con) (dds : List D) (s : L) (Q : L → Ev → Prop) : List (L × Option Nat) → Ev → Prop := fun xs e => K (s :: (xs.map (·.1) ++ dds.map L.fr)) (seR i (xs.map (·.2)) e Q) kF
theorem r_seK3 {K : Con} {dds : List D} {xs : List (L × Option Nat)} : seK3 i K dds l Q xs e = K (l :: (xs.map (·.1) ++ dds.map L.fr)) (seR i (xs.map (·.2)) e Q) kF := rfl
def seK (i : Nat) (A : Addr) (m : Str) (K : Con) (dds : List D) (ra : DA) (Q : L → Ev → Prop) (e : Ev) : L → Prop := fun l => match l with
  | .box (.obj A' ns) ls => (A' = A ∧ m ∉ ns) ∧ unS i (runA ra (seK3 i K dds (.box (.obj A' ns) ls) Q)) e
  | _ => False
theorem r_seK {A' : Addr} {mm : Str} {K : Con} {dds : List D} : seK i A mm K dds ra Q e (.box (.obj A' ns) ls) = ((A' = A ∧ mm ∉ ns) ∧ unS i (runA ra (seK3 i K dds (.box (.obj A' ns) ls) Q)) e) := rfl
theorem r_self {mm : Str} {K : Con} {dds : List D} : dSelf i A mm K dds ra e Q = peekK i (seK i A mm K dds ra Q e) e := by
  unfold dSelf peekK seK unS runA seK3 seR setK rQ
  cases h : e[i]? with
  | none => rfl
  | some o => cases o with
    | none => rfl
    | some l => cases l with
      | fr d => rfl
      | box s ls => cases s <;> rfl
def bxAt (ns : List Str) (ls : List L) (f : Str) (k : Shape → List L → Prop) : Prop := ∃ s ms, fldL ns ls f = some (.box s ms) ∧ k s ms
theorem r_bxAt0 {k : Shape → List L → Prop} : bxAt (a :: ns) (.fr d :: ls) f k = if f = a then False else bxAt ns ls f k := by
  unfold bxAt
  by_cases h : f = a <;> simp [fldL, h]
theorem r_bxAt1 {k : Shape → List L → Prop} : bxAt (a :: ns) (.box s ms :: ls) f k = if f = a then k s ms else bxAt ns ls f k := by
  unfold bxAt
  by_cases h : f = a
  · simp only [fldL, if_pos h]
    apply propext
    constructor
    · rintro ⟨s', ms', h, q⟩
      cases h
      exact q
    · intro q; exact ⟨s, ms, rfl, q⟩
  · simp [fldL, h]
def saR (i : Nat) (f : Str) (a : Addr) (e : Ev) (Q : L → Ev → Prop) : L → List L → Prop := fun r ls => match ls with
  | [.box (.obj A2 ns2) ls2, _, lf, _] => fldL ns2 ls2 f = some (.fr (.ref a)) ∧ setK i (rQ Q r) (.box (.obj A2 ns2) (putA f lf ns2 ls2)) e
  | _ => False
theorem r_saR {p A2 : Addr} {r x1 x2 : L} : saR i f p e Q r [.box (.obj A2 ns) ls, x1, l, x2] = (fldL ns ls f = some (.fr (.ref p)) ∧ setK i (rQ Q r) (.box (.obj A2 ns) (putA f l ns ls)) e) := rfl
def saK4 (i : Nat) (A : Addr) (f : Str) (K : Con) (ns : List Str) (ls : List L) (s : Shape) (ms : List L) (l1 : L) (Q : L → Ev → Prop) : L → Ev → Prop := fun l3 e => ∀ a, K [.box (.obj A ns) (putA f (.fr (.ref a)) ns ls), .fr l1.toD, .box s ms, .fr l3.toD] (saR i f a e Q) kF
theorem r_saK4 {K : Con} {l1 : L} : saK4 i A f K ns ls s ms l1 Q l e = ∀ a, K [.box (.obj A ns) (putA f (.fr (.ref a)) ns ls), .fr l1.toD, .box s ms, .fr l.toD] (saR i f a e Q) kF := rfl
def saK3 (i : Nat) (A : Addr) (f : Str) (K : Con) (ns : List Str) (ls : List L) (t3 : DE) (s : Shape) (ms : List L) (Q : L → Ev → Prop) : L → Ev → Prop := fun l1 e => t3 e (saK4 i A f K ns ls s ms l1 Q)
theorem r_saK3 {K : Con} : saK3 i A f K ns ls ta s ms Q l e = ta e (saK4 i A f K ns ls s ms l Q) := rfl
def saK2 (i : Nat) (A : Addr) (f : Str) (K : Con) (ns : List Str) (ls : List L) (t1 t3 : DE) (Q : L → Ev → Prop) (e : Ev) : Shape → List L → Prop := fun s ms => unS i (runK t1 (saK3 i A f K ns ls t3 s ms Q)) e
theorem r_saK2 {K : Con} : saK2 i A f K ns ls ta tb Q e s ms = unS i (runK ta (saK3 i A f K ns ls tb s ms Q)) e := rfl
def saK (i : Nat) (A : Addr) (m f : Str) (K : Con) (t1 t3 : DE) (Q : L → Ev → Prop) (e : Ev) : L → Prop := fun l => match l with
  | .box (.obj A' ns) ls => (A' = A ∧ m ∉ ns) ∧ bxAt ns ls f (saK2 i A' f K ns ls t1 t3 Q e)
  | _ => False
theorem r_saK {A' : Addr} {mm : Str} {K : Con} : saK i A mm f K ta tb Q e (.box (.obj A' ns) ls) = ((A' = A ∧ mm ∉ ns) ∧ bxAt ns ls f (saK2 i A' f K ns ls ta tb Q e)) := rfl
theorem r_selfal {mm : Str} {K : Con} : dSelfAl i A mm f K ta tb e Q = peekK i (saK i A mm f K ta tb Q e) e := by
  unfold dSelfAl peekK saK bxAt saK2 unS runK saK3 saK4 saR setK rQ
  cases h : e[i]? with
  | none => rfl
  | some o => cases o with
    | none => rfl
    | some l => cases l with
      | fr d => rfl
      | box s ls => cases s <;> rfl
/-! #### lists whose items are handed on -/
def fmK (g : DG) (t : DS) (De : DEnds) : L → Ev → Prop := fun l e => match l with
  | .box .lst ls => forM g t De ls e
  | _ => False
theorem r_fmK : fmK g t De (.box .lst ls) e = forM g t De ls e := rfl
theorem r_forM : dsForM ta g t De e = ta e (fmK g t De) := rfl
theorem forM_ix' : ∀ {ls : List L} {env : Ev} {I : Nat → Ev → Prop} (h0 : I 0 env)
    (hs : ∀ (i : Nat) (l : L) (env : Ev), ls[i]? = some l → I i env → ∀ N : Ev → Prop, (∀ e, I (i + 1) e → N e) → g l env (bodyK t N rt n))
    (he : ∀ e, I ls.length e → n e), forM g t ⟨n, rt, bk, ct⟩ ls env
  | [], env, I, h0, hs, he => he _ h0
  | l :: ls, env, I, h0, hs, he => hs 0 l env rfl h0 _ fun e h1 => forM_ix' (I := fun i e => I (i + 1) e) h1 (fun i l env hl => hs (i + 1) l env (by simpa using hl)) he
theorem r_sortedP {k : L → Prop} : fSortedP (.box .lst ds) k = ∃ qs : List (Int × Int), ds = qs.map pairT ∧ ∀ qs' : List (Int × Int), qs'.Perm qs → qs'.Pairwise (fun a b => SrtO.lexB b a = false) → k (.box .lst ((qs'.map pairT).map L.fr)) := rfl
end
end TL

namespace TL
open PySem PySem.Spec PyProof.Rows L2
/-! ### for x in a list of boxes: each is handed on in turn and comes back -/
def bxB : L → Bool
  | .box _ _ => true
  | _ => false
def holL : V → L
  | .ref a => .fr (.ref a)
  | _ => .fr .non
def AllRef (vs : List V) : Prop := ∀ v ∈ vs, ∃ a, v = .ref a
section
variable {K : PySem.W.Frag} {F R H : Hp} {Xs : List Addr}
theorem Hold.refs : ∀ {vs : List V} {ls : List L} {ps : List (V × L)}, vs.length = ls.length → ls.all bxB = true → Hold K F R H Xs (vs.zip ls ++ ps) → AllRef vs
  | [], _, _, _, _, _ => fun v hv => by cases hv
  | v :: vs, [], _, h, _, _ => by simp at h
  | v :: vs, .fr d :: ls, _, _, hb, _ => by simp [bxB] at hb
  | v :: vs, .box s ms :: ls, ps, h, hb, g => by
    have g1 : Hold K F R H Xs ((v, .box s ms) :: (vs.zip ls ++ ps)) := g
    obtain ⟨p, _, _, e, _⟩ := g1.open
    have ih := Hold.refs (vs := vs) (ls := ls) (by simpa using h) (by rw [List.all_cons] at hb; exact (Bool.and_eq_true_iff.mp hb).2) g1.drop
    intro w hw
    rcases List.mem_cons.mp hw with rfl | hw
    · exact ⟨p, e⟩
    · exact ih w hw
theorem Hold.pushHol : ∀ {vs : List V} {ps : List (V × L)}, AllRef vs → Hold K F R H Xs ps → Hold K F R H Xs (vs.zip (vs.map holL) ++ ps)
  | [], _, _, g => g
  | v :: vs, ps, h, g => by
    obtain ⟨a, e⟩ := h v List.mem_cons_self
    subst e
    exact (Hold.pushHol (vs := vs) (fun w hw => h w (List.mem_cons_of_mem _ hw)) g).push (.ref a)
theorem Hold.holEq : ∀ {vs ws : List V} {ps : List (V × L)}, AllRef vs → ws.length = vs.length → Hold K F R H Xs (ws.zip (vs.map holL) ++ ps) → ws = vs
  | [], ws, _, _, h, _ => List.length_eq_zero_iff.mp h
  | v :: vs, [], _, _, h, _ => by simp at h
  | v :: vs, w :: ws, ps, h, hl, g => by
    obtain ⟨a, e⟩ := h v List.mem_cons_self
    subst e
    have g1 : Hold K F R H Xs ((w, .fr (.ref a)) :: (ws.zip (vs.map holL) ++ ps)) := g
    have r := g1.head
    have ih := Hold.holEq (vs := vs) (ws := ws) (fun w hw => h w (List.mem_cons_of_mem _ hw)) (by simpa using hl) g1.drop
    cases r
    rw [ih]
theorem Hold.hollow {v : V} {ls : List L} {ps : List (V × L)} (h : Hold K F R H Xs ((v, .box .lst ls) :: ps)) (hb : ls.all bxB = true) :
    ∃ p vs, v = .ref p ∧ H p = some (.lst vs) ∧ vs.length = ls.length ∧ AllRef vs ∧ Hold K F R H Xs ((.ref p, .box .lst (vs.map holL)) :: (vs.zip ls ++ ps)) := by
  obtain ⟨p, dx, vs, e, e1, e2, e3, el, g⟩ := h.open
  have hr := g.refs el hb
  have g2 := g.pushHol hr
  have l1 : (vs.zip (vs.map holL)).map (·.1) = vs := map_zip1 (by simp)
  have l2 : (vs.zip (vs.map holL)).map (·.2) = vs.map holL := map_zip2 (by simp)
  have g3 := Hold.close (s := .lst) g2 (by rw [l1]; exact e1) trivial trivial
  rw [l2] at g3
  exact ⟨p, vs, e, e1, el, hr, g3⟩
theorem Hold.holAt {p : Addr} {vs : List V} {ps : List (V × L)} (h : Hold K F R H Xs ((.ref p, .box .lst (vs.map holL)) :: ps)) (hr : AllRef vs) : H p = some (.lst vs) := by
  obtain ⟨p', dx, ws, e, e1, e2, e3, el, g⟩ := h.open
  cases e
  have := g.holEq hr (by simpa using el)
  rw [this] at e1
  exact e1
theorem Hold.unhollow {p : Addr} {vs : List V} {ls : List L} {ps : List (V × L)} (h : Hold K F R H Xs ((.ref p, .box .lst (vs.map holL)) :: (vs.zip ls ++ ps))) (hr : AllRef vs) (hl : vs.length = ls.length) :
    Hold K F R H Xs ((.ref p, .box .lst ls) :: ps) := by
  obtain ⟨p', dx, ws, e, e1, e2, e3, el, g⟩ := h.open
  cases e
  have ew := g.holEq hr (by simpa using el)
  subst ew
  have g1 : Hold K F R H (Shape.adr .lst p dx ++ Xs) (ws.zip ls ++ ps) := g.dropN
  have l1 : (ws.zip ls).map (·.1) = ws := map_zip1 hl
  have l2 : (ws.zip ls).map (·.2) = ls := map_zip2 hl
  have g3 := Hold.close (s := .lst) g1 (by rw [l1]; exact e1) trivial trivial
  rw [l2] at g3
  exact g3
end
/-- the turns of a walk over slot i into slot j -/
def forB (i j : Nat) (tb : DS) (De : DEnds) : List L → List L → Ev → Prop
  | done, [], env => De.nx (env.set i (some (.box .lst done)))
  | done, l :: ls, env =>
    tb { nx := fun e => dTake j e fun l' e' => forB i j tb De (done ++ [l']) ls e', rt := fun _ _ => False, bk := fun _ => False, ct := fun e => dTake j e fun l' e' => forB i j tb De (done ++ [l']) ls e' } (env.set j (some l))
def dsForB (i j : Nat) (tb : DS) : DS := fun De env => match env[i]? with
  | some (some (.box .lst ls)) => (j < env.length ∧ ls.all bxB = true) ∧ forB i j tb De [] ls (env.set i none)
  | _ => False
theorem pss_some {X : Cx} {body : List Stmt} {t : DS} {own : List Nat} (h : ∀ Y, YOk own Y → PSs X body (liftS Y X.K t)) : PSs X body (fun D σ H => ∃ Y, YOk own Y ∧ liftS Y X.K t D σ H) :=
  ⟨fun pins s σ H D I ⟨Y, y, q⟩ => (h Y y).run pins s σ H D I q⟩
section
variable {X : Cx} {Y : Act} {pos : Pos} {body : List Stmt}
theorem ds_forB {tg iter : Expr} {tb : DS} {i j : Nat} {own : List Nat} (hp : PassesOwn (model X.prog X.w) X.A X.env X.xe) (hc : X.calm = true) (ho : PE X iter (tVar i)) (hij : i ≠ j) (hio : i ∉ own) (hjo : j ∉ own) (hY : ∀ q ∈ Y.fx, q.1 ≠ j ∧ q.1 ∉ own)
    (hg : PG X tg (gName j)) (hb : ∀ Y, YOk own Y → PSs X body (liftS Y X.K tb)) (hs : ∀ x, foldedSetIterable iter X.env x = pure x := by intro _; rfl) :
    PS X (.For tg iter body [] pos) (liftS Y X.K (dsForB i j tb)) :=
  PS.imp (ps_for hp hc (pi_list ho) hg (pss_some hb) hs) fun D σ H ⟨F, R, env, De, a, q, k⟩ => by
    unfold dsForB at q
    split at q
    · rename_i ls hev
      obtain ⟨⟨hj, hbx⟩, q⟩ := q
      have hjn : j < Y.n := by rw [← a.len, a.wf.len]; exact hj
      obtain ⟨u, hu⟩ := a.wf.get hev
      have g1 := a.hold.perm (slots_get hev hu)
      obtain ⟨p, vs, ep, e1, el, hr, g2⟩ := g1.hollow hbx
      subst ep
      have inv0 : Hold X.K F R H [] (slotsP σ (env.set i none) ++ ((.ref p, .box .lst (vs.map holL)) :: vs.zip ([] ++ ls))) := by
        refine g2.perm ?_
        exact List.perm_append_comm (l₁ := (V.ref p, L.box .lst (vs.map holL)) :: vs.zip ls)
      refine ⟨.ref p, hu, p, rfl, ⟨vs, SqL.of e1⟩, ?_⟩
      refine ⟨fun t m σ' H' => m = ls.length - t ∧ ∃ F' env' done todo, t + todo.length = ls.length ∧ done.length = t ∧ Same F F' ∧ (∀ q ∈ Y.fx, σ'[q.1]? = some q.2) ∧ σ'[i]? = some (some (.ref p)) ∧ σ'.length = Y.n ∧ Wf σ' env' ∧ Hold X.K F' R H' [] (slotsP σ' env' ++ ((.ref p, .box .lst (vs.map holL)) :: vs.zip (done ++ todo))) ∧ forB i j tb De done todo env',
        ⟨_, rfl, F, env.set i none, [], ls, by simp, rfl, Same.refl _, a.fx, hu, a.len, a.wf.none, inv0, q⟩, ?_⟩
      rintro t m σ' H' ⟨rfl, F', env', done, todo, hlen, hdone, s, fx', hi', len', wf', hold', q'⟩
      have hat : ∀ {F3 H3 R3 : Hp} {ps qs : List (V × L)}, Hold X.K F3 R3 H3 [] (ps ++ ((.ref p, .box .lst (vs.map holL)) :: qs)) → H3 p = some (.lst vs) := fun h3 => Hold.holAt (h3.perm List.perm_middle) hr
      cases todo with
      | nil =>
        rw [List.append_nil] at hold'
        have ht : t = ls.length := by simpa using hlen
        have hvd : vs.length = done.length := by rw [el, hdone, ht]
        unfold forB at q'
        have g3 : Hold X.K F' R H' [] ((.ref p, .box .lst (vs.map holL)) :: (vs.zip done ++ slotsP σ' env')) := hold'.perm (List.perm_append_comm (l₂ := (V.ref p, L.box .lst (vs.map holL)) :: vs.zip done))
        have g4 := g3.unhollow hr hvd
        have g5 : Hold X.K F' R H' [] ((.ref p, .box .lst done) :: (slotsP σ' env' ++ [])) := by rw [List.append_nil]; exact g4
        have g6 := g5.backSlot wf' hi'
        rw [List.nil_append] at g6
        exact .inl ⟨⟨vs, SqL.of (hat hold'), by omega⟩, k.nx _ _ _ _ q' s ⟨a.f.trans s, a.r, fx', len', wf'.setL hi', g6⟩⟩
      | cons l todo =>
        have htv : t < vs.length := by rw [el]; simp at hlen; omega
        have gv : vs[t]? = some vs[t] := List.getElem?_eq_getElem htv
        refine .inr ⟨⟨vs, vs[t], SqL.of (hat hold'), gv⟩, fun σ3 H3 => ∃ F3 env3 l3, Same F F3 ∧ (∀ q ∈ Y.fx, σ3[q.1]? = some q.2) ∧ σ3[i]? = some (some (.ref p)) ∧ σ3.length = Y.n ∧ Wf σ3 env3 ∧ Hold X.K F3 R H3 [] (slotsP σ3 env3 ++ ((.ref p, .box .lst (vs.map holL)) :: vs.zip ((done ++ [l3]) ++ todo))) ∧ forB i j tb De (done ++ [l3]) todo env3,
          fun σ3 H3 ⟨F3, env3, l3, h3⟩ => ⟨ls.length - (t + 1), by simp at hlen; omega, rfl, F3, env3, done ++ [l3], todo, by simp at hlen; omega, by simp [hdone], h3⟩, fun x H2 ⟨eH, y⟩ => ?_⟩
        subst eH
        have ex : vs[t] = x := by
          have := y vs (SqL.of (hat hold'))
          rw [gv] at this
          exact Option.some.inj this
        -- the list is cut at the turn's item
        have evs : vs = vs.take t ++ x :: vs.drop (t + 1) := by
          rw [← ex, ← List.drop_eq_getElem_cons htv, List.take_append_drop]
        have hA : (vs.take t).length = done.length := by rw [List.length_take, hdone]; omega
        have ezip : ∀ l', vs.zip (done ++ l' :: todo) = (vs.take t).zip done ++ (x, l') :: (vs.drop (t + 1)).zip todo := fun l' => by
          conv => lhs; rw [evs]
          rw [List.zip_append hA, List.zip_cons_cons]
        rw [ezip] at hold'
        generalize hQ : (vs.take t).zip done ++ (vs.drop (t + 1)).zip todo = Qs at *
        have pq : ∀ l', ((vs.take t).zip done ++ (x, l') :: (vs.drop (t + 1)).zip todo).Perm ((x, l') :: Qs) := fun l' => by
          rw [← hQ]; exact List.perm_middle
        have h4 : Hold X.K F' R H2 [] (((x, l) :: slotsP σ' env') ++ ((.ref p, .box .lst (vs.map holL)) :: Qs)) := hold'.perm (by
          refine (List.Perm.append_left _ (List.Perm.cons _ (pq l))).trans ?_
          refine (List.Perm.append_left _ (List.Perm.swap _ _ _)).trans ?_
          exact List.perm_middle)
        obtain ⟨R2, sR, h5, back⟩ := Hold.frame h4
        let Y2 : Act := { Y with fx := Y.fx ++ [(i, some (.ref p))] }
        have y2 : YOk [j] Y2 := fun q hq => by
          rcases List.mem_append.mp hq with z | z
          · have := (hY q z).1; simpa using this
          · have z : q = (i, some (.ref p)) := by simpa using z
            rw [z]; simpa using hij
        have a5 : At Y2 X.K F' R2 H2 σ' env' := ⟨a.f.trans s, a.r.trans sR, fun q hq => by
          rcases List.mem_append.mp hq with z | z
          · exact fx' q z
          · have z : q = (i, some (.ref p)) := by simpa using z
            rw [z]; exact hi', len', wf', h5.drop⟩
        unfold forB at q'
        have a6 := a5.set (Same.refl _) (fun q hq e => y2 q hq (by rw [e]; exact List.mem_singleton.mpr rfl)) a5.wf h5
        have hj6 : (σ'.set j (some x))[j]? = some (some x) := by
          rw [List.getElem?_set, if_pos rfl, if_pos (by rw [len']; exact hjn)]
        let Y3 : Act := { Y2 with fx := Y2.fx ++ [(j, some x)] }
        have y3 : YOk own Y3 := fun q hq => by
          rcases List.mem_append.mp hq with z | z
          · rcases List.mem_append.mp z with z | z
            · exact (hY q z).2
            · have z : q = (i, some (.ref p)) := by simpa using z
              rw [z]; exact hio
          · have z : q = (j, some x) := by simpa using z
            rw [z]; exact hjo
        have a7 : At Y3 X.K F' R2 H2 (σ'.set j (some x)) (env'.set j (some l)) := ⟨a6.f, a6.r, fun q hq => by
          rcases List.mem_append.mp hq with z | z
          · exact a6.fx q z
          · have z : q = (j, some x) := by simpa using z
            rw [z]; exact hj6, a6.len, a6.wf, a6.hold⟩
        have next : ∀ env6 σ6 F6 H6, (dTake j env6 fun l' e' => forB i j tb De (done ++ [l']) todo e') → Same F' F6 → At Y3 X.K F6 R2 H6 σ6 env6 → ∃ F3 env3 l3, Same F F3 ∧ (∀ q ∈ Y.fx, σ6[q.1]? = some q.2) ∧ σ6[i]? = some (some (.ref p)) ∧ σ6.length = Y.n ∧ Wf σ6 env3 ∧ Hold X.K F3 R H6 [] (slotsP σ6 env3 ++ ((.ref p, .box .lst (vs.map holL)) :: vs.zip ((done ++ [l3]) ++ todo))) ∧ forB i j tb De (done ++ [l3]) todo env3 := fun env6 σ6 F6 H6 q6 s6 a8 => by
          unfold dTake at q6
          split at q6
          · rename_i l' he6
            have hu6 : σ6[j]? = some (some x) := a8.fx (j, some x) (List.mem_append_right _ (by simp))
            have hi6 : σ6[i]? = some (some (.ref p)) := a8.fx (i, some (.ref p)) (List.mem_append_left _ (List.mem_append_right _ (by simp)))
            have g7 := a8.hold.perm (slots_get he6 hu6)
            have g8 := back F6 H6 _ s6 g7
            refine ⟨F6, env6.set j none, l', s.trans s6, fun q hq => a8.fx q (List.mem_append_left _ (List.mem_append_left _ hq)), hi6, a8.len, a8.wf.none, ?_, q6⟩
            rw [List.append_assoc, List.singleton_append, ezip]
            refine g8.perm ?_
            refine List.Perm.trans ?_ (List.Perm.append_left _ (List.Perm.cons _ (pq l').symm))
            refine List.Perm.trans ?_ (List.Perm.append_left _ (List.Perm.swap _ _ _))
            exact List.perm_middle.symm
          · exact q6.elim
        refine ⟨Y3, y3, F', R2, env'.set j (some l), _, a7, q', ⟨next, fun _ _ _ _ _ _ z => z.elim, fun _ _ _ _ z => z.elim, next⟩⟩
    · exact q.elim
end
section
variable {n bk ct N : Ev → Prop} {rt : L → Ev → Prop} {t : DS} {i j : Nat} {e : Ev} {De : DEnds} {ls : List L} {l : L}
def fbK (i j : Nat) (t : DS) (De : DEnds) (e : Ev) : L → Prop := fun l => match l with
  | .box .lst ls => (j < e.length ∧ ls.all bxB = true) ∧ unS i (forB i j t De [] ls) e
  | _ => False
theorem r_fbK : fbK i j t De e (.box .lst ls) = ((j < e.length ∧ ls.all bxB = true) ∧ unS i (forB i j t De [] ls) e) := rfl
theorem r_forB : dsForB i j t De e = peekK i (fbK i j t De e) e := by
  unfold dsForB peekK fbK unS
  cases h : e[i]? with
  | none => rfl
  | some o => cases o with
    | none => rfl
    | some l => cases l with
      | fr d => rfl
      | box s ls => cases s <;> rfl
def noR : L → Ev → Prop := fun _ _ => False
def tkK (j : Nat) (K : L → Ev → Prop) : Ev → Prop := fun e => dTake j e K
theorem r_tkK {K : L → Ev → Prop} : tkK j K e = dTake j e K := rfl
theorem forB_ix' : ∀ {ls done : List L} {e : Ev} {I : Nat → List L → Ev → Prop} {k : Nat} (h0 : I k done e)
    (hs : ∀ (a : Nat) (done : List L) (l : L) (e : Ev), ls[a]? = some l → I (k + a) done e → ∀ K : L → Ev → Prop, (∀ l' e', I (k + a + 1) (done ++ [l']) e' → K l' e') → setK j (fun e => t ⟨tkK j K, noR, noK, tkK j K⟩ e) l e)
    (he : ∀ done e, I (k + ls.length) done e → setK i n (.box .lst done) e), forB i j t ⟨n, rt, bk, ct⟩ done ls e
  | [], done, e, I, k, h0, hs, he => by unfold forB; exact he _ _ h0
  | l :: ls, done, e, I, k, h0, hs, he => by
    unfold forB
    refine hs 0 done l e rfl h0 (fun l' e' => forB i j t ⟨n, rt, bk, ct⟩ (done ++ [l']) ls e') fun l' e' h1 => ?_
    refine forB_ix' (k := k + 1) h1 (fun a d l e hl hI K hK => ?_) fun d e h => he d e ?_
    · have e1 : k + 1 + a = k + (a + 1) := by omega
      rw [e1] at hI
      refine hs (a + 1) d l e (by simpa using hl) hI K fun l' e' h2 => hK l' e' ?_
      rw [e1]; exact h2
    · have e1 : k + (l :: ls).length = k + 1 + ls.length := by simp; omega
      rw [e1]; exact h
end
end TL

namespace TL
open PySem PySem.Spec PyProof.Rows L2
/-! ### a list emptied -/
def mClear : Mt := fun l ls k => match l, ls with
  | .box .lst _, [] => k (.fr .non) (.box .lst [])
  | _, _ => False
section
variable {X : Cx}
theorem mtr_clear : MtR X "list.clear" (liftM X.K mClear) := MtR.imp mt_clear fun x vs H Q ⟨F, R, l, ls, ps, k, hl, g, q, kk⟩ => by
  unfold mClear at q
  split at q
  · rename_i xs
    match vs, hl with
    | [], _ =>
      have g : Hold X.K F R H [] ((x, .box .lst xs) :: ps) := g
      obtain ⟨p, dx, ws, ex, eH, _, _, el, g1⟩ := g.open
      refine ⟨p, ws, ex, rfl, eH, ?_⟩
      have g2 : Hold X.K F R H (Shape.lst.adr p dx ++ []) (([] : List (V × L)) ++ ps) := g1.dropN
      have g3 := Hold.closeW (s := .lst) (s' := .lst) g2 True.intro True.intro rfl rfl
      subst ex
      exact kk _ _ _ F _ q (Same.refl _) (g3.push .non)
  · exact q.elim
end
/-! ### calls with keywords: all arguments known for good -/
def frArgs (ds : List D) : List (L × Option Nat) := ds.map fun d => ((.fr d : L), (none : Option Nat))
def dCallK (C : Con) (n m : Nat) (gD : List D → List D → List D) (t : DA) : DE := fun env Q => t env fun xs env1 => ∃ ds, xs = frArgs ds ∧ ds.length = n + m ∧ C ((gD (ds.take n) (ds.drop n)).map L.fr) (fun r _ => Q r env1) kF
section
variable {X : Cx} {Y : Act} {es : List Expr} {e : Expr}
theorem lift_acons {t : DE} {r : DA} {σ : L2.St} {H : Hp} {Q : List V → Hp → Prop} (h : liftA Y X.K (daCons t r) σ H Q) : tCons (lift Y X.K t) (liftA Y X.K r) σ H Q := by
  obtain ⟨F, R, env, k, a, q, kk⟩ := h
  refine ⟨F, R, env, _, a, q, fun l env1 v F1 H1 q1 s1 w1 g1 => ?_⟩
  obtain ⟨F2, s2, g2⟩ := g1.frz
  refine ⟨F2, R, env1, _, a.to (s1.trans s2) w1 g2.drop, q1, fun xs env2 vs F3 H3 q3 s3 w3 m3 g3 => ?_⟩
  exact kk _ env2 (v :: vs) F3 H3 q3 ((s1.trans s2).trans s3) w3 ⟨fun i z => by (simp at z), m3⟩ (g3.push (g2.head.mono s3))
theorem lift_anil {σ : L2.St} {H : Hp} {Q : List V → Hp → Prop} (h : liftA Y X.K daNil σ H Q) : tNil σ H Q := by
  obtain ⟨F, R, env, k, a, q, kk⟩ := h
  exact kk [] env [] F H q (Same.refl _) a.wf True.intro a.hold
theorem lift_mono {t : DE} {σ : L2.St} {H : Hp} {Q Q' : VK} (h : lift Y X.K t σ H Q) (hq : ∀ v H, Q v H → Q' v H) : lift Y X.K t σ H Q' := by
  obtain ⟨F, R, env, k, a, q, kk⟩ := h
  exact ⟨F, R, env, k, a, q, fun l env' v F' H' q' s w g => hq _ _ (kk l env' v F' H' q' s w g)⟩
theorem sp1 {ta : DE} {σ : L2.St} {H : Hp} {Q : List V → Hp → Prop} (h : liftA Y X.K (daCons ta daNil) σ H Q) : tCons (lift Y X.K ta) tNil σ H Q :=
  lift_mono (lift_acons h) fun _ _ q => lift_anil q
theorem sp2 {ta tb : DE} {σ : L2.St} {H : Hp} {Q : List V → Hp → Prop} (h : liftA Y X.K (daCons ta (daCons tb daNil)) σ H Q) : tCons (lift Y X.K ta) (tCons (lift Y X.K tb) tNil) σ H Q :=
  lift_mono (lift_acons h) fun _ _ q => sp1 q
theorem sp3 {ta tb tc : DE} {σ : L2.St} {H : Hp} {Q : List V → Hp → Prop} (h : liftA Y X.K (daCons ta (daCons tb (daCons tc daNil))) σ H Q) : tCons (lift Y X.K ta) (tCons (lift Y X.K tb) (tCons (lift Y X.K tc) tNil)) σ H Q :=
  lift_mono (lift_acons h) fun _ _ q => sp2 q
theorem hold_frArgs {K : PySem.W.Frag} {F R H : Hp} {Xs : List Addr} : ∀ {vs : List V} {ds : List D} {ps : List (V × L)}, vs.length = ds.length → Hold K F R H Xs (vs.zip ((frArgs ds).map (·.1)) ++ ps) → Reps K F vs ds ∧ Hold K F R H Xs ps
  | [], [], _, _, g => ⟨.nil, g⟩
  | v :: vs, d :: ds, ps, hl, g => by
    have g1 : Hold K F R H Xs ((v, .fr d) :: (vs.zip ((frArgs ds).map (·.1)) ++ ps)) := g
    obtain ⟨r, g2⟩ := hold_frArgs (vs := vs) (ds := ds) (by simpa using hl) g1.drop
    exact ⟨.cons g1.head r, g2⟩
  | [], _ :: _, _, h, _ => by simp at h
  | _ :: _, [], _, h, _ => by simp at h
theorem lift_callK {C : Con} {n m : Nat} {gD : List D → List D → List D} {gV : List V → List V → List V} {t : DA} {E : XK} (hgD : ∀ F vs ds zs es, Reps X.K F vs ds → Reps X.K F zs es → Reps X.K F (gV vs zs) (gD ds es)) {σ : L2.St} {H : Hp} {Q : VK} (h : lift Y X.K (dCallK C n m gD t) σ H Q) :
    liftA Y X.K t σ H fun all H1 => (all.take n).length = n ∧ (all.drop n).length = m ∧ spD X.K C (gV (all.take n) (all.drop n)) H1 Q E := by
  obtain ⟨F, R, env, k, a, q, kk⟩ := h
  refine ⟨F, R, env, _, a, q, fun xs env1 vs F1 H1 ⟨ds, ex, hlen, q1⟩ s1 w1 m1 g1 => ?_⟩
  subst ex
  have hl : vs.length = ds.length := by rw [m1.len]; simp [frArgs]
  obtain ⟨r, g2⟩ := hold_frArgs hl g1
  have r2 := hgD F1 _ _ _ _ (r.take n) (r.drop n)
  refine ⟨by rw [List.length_take]; omega, by rw [List.length_drop]; omega, ?_⟩
  obtain ⟨R', sR, g3, back⟩ := Hold.frame (ps := []) (qs := slotsP σ env1) g2
  have g4 := Hold.pushs r2 g3
  refine ⟨F1, R', _, _, _, by rw [List.length_map, r2.length], by rw [List.append_nil] at g4; exact g4, q1, fun rr ls' v F' H' q2 s2 z g5 => ?_, fun x ls' cls d F' H' q2 => q2.elim⟩
  have g6 := back F' H' _ s2 g5
  have g7 : Hold X.K F' R H' [] ((v, rr) :: slotsP σ env1) := by
    refine Hold.dropN (ps := (gV (vs.take n) (vs.drop n)).zip ls') (g6.perm ?_)
    exact (List.perm_middle (l₁ := (gV (vs.take n) (vs.drop n)).zip ls')).symm
  exact kk _ _ v F' H' q2 (s1.trans s2) w1 g7
theorem de_callN {C : Con} {n m : Nat} {gD : List D → List D → List D} {gV : List V → List V → List V} {g : List Value → List Value → List Value} {t : DA} {tP tK : TA} {k : Nat} {f : Addr} {fd : FuncData} {ps ks : List Str} {x : Str} {p pos : Pos} {kws : List Keyword}
    (F : FnOk X.prog X.w X.K X.mg X.base (L2.CX X.prog X.w) k f fd ps (spD X.K C)) (hr : Room k X.A) (hg : Gl X x) (hm : X.mg x = some (.ref f)) (hk : PySem.W.keepIn X.K (.ref f) = true) (hb : KBn X.K fd ps n ks g gV)
    (hgD : ∀ F vs ds zs es, Reps X.K F vs ds → Reps X.K F zs es → Reps X.K F (gV vs zs) (gD ds es)) (hm2 : m = ks.length) (ha : PA X (e :: es) tP) (hkw : PK X kws tK)
    (hsp : ∀ σ H Q, liftA Y X.K t σ H (fun all H1 => (all.take n).length = n ∧ (all.drop n).length = ks.length ∧ spD X.K C (gV (all.take n) (all.drop n)) H1 Q E0) → tCallN n ks.length (spD X.K C) gV E0 tP tK σ H Q)
    (hall : (backToKw pos (keywordEach kws X.env)).all (·.1.isSome) = true := by rfl) (hks : (backToKw pos (keywordEach kws X.env)).filterMap (·.1) = ks := by rfl)
    (hdb : (x == ("__debug__" : Str)) = false := by decide) (he : starEach (e :: es) X.env = (false, eval e X.env) :: starEach es X.env := by rfl)
    (hpl : ((backTo pos (starEach (e :: es) X.env)).any (·.1) || (backToKw pos (keywordEach kws X.env)).any (·.1.isNone)) = false := by rfl) :
    PE X (.Call (.Name x p) (e :: es) kws pos) (lift Y X.K (dCallK C n m gD t)) :=
  PE.imp (pe_callN F hr hg hm hk hb passL ha hkw hall hks hdb he hpl) fun σ H Q h => hsp σ H Q (by subst hm2; exact lift_callK hgD h)
/-- f(k = v, ..) -/
theorem pe_callN0 {CX : CXT} {E : XK} {gV : List V → List V → List V} {g : List Value → List Value → List Value} {tk : TA} {k : Nat} {f : Addr} {fd : FuncData} {ps ks : List Str} {sp : Sp} {x : Str} {p pos : Pos} {kws : List Keyword}
    (F : FnOk X.prog X.w X.K X.mg X.base CX k f fd ps sp) (hr : Room k X.A) (hg : Gl X x) (hm : X.mg x = some (.ref f)) (hk : PySem.W.keepIn X.K (.ref f) = true) (hb : KBn X.K fd ps 0 ks g gV) (hx : Passes CX X E) (hkw : PK X kws tk)
    (hall : (backToKw pos (keywordEach kws X.env)).all (·.1.isSome) = true := by rfl) (hks : (backToKw pos (keywordEach kws X.env)).filterMap (·.1) = ks := by rfl) (hdb : (x == ("__debug__" : Str)) = false := by decide)
    (hpl : ((backTo pos (starEach [] X.env)).any (·.1) || (backToKw pos (keywordEach kws X.env)).any (·.1.isNone)) = false := by rfl) :
    PE X (.Call (.Name x p) [] kws pos) (tCallN 0 ks.length sp gV E tNil tk) := by
  refine ⟨fun pins s σ H Q I h => ?_⟩
  refine wpAny_Call_Name_kw (ld_glob I hg hm ?_ hdb)
  refine PySem.W.callWith_KW0 (h₀ := X.base) I.ok.mod.kin hk hall ?_ hpl
  refine thn (hkw.run pos pins s σ H _ I h) fun ws s2 ⟨zs, H2, I2, rz, l1, l2, q2⟩ => ⟨I2.kIn, ?_⟩
  rw [hks]
  exact run_fnN (us := []) (vs := []) F hr hb hx I2 .nil rz rfl l2 q2
theorem de_callN0 {C : Con} {m : Nat} {gD : List D → List D → List D} {gV : List V → List V → List V} {g : List Value → List Value → List Value} {t : DA} {tK : TA} {k : Nat} {f : Addr} {fd : FuncData} {ps ks : List Str} {x : Str} {p pos : Pos} {kws : List Keyword}
    (F : FnOk X.prog X.w X.K X.mg X.base (L2.CX X.prog X.w) k f fd ps (spD X.K C)) (hr : Room k X.A) (hg : Gl X x) (hm : X.mg x = some (.ref f)) (hk : PySem.W.keepIn X.K (.ref f) = true) (hb : KBn X.K fd ps 0 ks g gV)
    (hgD : ∀ F vs ds zs es, Reps X.K F vs ds → Reps X.K F zs es → Reps X.K F (gV vs zs) (gD ds es)) (hm2 : m = ks.length) (hkw : PK X kws tK)
    (hsp : ∀ σ H Q, liftA Y X.K t σ H (fun all H1 => (all.take 0).length = 0 ∧ (all.drop 0).length = ks.length ∧ spD X.K C (gV (all.take 0) (all.drop 0)) H1 Q E0) → tCallN 0 ks.length (spD X.K C) gV E0 tNil tK σ H Q)
    (hall : (backToKw pos (keywordEach kws X.env)).all (·.1.isSome) = true := by rfl) (hks : (backToKw pos (keywordEach kws X.env)).filterMap (·.1) = ks := by rfl)
    (hdb : (x == ("__debug__" : Str)) = false := by decide)
    (hpl : ((backTo pos (starEach [] X.env)).any (·.1) || (backToKw pos (keywordEach kws X.env)).any (·.1.isNone)) = false := by rfl) :
    PE X (.Call (.Name x p) [] kws pos) (lift Y X.K (dCallK C 0 m gD t)) :=
  PE.imp (pe_callN0 F hr hg hm hk hb passL hkw hall hks hdb hpl) fun σ H Q h => hsp σ H Q (by subst hm2; exact lift_callK hgD h)
end
section
variable {t : DA} {e : Ev} {Q : L → Ev → Prop} {n m : Nat} {gD : List D → List D → List D} {xs : List (L × Option Nat)} {C : Con} {a b c : D} {K : L → L → Prop} {ls : List L}
def ckR (Q : L → Ev → Prop) (e : Ev) : L → List L → Prop := fun r _ => Q r e
theorem r_ckR {l : L} : ckR Q e l ls = Q l e := rfl
def ckK (C : Con) (n m : Nat) (gD : List D → List D → List D) (Q : L → Ev → Prop) : List (L × Option Nat) → Ev → Prop := fun xs e => ∃ ds, xs = frArgs ds ∧ ds.length = n + m ∧ C ((gD (ds.take n) (ds.drop n)).map L.fr) (ckR Q e) kF
theorem r_callK2 : dCallK C n m gD t e Q = t e (ckK C n m gD Q) := rfl
theorem frArgs_inj {ds es : List D} (h : frArgs ds = frArgs es) : ds = es := by
  have : (frArgs ds).map (fun q => q.1.toD) = (frArgs es).map (fun q => q.1.toD) := by rw [h]
  simpa [frArgs, L.toD, Function.comp_def] using this
theorem ckK_of {ds : List D} : ckK C n m gD Q (frArgs ds) e = (ds.length = n + m ∧ C ((gD (ds.take n) (ds.drop n)).map L.fr) (ckR Q e) kF) := by
  apply propext
  constructor
  · rintro ⟨es, h, q⟩
    have := frArgs_inj h
    subst this
    exact q
  · intro q; exact ⟨ds, rfl, q⟩
theorem r_ck1 : ckK C n m gD Q [(.fr a, none)] e = ([a].length = n + m ∧ C ((gD ([a].take n) ([a].drop n)).map L.fr) (ckR Q e) kF) := ckK_of (ds := [a])
theorem r_ck2 : ckK C n m gD Q [(.fr a, none), (.fr b, none)] e = ([a, b].length = n + m ∧ C ((gD ([a, b].take n) ([a, b].drop n)).map L.fr) (ckR Q e) kF) := ckK_of (ds := [a, b])
theorem r_ck3 : ckK C n m gD Q [(.fr a, none), (.fr b, none), (.fr c, none)] e = ([a, b, c].length = n + m ∧ C ((gD ([a, b, c].take n) ([a, b, c].drop n)).map L.fr) (ckR Q e) kF) := ckK_of (ds := [a, b, c])
theorem r_resE : restore e [] ls = e := by cases ls <;> rfl
theorem r_clear : mClear (.box .lst ls) [] K = K (.fr .non) (.box .lst []) := rfl
end
end TL

namespace TL
open PySem PySem.Spec PyProof.Rows L2
/-! ### all rules as one -/
def RB0 := (And.intro (And.intro (And.intro (And.intro (And.intro @r_ofStr @r_ofStrB) (And.intro @r_consN (And.intro @r_consK @r_set0))) (And.intro (And.intro @r_setS @r_isSl0) (And.intro @r_isSlS (And.intro @r_take0 @r_takeS)))) (And.intro (And.intro (And.intro @r_dTake @r_peek0) (And.intro @r_peekS (And.intro @r_dVar0 @r_dVarS))) (And.intro (And.intro @r_seqK @r_seq) (And.intro @r_next (And.intro @r_exprK @r_expr))))) (And.intro (And.intro (And.intro (And.intro @r_ret @r_retN) (And.intro @r_ifK (And.intro @r_if @r_dsSet))) (And.intro (And.intro @r_gName @r_asgK) (And.intro @r_asg (And.intro @r_gTup @r_gsK)))) (And.intro (And.intro (And.intro @r_gsCons @r_gsNil) (And.intro @r_gStar (And.intro @r_put0 @r_put1))) (And.intro (And.intro @r_put2 @r_put3) (And.intro @r_put4 (And.intro @r_boxK @r_gIx))))))
def RB1 := (And.intro (And.intro (And.intro (And.intro (And.intro @r_gix0 @r_gixS) (And.intro @r_setK2 (And.intro @r_parK @r_par))) (And.intro (And.intro @r_augK3 @r_augK2) (And.intro @r_augK (And.intro @r_aug @r_dC)))) (And.intro (And.intro (And.intro @r_opK3 @r_opK2) (And.intro @r_opK (And.intro @r_op @r_bK))) (And.intro (And.intro @r_dB @r_chK4) (And.intro @r_chK2 (And.intro @r_chK1 @r_chain))))) (And.intro (And.intro (And.intro (And.intro @r_andK @r_and) (And.intro @r_orK (And.intro @r_or @r_notK))) (And.intro (And.intro @r_not @r_andVK) (And.intro @r_andV (And.intro @r_orVK @r_orV)))) (And.intro (And.intro (And.intro @r_notVK @r_notV) (And.intro @r_difK (And.intro @r_dIf @r_negK))) (And.intro (And.intro @r_neg @r_aNil) (And.intro @r_acK2 (And.intro @r_acK @r_aCons))))))
def RB2 := (And.intro (And.intro (And.intro (And.intro (And.intro @r_aoK @r_aOwn) (And.intro @r_borK2 (And.intro @r_borK @r_aBor))) (And.intro (And.intro @r_lstK @r_lst) (And.intro @r_tupK (And.intro @r_tup @r_retK)))) (And.intro (And.intro (And.intro @r_callK @r_call) (And.intro @r_res0 (And.intro @r_resN @r_resS))) (And.intro (And.intro @r_tmpK @r_tmp) (And.intro @r_frzN (And.intro @r_frz0 @r_frz1))))) (And.intro (And.intro (And.intro (And.intro @r_at0 @r_at1) (And.intro @r_at2 (And.intro @r_at3 @r_frK))) (And.intro (And.intro @r_atF0 @r_atF1) (And.intro @r_atF2 (And.intro @r_atF3 @r_atF4)))) (And.intro (And.intro (And.intro @r_ixTup @r_ixRo) (And.intro @r_ixLst (And.intro @r_ixStr @r_ixvF))) (And.intro (And.intro @r_ixvB @r_ixvK) (And.intro @r_ixV (And.intro @r_isBx0 @r_isBxS))))))
def RB3 := (And.intro (And.intro (And.intro (And.intro (And.intro @r_mtK3 @r_mtK2) (And.intro @r_mtK (And.intro @r_mt @r_append))) (And.intro (And.intro @r_reverse @r_pop) (And.intro @r_slK3 (And.intro @r_slK2 @r_slK)))) (And.intro (And.intro (And.intro @r_sl @r_oNone) (And.intro @r_osK (And.intro @r_oSome @r_slLst))) (And.intro (And.intro @r_slRo @r_slTup) (And.intro @r_slStr (And.intro @r_sqK2 @r_sqK))))) (And.intro (And.intro (And.intro (And.intro @r_iSeq @r_tqK2) (And.intro @r_tqK (And.intro @r_iTup @r_rg1K))) (And.intro (And.intro @r_iRange1 @r_rg2K) (And.intro @r_iRange2 (And.intro @r_forK @r_for)))) (And.intro (And.intro (And.intro @r_bodyK @r_cpEnd) (And.intro @r_cpK (And.intro @r_comp @r_wipe0))) (And.intro (And.intro @r_wipeS @r_yes) (And.intro @r_cmK3 (And.intro @r_cmK2 @r_cmK))))))
def RB4 := (And.intro (And.intro (And.intro (And.intro (And.intro @r_cmN @r_compC) (And.intro @r_compN (And.intro @r_endN @r_endR))) (And.intro (And.intro @r_ends @r_outOk0) (And.intro @r_outOkS (And.intro @r_addI @r_addS)))) (And.intro (And.intro (And.intro @r_addL @r_addT) (And.intro @r_iaddI (And.intro @r_iaddS @r_sub))) (And.intro (And.intro @r_mulI @r_mod) (And.intro @r_fdiv (And.intro @r_pow @r_cmpI))))) (And.intro (And.intro (And.intro (And.intro @r_eqI @r_eqS) (And.intro @r_eqB (And.intro @r_eqT @r_eqL))) (And.intro (And.intro @r_neI @r_neS) (And.intro @r_neB (And.intro @r_neT @r_neL)))) (And.intro (And.intro (And.intro @r_isN @r_notN) (And.intro @r_inT (And.intro @r_inR @r_inL))) (And.intro (And.intro @r_inS @r_notIn) (And.intro @r_c1K (And.intro @r_con1 @r_con2))))))
def RB5 := (And.intro (And.intro (And.intro (And.intro (And.intro @r_con1F @r_lenL) (And.intro @r_lenT (And.intro @r_lenK @r_lenR))) (And.intro (And.intro @r_lenS @r_isi1) (And.intro @r_isi2 (And.intro @r_listL @r_listR)))) (And.intro (And.intro (And.intro @r_listT @r_tupleT) (And.intro @r_tupleL (And.intro @r_intI @r_intB))) (And.intro (And.intro @r_absI @r_bools) (And.intro @r_ints (And.intro @r_toD @r_toDb))))) (And.intro (And.intro (And.intro (And.intro @r_toDsN @r_toDsC) (And.intro @r_toDsF (And.intro @r_fldK @r_fldKL0))) (And.intro (And.intro @r_fldKL1 @r_rdK) (And.intro @r_fvK0 (And.intro @r_fvK1 @r_fldV)))) (And.intro (And.intro (And.intro @r_fdK2 @r_fdK) (And.intro @r_fld (And.intro @r_putNn @r_putNc))) (And.intro (And.intro @r_putAn @r_putAc) (And.intro @r_sfK2 (And.intro @r_sfK @r_sFld))))))
def RB6 := (And.intro (And.intro (And.intro (And.intro (And.intro @r_mkR @r_mkK) (And.intro @r_make (And.intro @r_meR @r_meK3))) (And.intro (And.intro @r_meK2 @r_meK) (And.intro @r_meth (And.intro @r_dict @r_dcK0)))) (And.intro (And.intro (And.intro @r_dcK1 @r_dcK2) (And.intro @r_dcAt (And.intro @r_anyT @r_gtK4))) (And.intro (And.intro @r_keyK2 @r_gtK5) (And.intro @r_gtK3 (And.intro @r_gtK2 @r_gtK))))) (And.intro (And.intro (And.intro (And.intro @r_dget @r_dxK4) (And.intro @r_dxK2 (And.intro @r_dxK1 @r_dxK))) (And.intro (And.intro @r_dix @r_inK4t) (And.intro @r_inK4f (And.intro @r_inK2 @r_inK1)))) (And.intro (And.intro (And.intro @r_inK @r_din) (And.intro @r_dnotin (And.intro @r_dpK5 @r_dpK40))) (And.intro (And.intro @r_dpK41 @r_dpK2) (And.intro @r_dpK (And.intro @r_dput @r_dput'))))))
def RB7 := (And.intro (And.intro (And.intro (And.intro (And.intro @r_fpK6 @r_fpK5) (And.intro @r_fpK4 (And.intro @r_unS0 @r_unSS))) (And.intro (And.intro @r_runK @r_fdAt0) (And.intro @r_fdAt1 (And.intro @r_fdAt2 @r_fpK3)))) (And.intro (And.intro (And.intro @r_fpK2 @r_fpK) (And.intro @r_fdput (And.intro @r_yqK2k @r_yqK2l))) (And.intro (And.intro @r_yqK2t @r_yqK) (And.intro @r_iAny (And.intro @r_enKl @r_enKt))))) (And.intro (And.intro (And.intro (And.intro @r_iEnum @r_ziK) (And.intro @r_iZip (And.intro @r_kcEnd @r_kcK))) (And.intro (And.intro @r_kcomp @r_never) (And.intro @r_sorted (And.intro @r_max2 @r_isC)))) (And.intro (And.intro (And.intro @r_otK0 @r_otK1) (And.intro @r_orT (And.intro @r_ifK' @r_fzK))) (And.intro (And.intro @r_fz @r_ivK4t) (And.intro @r_ivK4f (And.intro @r_ivK3 @r_ivK2))))))
def RB8 := (And.intro (And.intro (And.intro (And.intro (And.intro @r_ivK @r_dinv) (And.intro @r_dnotinv (And.intro @r_fiK @r_fdAt3))) (And.intro (And.intro @r_nfK3 @r_nfK2) (And.intro @r_nfK (And.intro @r_dnotinf @r_lfAt0)))) (And.intro (And.intro (And.intro @r_lfAt1 @r_lfAt2) (And.intro @r_rQ (And.intro @r_faK3 @r_faK2))) (And.intro (And.intro @r_faK @r_fapp) (And.intro @r_runA (And.intro @r_seR @r_seK3))))) (And.intro (And.intro (And.intro (And.intro @r_seK @r_self) (And.intro @r_bxAt0 (And.intro @r_bxAt1 @r_saR))) (And.intro (And.intro @r_saK4 @r_saK3) (And.intro @r_saK2 (And.intro @r_saK @r_selfal)))) (And.intro (And.intro (And.intro @r_fmK @r_forM) (And.intro @r_sortedP (And.intro @r_fbK @r_forB))) (And.intro (And.intro @r_tkK @r_ckR) (And.intro @r_callK2 (And.intro @r_ck1 @r_ck2))))))
def RB9 := (And.intro (And.intro (And.intro (And.intro (And.intro @r_ck3 @r_resE) (And.intro @r_clear (And.intro (fun (α : Type) => @List.getElem?_cons_zero α) (fun (α : Type) => @List.getElem?_cons_succ α)))) (And.intro (And.intro (fun (α : Type) => @List.getElem?_nil α) (fun (α : Type) => @List.set_cons_zero α)) (And.intro (fun (α : Type) => @List.set_cons_succ α) (And.intro (fun (α β : Type) => @List.map_cons α β) (fun (α β : Type) => @List.map_nil α β))))) (And.intro (And.intro (And.intro (fun (α : Type) => @List.cons_append α) (fun (α : Type) => @List.nil_append α)) (And.intro (fun (α : Type) => @List.append_nil α) (And.intro (fun (α : Type) => @List.length_cons α) (fun (α : Type) => @List.length_nil α)))) (And.intro (And.intro (fun (α β : Type) => @List.length_map α β) (fun (α : Type) => @List.length_append α)) (And.intro (fun (α : Type) => @List.replicate_succ α) (And.intro (fun (α : Type) => @List.replicate_zero α) (fun (α : Type) => @List.all_cons α)))))) (And.intro (And.intro (And.intro (And.intro (fun (α : Type) => @List.all_nil α) (fun (α : Type) => @List.any_cons α)) (And.intro (fun (α : Type) => @List.any_nil α) (And.intro (fun (α : Type) => @List.drop_succ_cons α) (fun (α : Type) => @List.drop_zero α)))) (And.intro (And.intro (fun (α : Type) => @List.take_succ_cons α) (fun (α : Type) => @List.take_zero α)) (And.intro (fun (α : Type) => @List.reverse_cons α) (And.intro (fun (α : Type) => @List.reverse_nil α) (fun (α : Type) => @Option.some.injEq α))))) (And.intro (And.intro (And.intro (fun (α : Type) => @Option.isSome_some α) (fun (α : Type) => @Option.isSome_none α)) (And.intro (fun (α : Type) => @Option.getD_some α) (And.intro (fun (α : Type) => @Option.getD_none α) (fun (α β : Type) => @Option.map_some α β)))) (And.intro (And.intro (fun (α β : Type) => @Option.map_none α β) (fun (α β : Type) => @Option.bind_some α β)) (And.intro @L.fr.injEq (And.intro @D.bl.injEq @D.int.injEq))))))
def RB10 := (And.intro (And.intro (And.intro (And.intro (And.intro @D.str.injEq @D.ty.injEq) (And.intro (fun (α : Type) => @exists_eq_left α) (And.intro (fun (α : Type) => @exists_eq_left' α) (fun (α : Type) => @exists_eq_right α)))) (And.intro (And.intro @true_and @and_true) (And.intro @false_and (And.intro @and_false @false_or)))) (And.intro (And.intro (And.intro @or_false @true_or) (And.intro @or_true (And.intro @Bool.not_true @Bool.not_false))) (And.intro (And.intro @Bool.true_and @Bool.and_true) (And.intro @Bool.false_and (And.intro @Bool.and_false @Bool.or_true))))) (And.intro (And.intro (And.intro (And.intro @Bool.true_or @Bool.or_false) (And.intro @Bool.false_or (And.intro @Bool.false_eq_true @Bool.true_eq_false))) (And.intro (And.intro @Bool.not_eq_true @decide_eq_true_eq) (And.intro @decide_eq_false_iff_not (And.intro @Bool.not_eq_eq_eq_not (fun (α : Type) => @List.mem_cons α))))) (And.intro (And.intro (And.intro (fun (α : Type) => @List.not_mem_nil α) (fun (α : Type) => @ne_eq α)) (And.intro @not_true_eq_false (And.intro @not_false_eq_true @Nat.sub_zero))) (And.intro (And.intro @Nat.add_zero @Nat.zero_add) (And.intro @sizeLine_eq (And.intro @Int.cast_ofNat_Int (fun (α : Type) => @beq_self_eq_true α)))))))
def RB := (And.intro (And.intro (And.intro RB0 RB1) (And.intro RB2 (And.intro RB3 RB4))) (And.intro (And.intro RB5 (And.intro RB6 RB7)) (And.intro RB8 (And.intro RB9 RB10))))
end TL

namespace FL
open PySem PySem.Spec PyProof.Rows L2 TL
/- is_place: 0 place 1 lanes 2 lane 3 at -/
def t_is_place  : DS := (dsSeq (dsAsg (dVar 0) (dgTup 2 (dgsCons (dgName 2) (dgsCons (dgName 3) dgsNil))))
  (dsRet (dAndV (dChain opLe opLt (dC (.int 0)) (dVar 2) (dVar 1)) (dOp opGe (dVar 3) (dC (.int 0))))))

/- need_place: 0 place 1 lanes -/
def t_need_place (c_is_place : Con) : DS := (dsIf (dNot (dB (dCall c_is_place [] (daCons (dVar 0) (daCons (dVar 1) daNil)))))
  dsNever
  dsNext)

/- need_lanes: 0 lanes -/
def t_need_lanes  : DS := (dsIf (dNot (dB (dChain opLe opLe (dC (.int 1)) (dVar 0) (dC (.int 6)))))
  dsNever
  dsNext)

/- least_goals: 0 drifts 1 goals 2 found 3 lane 4 row 5 size -/
def t_least_goals_b1  : DS := (dsAug 5 (dC (.int 1)) opSub)
def t_least_goals_b2  : DS := (dsSeq (dsSet 5 (dCall cLen [] (daBor 4 daNil)))
  (dsSeq (dsWhile (dAnd (dB (dOp opGt (dVar 5) (dC (.int 0)))) (dB (dOp opEq (dIxV 4 (dOp opSub (dVar 5) (dC (.int 1)))) (dTup (daCons (dVar 3) (daCons (dOp opAdd (dOp opSub (dVar 5) (dC (.int 1))) (dIxV 0 (dVar 3))) daNil))))))
  (t_least_goals_b1 ))
  (dsExpr (dMt mAppend 2 (daOwn (dCall cTuple [] (daCons (dSl (dVar 4) doNone (doSome (dVar 5))) daNil)) daNil)))))
def t_least_goals  : DS := (dsSeq (dsSet 2 (dLst daNil))
  (dsSeq (dsFor (diEnum (daCons (dVar 1) daNil)) (dgTup 2 (dgsCons (dgName 3) (dgsCons (dgName 4) dgsNil)))
  (t_least_goals_b2 ))
  (dsRet (dCall cTuple [] (daCons (dVar 2) daNil)))))

/- need_goals: 0 drifts 1 goals 2 lane 3 row 4 at 5 goal -/
def t_need_goals_b1 (c_is_place : Con) : DS := (dsIf (dNot (dB (dCall c_is_place [] (daCons (dVar 5) (daCons (dCall cLen [] (daBor 0 daNil)) daNil)))))
  dsNever
  dsNext)
def t_need_goals_b2 (c_is_place : Con) : DS := (dsSeq (dsFor (diEnum (daCons (dVar 3) daNil)) (dgTup 2 (dgsCons (dgName 4) (dgsCons (dgName 5) dgsNil)))
  (t_need_goals_b1 c_is_place))
  (dsIf (dB (dOp opLt (dOp opAdd (dCall cLen [] (daBor 3 daNil)) (dIxV 0 (dVar 2))) (dC (.int 0))))
  dsNever
  dsNext))
def t_need_goals (c_is_place : Con) : DS := (dsFor (diEnum (daCons (dVar 1) daNil)) (dgTup 2 (dgsCons (dgName 2) (dgsCons (dgName 3) dgsNil)))
  (t_need_goals_b2 c_is_place))

/- need_bijection: 0 drifts 1 goals 2 counts 3 row 4 goal 5 lane 6 begin 7 at 8 twice -/
def t_need_bijection_b1  : DS := (dsDPut' 2 (dVar 4) (dOp opAdd (dDGet 2 (dVar 4) (dC (.int 0))) (dC (.int 1))))
def t_need_bijection_b2  : DS := (dsFor (diAny (dVar 3)) (dgName 4)
  (t_need_bijection_b1 ))
def t_need_bijection_b3  : DS := (dsSeq (dsIf (dB (dOp opNe (dDGet 2 (dTup (daCons (dVar 5) (daCons (dVar 7) daNil))) (dC (.int 0))) (dC (.int 1))))
  dsNever
  dsNext)
  (dsAug 7 (dC (.int 1)) opAddI))
def t_need_bijection_b4  : DS := (dsSeq (dsSet 6 (dOp opAdd (dCall cLen [] (daBor 3 daNil)) (dIxV 0 (dVar 5))))
  (dsSeq (dsSet 7 (dC (.int 0)))
  (dsSeq (dsWhile (dB (dOp opLt (dVar 7) (dVar 6)))
  (t_need_bijection_b3 ))
  (dsSeq (dsSet 8 (dCall cSorted [] (daCons (dKComp 2 [4] (dgName 4) (dAnd (dB (dOp opEq (dIxV 4 (dC (.int 0))) (dVar 5))) (dB (dOp opGe (dIxV 4 (dC (.int 1))) (dVar 6)))) (dVar 4)) daNil)))
  (dsIf (dB (dOp opNe (dVar 8) (dLst daNil)))
  dsNever
  dsNext)))))
def t_need_bijection  : DS := (dsSeq (dsSet 2 dDict)
  (dsSeq (dsFor (diAny (dVar 1)) (dgName 3)
  (t_need_bijection_b2 ))
  (dsFor (diEnum (daCons (dVar 1) daNil)) (dgTup 2 (dgsCons (dgName 5) (dgsCons (dgName 3) dgsNil)))
  (t_need_bijection_b4 ))))

/- LaneMap_init: 0 self 1 drifts 2 goals 3 rows 4 lane 5 row 6 at 7 goal 8 drift -/
def t_LaneMap_init_b1 (C_LaneMap : Addr) (c_need_lanes : Con) (c_need_goals : Con) (c_need_bijection : Con) (c_least_goals : Con) : DS := (dsFDPut 0 C_LaneMap (Str.ofString "sources") (dVar 7) (dTup (daCons (dVar 4) (daCons (dVar 6) daNil))))
def t_LaneMap_init_b2 (C_LaneMap : Addr) (c_need_lanes : Con) (c_need_goals : Con) (c_need_bijection : Con) (c_least_goals : Con) : DS := (dsFor (diEnum (daCons (dVar 5) daNil)) (dgTup 2 (dgsCons (dgName 6) (dgsCons (dgName 7) dgsNil)))
  (t_LaneMap_init_b1 C_LaneMap c_need_lanes c_need_goals c_need_bijection c_least_goals))
def t_LaneMap_init (C_LaneMap : Addr) (c_need_lanes : Con) (c_need_goals : Con) (c_need_bijection : Con) (c_least_goals : Con) : DS := (dsSeq (dsExpr (dCall c_need_lanes [] (daCons (dCall cLen [] (daBor 1 daNil)) daNil)))
  (dsSeq (dsIf (dB (dOp opNotIn (dCall cLen [] (daBor 2 daNil)) (dTup (daCons (dC (.int 0)) (daCons (dCall cLen [] (daBor 1 daNil)) daNil)))))
  dsNever
  dsNext)
  (dsSeq (dsSet 3 (dOrT (dComp (diAny (dVar 2)) [5] (dgName 5) dtYes (dComp (diAny (dVar 5)) [4, 6] (dgTup 2 (dgsCons (dgName 4) (dgsCons (dgName 6) dgsNil))) dtYes (dTup (daCons (dVar 4) (daCons (dVar 6) daNil))))) (dComp (diAny (dVar 1)) [8] (dgName 8) dtYes (dLst daNil))))
  (dsSeq (dsIf (dB (dOp opGt (dCall cSum [] (daCons (dComp (diAny (dVar 3)) [5] (dgName 5) dtYes (dCall cLen [] (daBor 5 daNil))) daNil)) (dC (.int 2000))))
  dsNever
  dsNext)
  (dsSeq (dsExpr (dCall c_need_goals [] (daCons (dVar 1) (daCons (dVar 3) daNil))))
  (dsSeq (dsExpr (dCall c_need_bijection [] (daCons (dVar 1) (daCons (dVar 3) daNil))))
  (dsSeq (dsFld 0 C_LaneMap (Str.ofString "steady") (dCall cTuple [] (daCons (dVar 1) daNil)))
  (dsSeq (dsFld 0 C_LaneMap (Str.ofString "inner") (dCall c_least_goals [] (daCons (dFldV 0 C_LaneMap (Str.ofString "steady")) (daCons (dVar 3) daNil))))
  (dsSeq (dsFld 0 C_LaneMap (Str.ofString "sources") dDict)
  (dsFor (diEnum (daCons (dFldV 0 C_LaneMap (Str.ofString "inner")) daNil)) (dgTup 2 (dgsCons (dgName 4) (dgsCons (dgName 5) dgsNil)))
  (t_LaneMap_init_b2 C_LaneMap c_need_lanes c_need_goals c_need_bijection c_least_goals)))))))))))

/- LaneMap_drifts: 0 self -/
def t_LaneMap_drifts (C_LaneMap : Addr)  : DS := (dsRet (dCall cList [] (daCons (dFldV 0 C_LaneMap (Str.ofString "steady")) daNil)))

/- LaneMap_bounds: 0 self 1 row -/
def t_LaneMap_bounds (C_LaneMap : Addr)  : DS := (dsRet (dComp (diAny (dFldV 0 C_LaneMap (Str.ofString "inner"))) [1] (dgName 1) dtYes (dCall cLen [] (daBor 1 daNil))))

/- LaneMap_goal: 0 self 1 place 2 lane 3 at 4 row -/
def t_LaneMap_goal (C_LaneMap : Addr) (c_need_place : Con) : DS := (dsSeq (dsExpr (dCall c_need_place [] (daCons (dVar 1) (daCons (dCall cLen [] (daCons (dFldV 0 C_LaneMap (Str.ofString "steady")) daNil)) daNil))))
  (dsSeq (dsAsg (dVar 1) (dgTup 2 (dgsCons (dgName 2) (dgsCons (dgName 3) dgsNil))))
  (dsSeq (dsSet 4 (dOp opIx (dFldV 0 C_LaneMap (Str.ofString "inner")) (dVar 2)))
  (dsRet (dIf (dB (dOp opLt (dVar 3) (dCall cLen [] (daBor 4 daNil)))) (dIxV 4 (dVar 3)) (dTup (daCons (dVar 2) (daCons (dOp opAdd (dVar 3) (dOp opIx (dFldV 0 C_LaneMap (Str.ofString "steady")) (dVar 2))) daNil))))))))

/- identity: 0 lanes -/
def t_identity (C_LaneMap : Addr) (c_need_lanes : Con) (c_LaneMap_init : Con) : DS := (dsSeq (dsExpr (dCall c_need_lanes [] (daCons (dVar 0) daNil)))
  (dsRet (dMake C_LaneMap c_LaneMap_init [.kt] (daCons (dOp opMul (dLst (daCons (dC (.int 0)) daNil)) (dVar 0)) daNil))))

/- road_from: 0 lane_map 1 entry 2 drifts 3 bounds 4 found 5 lane 6 at -/
def t_road_from_b1 (C_LaneMap : Addr) (c_LaneMap_bounds : Con) (c_LaneMap_drifts : Con) (c_LaneMap_goal : Con) : DS := (dsSeq (dsAsg (dMeth C_LaneMap (Str.ofString "goal") c_LaneMap_goal [] (dVar 0) (daCons (dIxV 4 (dNeg (dC (.int 1)))) daNil)) (dgTup 2 (dgsCons (dgName 5) (dgsCons (dgName 6) dgsNil))))
  (dsSeq (dsExpr (dMt mAppend 4 (daOwn (dTup (daCons (dVar 5) (daCons (dVar 6) daNil))) daNil)))
  (dsIf (dAnd (dB (dOp opGt (dIxV 2 (dVar 5)) (dC (.int 0)))) (dB (dOp opGe (dVar 6) (dIxV 3 (dVar 5)))))
  (dsRet (dTake 4))
  dsNext)))
def t_road_from (C_LaneMap : Addr) (c_LaneMap_bounds : Con) (c_LaneMap_drifts : Con) (c_LaneMap_goal : Con) : DS := (dsSeq (dsPar 2 3 (daOwn (dMeth C_LaneMap (Str.ofString "drifts") c_LaneMap_drifts [] (dVar 0) daNil) (daOwn (dMeth C_LaneMap (Str.ofString "bounds") c_LaneMap_bounds [] (dVar 0) daNil) daNil)))
  (dsSeq (dsSet 4 (dLst (daCons (dVar 1) daNil)))
  (dsWhile (dB (dC (.bl true)))
  (t_road_from_b1 C_LaneMap c_LaneMap_bounds c_LaneMap_drifts c_LaneMap_goal))))

/- cycle_from: 0 lane_map 1 first 2 found 3 place -/
def t_cycle_from_b1 (C_LaneMap : Addr) (c_LaneMap_goal : Con) : DS := (dsSeq (dsExpr (dMt mAppend 2 (daOwn (dVar 3) daNil)))
  (dsSet 3 (dMeth C_LaneMap (Str.ofString "goal") c_LaneMap_goal [] (dVar 0) (daCons (dVar 3) daNil))))
def t_cycle_from (C_LaneMap : Addr) (c_LaneMap_goal : Con) : DS := (dsSeq (dsSet 2 (dLst (daCons (dVar 1) daNil)))
  (dsSeq (dsSet 3 (dMeth C_LaneMap (Str.ofString "goal") c_LaneMap_goal [] (dVar 0) (daCons (dVar 1) daNil)))
  (dsSeq (dsWhile (dB (dOp opNe (dVar 3) (dVar 1)))
  (t_cycle_from_b1 C_LaneMap c_LaneMap_goal))
  (dsRet (dTake 2)))))

/- Orbits_init: 0 self 1 lane_map 2 lane 3 drift 4 at 5 bound -/
def t_Orbits_init_b1 (C_LaneMap C_Orbits : Addr) (c_LaneMap_drifts : Con) (c_LaneMap_bounds : Con) (c_Orbits_seat : Con) (c_road_from : Con) (c_Orbits_sit : Con) (c_cycle_from : Con) : DS := (dsExpr (dSelfAl 0 C_Orbits (Str.ofString "seat") (Str.ofString "roads") c_Orbits_seat (dC (.str (Str.ofString "road"))) (dCall c_road_from [] (daCons (dVar 1) (daCons (dTup (daCons (dVar 2) (daCons (dVar 4) daNil))) daNil)))))
def t_Orbits_init_b2 (C_LaneMap C_Orbits : Addr) (c_LaneMap_drifts : Con) (c_LaneMap_bounds : Con) (c_Orbits_seat : Con) (c_road_from : Con) (c_Orbits_sit : Con) (c_cycle_from : Con) : DS := (dsFor (diRange2 (daCons (dOp opIx (dFldV 0 C_Orbits (Str.ofString "limits")) (dVar 2)) (daCons (dOp opSub (dOp opIx (dFldV 0 C_Orbits (Str.ofString "limits")) (dVar 2)) (dVar 3)) daNil))) (dgName 4)
  (t_Orbits_init_b1 C_LaneMap C_Orbits c_LaneMap_drifts c_LaneMap_bounds c_Orbits_seat c_road_from c_Orbits_sit c_cycle_from))
def t_Orbits_init_b3 (C_LaneMap C_Orbits : Addr) (c_LaneMap_drifts : Con) (c_LaneMap_bounds : Con) (c_Orbits_seat : Con) (c_road_from : Con) (c_Orbits_sit : Con) (c_cycle_from : Con) : DS := (dsIf (dB (dDNotInF 0 C_Orbits (Str.ofString "seats") (dTup (daCons (dVar 2) (daCons (dVar 4) daNil)))))
  (dsExpr (dSelf 0 C_Orbits (Str.ofString "sit") c_Orbits_sit [] (daCons (dCall c_cycle_from [] (daCons (dVar 1) (daCons (dTup (daCons (dVar 2) (daCons (dVar 4) daNil))) daNil))) daNil)))
  dsNext)
def t_Orbits_init_b4 (C_LaneMap C_Orbits : Addr) (c_LaneMap_drifts : Con) (c_LaneMap_bounds : Con) (c_Orbits_seat : Con) (c_road_from : Con) (c_Orbits_sit : Con) (c_cycle_from : Con) : DS := (dsFor (diRange1 (daCons (dVar 5) daNil)) (dgName 4)
  (t_Orbits_init_b3 C_LaneMap C_Orbits c_LaneMap_drifts c_LaneMap_bounds c_Orbits_seat c_road_from c_Orbits_sit c_cycle_from))
def t_Orbits_init (C_LaneMap C_Orbits : Addr) (c_LaneMap_drifts : Con) (c_LaneMap_bounds : Con) (c_Orbits_seat : Con) (c_road_from : Con) (c_Orbits_sit : Con) (c_cycle_from : Con) : DS := (dsSeq (dsFld 0 C_Orbits (Str.ofString "base") (dVar 1))
  (dsSeq (dsFld 0 C_Orbits (Str.ofString "steady") (dFz (dMeth C_LaneMap (Str.ofString "drifts") c_LaneMap_drifts [] (dVar 1) daNil)))
  (dsSeq (dsFld 0 C_Orbits (Str.ofString "limits") (dFz (dMeth C_LaneMap (Str.ofString "bounds") c_LaneMap_bounds [] (dVar 1) daNil)))
  (dsSeq (dsFld 0 C_Orbits (Str.ofString "roads") (dLst daNil))
  (dsSeq (dsFld 0 C_Orbits (Str.ofString "cycles") (dLst daNil))
  (dsSeq (dsFld 0 C_Orbits (Str.ofString "fixed") (dLst daNil))
  (dsSeq (dsFld 0 C_Orbits (Str.ofString "seats") dDict)
  (dsSeq (dsFor (diEnum (daCons (dFldV 0 C_Orbits (Str.ofString "steady")) daNil)) (dgTup 2 (dgsCons (dgName 2) (dgsCons (dgName 3) dgsNil)))
  (t_Orbits_init_b2 C_LaneMap C_Orbits c_LaneMap_drifts c_LaneMap_bounds c_Orbits_seat c_road_from c_Orbits_sit c_cycle_from))
  (dsFor (diEnum (daCons (dFldV 0 C_Orbits (Str.ofString "limits")) daNil)) (dgTup 2 (dgsCons (dgName 2) (dgsCons (dgName 5) dgsNil)))
  (t_Orbits_init_b4 C_LaneMap C_Orbits c_LaneMap_drifts c_LaneMap_bounds c_Orbits_seat c_road_from c_Orbits_sit c_cycle_from))))))))))

/- Orbits_seat: 0 self 1 kind 2 orbits 3 orbit 4 index 5 place -/
def t_Orbits_seat_b1 (C_Orbits : Addr)  : DS := (dsFDPut 0 C_Orbits (Str.ofString "seats") (dVar 5) (dTup (daCons (dVar 1) (daCons (dCall cLen [] (daBor 2 daNil)) (daCons (dVar 4) daNil)))))
def t_Orbits_seat (C_Orbits : Addr)  : DS := (dsSeq (dsFor (diEnum (daCons (dVar 3) daNil)) (dgTup 2 (dgsCons (dgName 4) (dgsCons (dgName 5) dgsNil)))
  (t_Orbits_seat_b1 C_Orbits))
  (dsExpr (dMt mAppend 2 (daOwn (dVar 3) daNil))))

/- Orbits_sit: 0 self 1 orbit -/
def t_Orbits_sit (C_Orbits : Addr) (c_Orbits_seat : Con) : DS := (dsIf (dB (dOp opEq (dCall cLen [] (daBor 1 daNil)) (dC (.int 1))))
  (dsSeq (dsExpr (dFApp 0 C_Orbits (Str.ofString "fixed") (dIxV 1 (dC (.int 0)))))
  (dsFDPut 0 C_Orbits (Str.ofString "seats") (dIxV 1 (dC (.int 0))) (dOp opAdd (dTup (daCons (dC (.str (Str.ofString "fixed"))) daNil)) (dIxV 1 (dC (.int 0))))))
  (dsExpr (dSelfAl 0 C_Orbits (Str.ofString "seat") (Str.ofString "cycles") c_Orbits_seat (dC (.str (Str.ofString "cycle"))) (dVar 1))))

/- roads: 0 lane_map 1 lane 2 road -/
def t_roads (C_Orbits : Addr) (c_Orbits_init : Con) : DS := (dsRet (dComp (diAny (dFld (dMake C_Orbits c_Orbits_init [] (daCons (dVar 0) daNil)) C_Orbits (Str.ofString "roads"))) [2] (dgName 2) (dOr (dB (dOp opIsN (dVar 1) (dC .non))) (dB (dOp opEq (dOp opIx (dIxV 2 (dC (.int 0))) (dC (.int 0))) (dVar 1)))) (dCall cList [] (daCons (dVar 2) daNil))))

/- law_bag: 0 _law_script 1 _law_mix 2 _law_cell -/
def t_law_bag_b1  : DS := (dsSet 1 (dOp opMod (dOp opAdd (dOp opAdd (dOp opMul (dVar 1) (dC (.int 48271))) (dOp opMod (dVar 2) (dC (.int 2147483629)))) (dC (.int 17))) (dC (.int 2147483629))))
def t_law_bag  : DS := (dsSeq (dsSet 1 (dC (.int 9478)))
  (dsSeq (dsFor (diAny (dSl (dVar 0) doNone (doSome (dC (.int 63))))) (dgName 2)
  (t_law_bag_b1 ))
  (dsRet (dLst (daCons (dCall cList [] (daCons (dSl (dVar 0) doNone (doSome (dC (.int 63)))) daNil)) (daCons (dC (.int 0)) (daCons (dC (.int 0)) (daCons (dVar 1) (daCons (dC (.int 0)) daNil)))))))))

/- law_pull: 0 _law_bag_here 1 _law_size 2 _law_cell 3 _law_mix 4 _law_found -/
def t_law_pull_s1  : DS := (dsIf (dAnd (dB (dOp opEq (dIxV 0 (dC (.int 2))) (dC (.int 0)))) (dB (dOp opLt (dIxV 0 (dC (.int 1))) (dCall cLen [] (daCons (dIxV 0 (dC (.int 0))) daNil)))))
  (dsSeq (dsSet 2 (dOp opIx (dIxV 0 (dC (.int 0))) (dIxV 0 (dC (.int 1)))))
  (dsSeq (dsAsg (dOp opAdd (dIxV 0 (dC (.int 1))) (dC (.int 1))) (dgIx 0 (dC (.int 1))))
  (dsIf (dB (dOp opGe (dVar 2) (dOp opPow (dC (.int 10)) (dC (.int 18)))))
  (dsAsg (dVar 2) (dgIx 0 (dC (.int 2))))
  (dsSeq (dsSet 3 (dOp opAdd (dOp opMul (dIxV 0 (dC (.int 3))) (dC (.int 69621))) (dOp opMul (dOp opMod (dVar 2) (dC (.int 2147483629))) (dC (.int 40503)))))
  (dsAsg (dOp opMod (dOp opAdd (dVar 3) (dC (.int 7))) (dC (.int 2147483629))) (dgIx 0 (dC (.int 3))))))))
  dsNext)
def t_law_pull  : DS := (dsSeq (dsAsg (dOp opAdd (dIxV 0 (dC (.int 4))) (dC (.int 1))) (dgIx 0 (dC (.int 4))))
  (dsSeq (t_law_pull_s1 )
  (dsSeq (dsIf (dB (dOp opGt (dIxV 0 (dC (.int 2))) (dC (.int 0))))
  (dsSeq (dsSet 4 (dOp opMod (dIxV 0 (dC (.int 2))) (dVar 1)))
  (dsSeq (dsAsg (dOp opFdiv (dIxV 0 (dC (.int 2))) (dVar 1)) (dgIx 0 (dC (.int 2))))
  (dsRet (dTake 4))))
  dsNext)
  (dsSeq (dsSet 3 (dOp opAdd (dOp opMul (dOp opMul (dIxV 0 (dC (.int 3))) (dIxV 0 (dC (.int 3)))) (dC (.int 3))) (dOp opMul (dIxV 0 (dC (.int 3))) (dC (.int 16807)))))
  (dsSeq (dsAsg (dOp opMod (dOp opAdd (dVar 3) (dOp opMul (dC (.int 1013904223)) (dIxV 0 (dC (.int 4))))) (dC (.int 2147483629))) (dgIx 0 (dC (.int 3))))
  (dsRet (dOp opMod (dOp opFdiv (dIxV 0 (dC (.int 3))) (dC (.int 31))) (dVar 1))))))))

/- law_of: 0 _law_bag_here 1 _law_some -/
def t_law_of (c_law_pull : Con) : DS := (dsRet (dIxV 1 (dCall c_law_pull [] (daBor 0 (daCons (dCall cLen [] (daBor 1 daNil)) daNil)))))

/- law_far: 0 _law_bag_here -/
def t_law_far (c_law_of : Con) (c_law_pull : Con) : DS := (dsRet (dOp opAdd (dCall c_law_of [] (daBor 0 (daCons (dLst (daCons (dOp opPow (dC (.int 10)) (dC (.int 6))) (daCons (dOp opPow (dC (.int 10)) (dC (.int 18))) (daCons (dOp opPow (dC (.int 10)) (dC (.int 29))) daNil)))) daNil))) (dCall c_law_pull [] (daBor 0 (daCons (dOp opPow (dC (.int 10)) (dC (.int 6))) daNil)))))

/- law_drifts: 0 _law_bag_here 1 _law_wide 2 _law_steps 3 _law_drifts_here 4 _law_step 5 _law_one 6 _law_other -/
def t_law_drifts_b1 (c_law_pull : Con) : DS := (dsSeq (dsPar 5 6 (daOwn (dCall c_law_pull [] (daBor 0 (daCons (dVar 1) daNil))) (daOwn (dCall c_law_pull [] (daBor 0 (daCons (dVar 1) daNil))) daNil)))
  (dsIf (dAnd (dB (dOp opGt (dIxV 3 (dVar 5)) (dNeg (dC (.int 6))))) (dB (dOp opLt (dIxV 3 (dVar 6)) (dC (.int 6)))))
  (dsSeq (dsAsg (dOp opSub (dIxV 3 (dVar 5)) (dC (.int 1))) (dgIx 3 (dVar 5)))
  (dsAsg (dOp opAdd (dIxV 3 (dVar 6)) (dC (.int 1))) (dgIx 3 (dVar 6))))
  dsNext))
def t_law_drifts (c_law_pull : Con) : DS := (dsSeq (dsSet 3 (dOp opMul (dLst (daCons (dC (.int 0)) daNil)) (dVar 1)))
  (dsSeq (dsFor (diRange1 (daCons (dCall c_law_pull [] (daBor 0 (daCons (dOp opAdd (dVar 2) (dC (.int 1))) daNil))) daNil)) (dgName 4)
  (t_law_drifts_b1 c_law_pull))
  (dsRet (dTake 3))))

/- law_deal: 0 _law_bag_here 1 _law_drifts_here 2 _law_more 3 _law_sizes 4 _law_free 5 _law_row 6 _law_straight 7 _law_goals 8 _law_size 9 _law_found 10 _law_at 11 _law_drift -/
def t_law_deal_b1 (c_law_pull : Con) : DS := (dsSet 4 (dOp opAdd (dVar 4) (dComp (diRange1 (daCons (dOp opAdd (dIxV 3 (dVar 5)) (dIxV 1 (dVar 5))) daNil)) [10] (dgName 10) dtYes (dTup (daCons (dVar 5) (daCons (dVar 10) daNil))))))
def t_law_deal_b2 (c_law_pull : Con) : DS := (dsExpr (dMt mAppend 9 (daOwn (dMt mPopAt 4 (daOwn (dIf (dB (dVar 6)) (dC (.int 0)) (dCall c_law_pull [] (daBor 0 (daCons (dCall cLen [] (daBor 4 daNil)) daNil)))) daNil)) daNil)))
def t_law_deal_b3 (c_law_pull : Con) : DS := (dsSeq (dsSet 9 (dLst daNil))
  (dsSeq (dsFor (diRange1 (daCons (dVar 8) daNil)) (dgName 10)
  (t_law_deal_b2 c_law_pull))
  (dsExpr (dMt mAppend 7 (daOwn (dVar 9) daNil)))))
def t_law_deal (c_law_pull : Con) : DS := (dsSeq (dsSet 3 (dComp (diAny (dVar 1)) [11] (dgName 11) dtYes (dOp opAdd (dCall cMax2 [] (daCons (dC (.int 0)) (daCons (dOp opSub (dC (.int 0)) (dVar 11)) daNil))) (dCall c_law_pull [] (daBor 0 (daCons (dOp opAdd (dVar 2) (dC (.int 1))) daNil))))))
  (dsSeq (dsSet 4 (dLst daNil))
  (dsSeq (dsFor (diRange1 (daCons (dCall cLen [] (daBor 1 daNil)) daNil)) (dgName 5)
  (t_law_deal_b1 c_law_pull))
  (dsSeq (dsPar 6 7 (daOwn (dOp opEq (dCall c_law_pull [] (daBor 0 (daCons (dC (.int 4)) daNil))) (dC (.int 0))) (daOwn (dLst daNil) daNil)))
  (dsSeq (dsFor (diAny (dVar 3)) (dgName 8)
  (t_law_deal_b3 c_law_pull))
  (dsRet (dTup (daCons (dVar 1) (daCons (dVar 7) daNil)))))))))

/- law_any: 0 _law_bag_here 1 _law_wide 2 _law_steps 3 _law_more -/
def t_law_any (c_law_drifts : Con) (c_law_deal : Con) (c_law_least : Con) : DS := (dsRet (dCall c_law_least [] (daCons (dCall c_law_deal [] (daBor 0 (daCons (dCall c_law_drifts [] (daBor 0 (daCons (dVar 1) (daCons (dVar 2) daNil)))) (daCons (dVar 3) daNil)))) daNil)))

/- law_least: 0 _law_d 1 _law_goals 2 _law_row 3 _law_size -/
def t_law_least_b1  : DS := (dsSet 3 (dOp opSub (dVar 3) (dC (.int 1))))
def t_law_least_b2  : DS := (dsSeq (dsSet 3 (dCall cLen [] (daCons (dOp opIx (dIxV 0 (dC (.int 1))) (dVar 2)) daNil)))
  (dsSeq (dsWhile (dAnd (dB (dOp opGt (dVar 3) (dC (.int 0)))) (dB (dOp opEq (dOp opIx (dOp opIx (dIxV 0 (dC (.int 1))) (dVar 2)) (dOp opSub (dVar 3) (dC (.int 1)))) (dTup (daCons (dVar 2) (daCons (dOp opAdd (dOp opSub (dVar 3) (dC (.int 1))) (dOp opIx (dIxV 0 (dC (.int 0))) (dVar 2))) daNil))))))
  (t_law_least_b1 ))
  (dsExpr (dMt mAppend 1 (daOwn (dCall cList [] (daCons (dSl (dOp opIx (dIxV 0 (dC (.int 1))) (dVar 2)) doNone (doSome (dVar 3))) daNil)) daNil)))))
def t_law_least  : DS := (dsSeq (dsSet 1 (dLst daNil))
  (dsSeq (dsFor (diRange1 (daCons (dCall cLen [] (daCons (dIxV 0 (dC (.int 0))) daNil)) daNil)) (dgName 2)
  (t_law_least_b2 ))
  (dsRet (dTup (daCons (dCall cList [] (daCons (dIxV 0 (dC (.int 0))) daNil)) (daCons (dVar 1) daNil))))))

/- law_goal: 0 _law_d 1 _law_place 2 _law_row 3 _law_at 4 _law_goals -/
def t_law_goal  : DS := (dsSeq (dsAsg (dVar 1) (dgTup 2 (dgsCons (dgName 2) (dgsCons (dgName 3) dgsNil))))
  (dsSeq (dsSet 4 (dOp opIx (dIxV 0 (dC (.int 1))) (dVar 2)))
  (dsRet (dIf (dB (dOp opLt (dVar 3) (dCall cLen [] (daBor 4 daNil)))) (dIxV 4 (dVar 3)) (dTup (daCons (dVar 2) (daCons (dOp opAdd (dVar 3) (dOp opIx (dIxV 0 (dC (.int 0))) (dVar 2))) daNil)))))))

/- law_made: 0 _law_d 1 _law_row -/
def t_law_made (C_LaneMap : Addr) (c_LaneMap_init : Con) : DS := (dsRet (dMake C_LaneMap c_LaneMap_init [] (daCons (dCall cList [] (daCons (dIxV 0 (dC (.int 0))) daNil)) (daCons (dComp (diAny (dIxV 0 (dC (.int 1)))) [1] (dgName 1) dtYes (dCall cList [] (daCons (dVar 1) daNil))) daNil))))

/- law_like: 0 _law_found 1 _law_due 2 _law_kinds 3 _law_one 4 _law_k -/
def t_law_like (c_law_like : Con) : DS := (dsSeq (dsIf (dB (dCall cIsi [] (daBor 1 (daCons (dTup (daCons (dC (.ty "list")) (daCons (dC (.ty "tuple")) daNil))) daNil))))
  (dsSeq (dsSet 2 (dComp (diAny (dTup (daCons (dVar 0) (daCons (dVar 1) daNil)))) [3] (dgName 3) dtYes (dTup (daCons (dCall cIsi [] (daBor 3 (daCons (dC (.ty "list")) daNil))) (daCons (dCall cIsi [] (daBor 3 (daCons (dC (.ty "tuple")) daNil))) daNil)))))
  (dsSeq (dsIf (dOr (dB (dOp opNe (dIxV 2 (dC (.int 0))) (dIxV 2 (dC (.int 1))))) (dB (dOp opNe (dCall cLen [] (daBor 0 daNil)) (dCall cLen [] (daBor 1 daNil)))))
  (dsRet (dC (.bl false)))
  dsNext)
  (dsRet (dCall cAll [] (daCons (dComp (diRange1 (daCons (dCall cLen [] (daBor 1 daNil)) daNil)) [4] (dgName 4) dtYes (dTmp (dCall c_law_like [] (daCons (dIxV 0 (dVar 4)) (daCons (dIxV 1 (dVar 4)) daNil))))) daNil)))))
  dsNext)
  (dsSeq (dsIf (dOr (dB (dOp opIsN (dVar 1) (dC .non))) (dB (dOp opIsN (dVar 0) (dC .non))))
  (dsRet (dAndV (dOp opIsN (dVar 1) (dC .non)) (dOp opIsN (dVar 0) (dC .non))))
  dsNext)
  (dsSeq (dsIf (dOr (dB (dCall cIsi [] (daBor 1 (daCons (dC (.ty "bool")) daNil)))) (dB (dCall cIsi [] (daBor 0 (daCons (dC (.ty "bool")) daNil)))))
  (dsRet (dAndV (dCall cIsi [] (daBor 1 (daCons (dC (.ty "bool")) daNil))) (dAndV (dCall cIsi [] (daBor 0 (daCons (dC (.ty "bool")) daNil))) (dOp opEq (dVar 0) (dVar 1)))))
  dsNext)
  (dsSeq (dsIf (dOr (dB (dOp opNe (dCall cIsi [] (daBor 0 (daCons (dC (.ty "int")) daNil))) (dCall cIsi [] (daBor 1 (daCons (dC (.ty "int")) daNil))))) (dB (dOp opNe (dCall cIsi [] (daBor 0 (daCons (dC (.ty "str")) daNil))) (dCall cIsi [] (daBor 1 (daCons (dC (.ty "str")) daNil))))))
  (dsRet (dC (.bl false)))
  dsNext)
  (dsRet (dOp opEq (dVar 0) (dVar 1)))))))

/- law_road: 0 _law_d 1 _law_entry 2 _law_found -/
def t_law_road_b1 (c_law_goal : Con) : DS := (dsExpr (dMt mAppend 2 (daOwn (dCall c_law_goal [] (daCons (dVar 0) (daCons (dIxV 2 (dNeg (dC (.int 1)))) daNil))) daNil)))
def t_law_road (c_law_goal : Con) : DS := (dsSeq (dsSet 2 (dLst (daCons (dVar 1) daNil)))
  (dsSeq (dsWhile (dOr (dB (dOp opLt (dCall cLen [] (daBor 2 daNil)) (dC (.int 2)))) (dOr (dB (dOp opLe (dOp opIx (dIxV 0 (dC (.int 0))) (dOp opIx (dIxV 2 (dNeg (dC (.int 1)))) (dC (.int 0)))) (dC (.int 0)))) (dB (dOp opLt (dOp opIx (dIxV 2 (dNeg (dC (.int 1)))) (dC (.int 1))) (dCall cLen [] (daCons (dOp opIx (dIxV 0 (dC (.int 1))) (dOp opIx (dIxV 2 (dNeg (dC (.int 1)))) (dC (.int 0)))) daNil))))))
  (t_law_road_b1 c_law_goal))
  (dsRet (dTake 2))))

/- law_roads: 0 _law_d 1 _law_found 2 _law_row 3 _law_size 4 _law_at -/
def t_law_roads_b1 (c_law_road : Con) : DS := (dsExpr (dMt mAppend 1 (daOwn (dCall c_law_road [] (daCons (dVar 0) (daCons (dTup (daCons (dVar 2) (daCons (dVar 4) daNil))) daNil))) daNil)))
def t_law_roads_b2 (c_law_road : Con) : DS := (dsSeq (dsSet 3 (dCall cLen [] (daCons (dOp opIx (dIxV 0 (dC (.int 1))) (dVar 2)) daNil)))
  (dsFor (diRange2 (daCons (dVar 3) (daCons (dOp opSub (dVar 3) (dOp opIx (dIxV 0 (dC (.int 0))) (dVar 2))) daNil))) (dgName 4)
  (t_law_roads_b1 c_law_road)))
def t_law_roads (c_law_road : Con) : DS := (dsSeq (dsSet 1 (dLst daNil))
  (dsSeq (dsFor (diRange1 (daCons (dCall cLen [] (daCons (dIxV 0 (dC (.int 0))) daNil)) daNil)) (dgName 2)
  (t_law_roads_b2 c_law_road))
  (dsRet (dTake 1))))

/- law: 0 _law_script 1 _law_bag_here 2 _law_turn 3 _law_wide 4 _law_d 5 _law_found 6 _law_due 7 _law_again 8 _law_told 9 _law_road_here 10 _law_row 11 _law_own 12 _law_odd -/
def t_law_b1 (c_law_bag : Con) (c_law_pull : Con) (c_law_any : Con) (c_law_roads : Con) (c_law_made : Con) (c_roads : Con) (c_law_like : Con) (c_law_far : Con) (c_law_of : Con) (c_identity : Con) : DS := (dsExpr (dMt mClear 9 daNil))
def t_law_b2 (c_law_bag : Con) (c_law_pull : Con) (c_law_any : Con) (c_law_roads : Con) (c_law_made : Con) (c_roads : Con) (c_law_like : Con) (c_law_far : Con) (c_law_of : Con) (c_identity : Con) : DS := (dsSeq (dsSet 8 (dCall c_roads [.non] (daCons (dVar 5) daNil)))
  (dsSeq (dsIf (dOr (dNot (dB (dTmp (dCall c_law_like [] (daCons (dVar 8) (daCons (dVar 6) daNil)))))) (dNot (dB (dTmp (dCall c_law_like [] (daCons (dCallK c_roads 1 1 (fun xs ys => xs ++ ys) (daCons (dVar 5) (daCons (dC .non) daNil))) (daCons (dVar 6) daNil)))))))
  (dsRet (dC (.bl false)))
  dsNext)
  (dsSeq (dsForB 8 9
  (t_law_b1 c_law_bag c_law_pull c_law_any c_law_roads c_law_made c_roads c_law_like c_law_far c_law_of c_identity))
  (dsExpr (dMt mAppend 8 (daOwn (dLst daNil) daNil))))))
def t_law_b3 (c_law_bag : Con) (c_law_pull : Con) (c_law_any : Con) (c_law_roads : Con) (c_law_made : Con) (c_roads : Con) (c_law_like : Con) (c_law_far : Con) (c_law_of : Con) (c_identity : Con) : DS := (dsExpr (dMt mClear 9 daNil))
def t_law_b4 (c_law_bag : Con) (c_law_pull : Con) (c_law_any : Con) (c_law_roads : Con) (c_law_made : Con) (c_roads : Con) (c_law_like : Con) (c_law_far : Con) (c_law_of : Con) (c_identity : Con) : DS := (dsSeq (dsSet 8 (dCallK c_roads 1 1 (fun xs ys => xs ++ ys) (daCons (dVar 5) (daCons (dVar 10) daNil))))
  (dsSeq (dsIf (dNot (dB (dTmp (dCall c_law_like [] (daCons (dVar 8) (daCons (dVar 11) daNil))))))
  (dsRet (dC (.bl false)))
  dsNext)
  (dsSeq (dsForB 8 9
  (t_law_b3 c_law_bag c_law_pull c_law_any c_law_roads c_law_made c_roads c_law_like c_law_far c_law_of c_identity))
  (dsExpr (dMt mAppend 8 (daOwn (dC (.str (Str.ofString ""))) daNil))))))
def t_law_b5 (c_law_bag : Con) (c_law_pull : Con) (c_law_any : Con) (c_law_roads : Con) (c_law_made : Con) (c_roads : Con) (c_law_like : Con) (c_law_far : Con) (c_law_of : Con) (c_identity : Con) : DS := (dsSeq (dsSet 11 (dComp (diAny (dVar 6)) [9] (dgName 9) (dB (dOp opEq (dOp opIx (dIxV 9 (dC (.int 0))) (dC (.int 0))) (dVar 10))) (dVar 9)))
  (dsFor (diRange1 (daCons (dC (.int 2)) daNil)) (dgName 7)
  (t_law_b4 c_law_bag c_law_pull c_law_any c_law_roads c_law_made c_roads c_law_like c_law_far c_law_of c_identity)))
def t_law_b6 (c_law_bag : Con) (c_law_pull : Con) (c_law_any : Con) (c_law_roads : Con) (c_law_made : Con) (c_roads : Con) (c_law_like : Con) (c_law_far : Con) (c_law_of : Con) (c_identity : Con) : DS := (dsSeq (dsSet 3 (dOp opAdd (dC (.int 1)) (dCall c_law_pull [] (daBor 1 (daCons (dC (.int 6)) daNil)))))
  (dsSeq (dsSet 4 (dCall c_law_any [] (daBor 1 (daCons (dVar 3) (daCons (dC (.int 14)) (daCons (dC (.int 3)) daNil))))))
  (dsSeq (dsPar 5 6 (daOwn (dCall c_law_made [] (daCons (dVar 4) daNil)) (daOwn (dCall c_law_roads [] (daCons (dVar 4) daNil)) daNil)))
  (dsSeq (dsFor (diRange1 (daCons (dC (.int 2)) daNil)) (dgName 7)
  (t_law_b2 c_law_bag c_law_pull c_law_any c_law_roads c_law_made c_roads c_law_like c_law_far c_law_of c_identity))
  (dsSeq (dsFor (diRange1 (daCons (dVar 3) daNil)) (dgName 10)
  (t_law_b5 c_law_bag c_law_pull c_law_any c_law_roads c_law_made c_roads c_law_like c_law_far c_law_of c_identity))
  (dsSeq (dsSet 12 (dCall c_law_of [] (daBor 1 (daCons (dLst (daCons (dVar 3) (daCons (dNeg (dC (.int 1))) (daCons (dCall c_law_far [] (daBor 1 daNil)) daNil)))) daNil))))
  (dsIf (dB (dOp opNe (dCallK c_roads 0 2 (fun xs ys => xs ++ ys) (daCons (dVar 5) (daCons (dVar 12) daNil))) (dLst daNil)))
  (dsRet (dC (.bl false)))
  dsNext)))))))
def t_law (c_law_bag : Con) (c_law_pull : Con) (c_law_any : Con) (c_law_roads : Con) (c_law_made : Con) (c_roads : Con) (c_law_like : Con) (c_law_far : Con) (c_law_of : Con) (c_identity : Con) : DS := (dsSeq (dsSet 1 (dCall c_law_bag [] (daCons (dVar 0) daNil)))
  (dsSeq (dsFor (diRange1 (daCons (dC (.int 3)) daNil)) (dgName 2)
  (t_law_b6 c_law_bag c_law_pull c_law_any c_law_roads c_law_made c_roads c_law_like c_law_far c_law_of c_identity))
  (dsRet (dOp opEq (dCall c_roads [.non] (daCons (dCall c_identity [] (daCons (dC (.int 2)) daNil)) daNil)) (dLst daNil)))))
end FL

namespace FL
open PySem PySem.Spec PyProof.Rows L2 TL
def top (i : Nat) : Stmt := PySem.Challenge.pw_farlanes_k12_roads.main.body.getD i (.Pass ⟨0, 0, 0, 0⟩)
abbrev s_is_place : Stmt := top 11
theorem sc_is_place : FnScope ["place", "lanes", "lane", "at"] ["place", "lanes"] (defScope s_is_place) := ⟨rfl, rfl, rfl, by decide +kernel, rfl, by decide +kernel, by decide +kernel⟩
abbrev s_need_place : Stmt := top 12
theorem sc_need_place : FnScope ["place", "lanes"] ["place", "lanes"] (defScope s_need_place) := ⟨rfl, rfl, rfl, by decide +kernel, rfl, by decide +kernel, by decide +kernel⟩
abbrev s_need_lanes : Stmt := top 13
theorem sc_need_lanes : FnScope ["lanes"] ["lanes"] (defScope s_need_lanes) := ⟨rfl, rfl, rfl, by decide +kernel, rfl, by decide +kernel, by decide +kernel⟩
abbrev s_least_goals : Stmt := top 14
theorem sc_least_goals : FnScope ["drifts", "goals", "found", "lane", "row", "size"] ["drifts", "goals"] (defScope s_least_goals) := ⟨rfl, rfl, rfl, by decide +kernel, rfl, by decide +kernel, by decide +kernel⟩
abbrev s_need_goals : Stmt := top 15
theorem sc_need_goals : FnScope ["drifts", "goals", "lane", "row", "at", "goal"] ["drifts", "goals"] (defScope s_need_goals) := ⟨rfl, rfl, rfl, by decide +kernel, rfl, by decide +kernel, by decide +kernel⟩
abbrev s_need_bijection : Stmt := top 16
theorem sc_need_bijection : FnScope ["drifts", "goals", "counts", "row", "goal", "lane", "begin", "at", "twice"] ["drifts", "goals"] (defScope s_need_bijection) := ⟨rfl, rfl, rfl, by decide +kernel, rfl, by decide +kernel, by decide +kernel⟩
abbrev s_LaneMap_init : Stmt := inClass (top 17) 0
theorem sc_LaneMap_init : FnScope ["self", "drifts", "goals", "rows", "lane", "row", "at", "goal", "drift"] ["self", "drifts", "goals"] (defScope s_LaneMap_init) := ⟨rfl, rfl, rfl, by decide +kernel, rfl, by decide +kernel, by decide +kernel⟩
abbrev s_LaneMap_drifts : Stmt := inClass (top 17) 6
theorem sc_LaneMap_drifts : FnScope ["self"] ["self"] (defScope s_LaneMap_drifts) := ⟨rfl, rfl, rfl, by decide +kernel, rfl, by decide +kernel, by decide +kernel⟩
abbrev s_LaneMap_bounds : Stmt := inClass (top 17) 7
theorem sc_LaneMap_bounds : FnScope ["self", "row"] ["self"] (defScope s_LaneMap_bounds) := ⟨rfl, rfl, rfl, by decide +kernel, rfl, by decide +kernel, by decide +kernel⟩
abbrev s_LaneMap_goal : Stmt := inClass (top 17) 9
theorem sc_LaneMap_goal : FnScope ["self", "place", "lane", "at", "row"] ["self", "place"] (defScope s_LaneMap_goal) := ⟨rfl, rfl, rfl, by decide +kernel, rfl, by decide +kernel, by decide +kernel⟩
abbrev s_identity : Stmt := top 18
theorem sc_identity : FnScope ["lanes"] ["lanes"] (defScope s_identity) := ⟨rfl, rfl, rfl, by decide +kernel, rfl, by decide +kernel, by decide +kernel⟩
abbrev s_road_from : Stmt := top 20
theorem sc_road_from : FnScope ["lane_map", "entry", "drifts", "bounds", "found", "lane", "at"] ["lane_map", "entry"] (defScope s_road_from) := ⟨rfl, rfl, rfl, by decide +kernel, rfl, by decide +kernel, by decide +kernel⟩
abbrev s_cycle_from : Stmt := top 21
theorem sc_cycle_from : FnScope ["lane_map", "first", "found", "place"] ["lane_map", "first"] (defScope s_cycle_from) := ⟨rfl, rfl, rfl, by decide +kernel, rfl, by decide +kernel, by decide +kernel⟩
abbrev s_Orbits_init : Stmt := inClass (top 22) 0
theorem sc_Orbits_init : FnScope ["self", "lane_map", "lane", "drift", "at", "bound"] ["self", "lane_map"] (defScope s_Orbits_init) := ⟨rfl, rfl, rfl, by decide +kernel, rfl, by decide +kernel, by decide +kernel⟩
abbrev s_Orbits_seat : Stmt := inClass (top 22) 1
theorem sc_Orbits_seat : FnScope ["self", "kind", "orbits", "orbit", "index", "place"] ["self", "kind", "orbits", "orbit"] (defScope s_Orbits_seat) := ⟨rfl, rfl, rfl, by decide +kernel, rfl, by decide +kernel, by decide +kernel⟩
abbrev s_Orbits_sit : Stmt := inClass (top 22) 2
theorem sc_Orbits_sit : FnScope ["self", "orbit"] ["self", "orbit"] (defScope s_Orbits_sit) := ⟨rfl, rfl, rfl, by decide +kernel, rfl, by decide +kernel, by decide +kernel⟩
abbrev s_roads : Stmt := top 23
theorem sc_roads : FnScope ["lane_map", "lane", "road"] ["lane_map", "lane"] (defScope s_roads) := ⟨rfl, rfl, rfl, by decide +kernel, rfl, by decide +kernel, by decide +kernel⟩
abbrev s_law_bag : Stmt := top 25
theorem sc_law_bag : FnScope ["_law_script", "_law_mix", "_law_cell"] ["_law_script"] (defScope s_law_bag) := ⟨rfl, rfl, rfl, by decide +kernel, rfl, by decide +kernel, by decide +kernel⟩
abbrev s_law_pull : Stmt := top 26
theorem sc_law_pull : FnScope ["_law_bag_here", "_law_size", "_law_cell", "_law_mix", "_law_found"] ["_law_bag_here", "_law_size"] (defScope s_law_pull) := ⟨rfl, rfl, rfl, by decide +kernel, rfl, by decide +kernel, by decide +kernel⟩
abbrev s_law_of : Stmt := top 27
theorem sc_law_of : FnScope ["_law_bag_here", "_law_some"] ["_law_bag_here", "_law_some"] (defScope s_law_of) := ⟨rfl, rfl, rfl, by decide +kernel, rfl, by decide +kernel, by decide +kernel⟩
abbrev s_law_far : Stmt := top 28
theorem sc_law_far : FnScope ["_law_bag_here"] ["_law_bag_here"] (defScope s_law_far) := ⟨rfl, rfl, rfl, by decide +kernel, rfl, by decide +kernel, by decide +kernel⟩
abbrev s_law_drifts : Stmt := top 29
theorem sc_law_drifts : FnScope ["_law_bag_here", "_law_wide", "_law_steps", "_law_drifts_here", "_law_step", "_law_one", "_law_other"] ["_law_bag_here", "_law_wide", "_law_steps"] (defScope s_law_drifts) := ⟨rfl, rfl, rfl, by decide +kernel, rfl, by decide +kernel, by decide +kernel⟩
abbrev s_law_deal : Stmt := top 30
theorem sc_law_deal : FnScope ["_law_bag_here", "_law_drifts_here", "_law_more", "_law_sizes", "_law_free", "_law_row", "_law_straight", "_law_goals", "_law_size", "_law_found", "_law_at", "_law_drift"] ["_law_bag_here", "_law_drifts_here", "_law_more"] (defScope s_law_deal) := ⟨rfl, rfl, rfl, by decide +kernel, rfl, by decide +kernel, by decide +kernel⟩
abbrev s_law_any : Stmt := top 31
theorem sc_law_any : FnScope ["_law_bag_here", "_law_wide", "_law_steps", "_law_more"] ["_law_bag_here", "_law_wide", "_law_steps", "_law_more"] (defScope s_law_any) := ⟨rfl, rfl, rfl, by decide +kernel, rfl, by decide +kernel, by decide +kernel⟩
abbrev s_law_least : Stmt := top 32
theorem sc_law_least : FnScope ["_law_d", "_law_goals", "_law_row", "_law_size"] ["_law_d"] (defScope s_law_least) := ⟨rfl, rfl, rfl, by decide +kernel, rfl, by decide +kernel, by decide +kernel⟩
abbrev s_law_goal : Stmt := top 33
theorem sc_law_goal : FnScope ["_law_d", "_law_place", "_law_row", "_law_at", "_law_goals"] ["_law_d", "_law_place"] (defScope s_law_goal) := ⟨rfl, rfl, rfl, by decide +kernel, rfl, by decide +kernel, by decide +kernel⟩
abbrev s_law_made : Stmt := top 34
theorem sc_law_made : FnScope ["_law_d", "_law_row"] ["_law_d"] (defScope s_law_made) := ⟨rfl, rfl, rfl, by decide +kernel, rfl, by decide +kernel, by decide +kernel⟩
abbrev s_law_like : Stmt := top 35
theorem sc_law_like : FnScope ["_law_found", "_law_due", "_law_kinds", "_law_one", "_law_k"] ["_law_found", "_law_due"] (defScope s_law_like) := ⟨rfl, rfl, rfl, by decide +kernel, rfl, by decide +kernel, by decide +kernel⟩
abbrev s_law_road : Stmt := top 36
theorem sc_law_road : FnScope ["_law_d", "_law_entry", "_law_found"] ["_law_d", "_law_entry"] (defScope s_law_road) := ⟨rfl, rfl, rfl, by decide +kernel, rfl, by decide +kernel, by decide +kernel⟩
abbrev s_law_roads : Stmt := top 37
theorem sc_law_roads : FnScope ["_law_d", "_law_found", "_law_row", "_law_size", "_law_at"] ["_law_d"] (defScope s_law_roads) := ⟨rfl, rfl, rfl, by decide +kernel, rfl, by decide +kernel, by decide +kernel⟩
abbrev s_law : Stmt := top 38
theorem sc_law : FnScope ["_law_script", "_law_bag_here", "_law_turn", "_law_wide", "_law_d", "_law_found", "_law_due", "_law_again", "_law_told", "_law_road_here", "_law_row", "_law_own", "_law_odd"] ["_law_script"] (defScope s_law) := ⟨rfl, rfl, rfl, by decide +kernel, rfl, by decide +kernel, by decide +kernel⟩
structure Txt (K : PySem.W.Frag) (mg : Str → Option Value) where
  C_LaneMap : Addr
  g_LaneMap : mg "LaneMap" = some (.ref C_LaneMap)
  cl_LaneMap : Cls K C_LaneMap
  C_Orbits : Addr
  g_Orbits : mg "Orbits" = some (.ref C_Orbits)
  cl_Orbits : Cls K C_Orbits
  n_LaneMap_inner : NoAttr K C_LaneMap "inner"
  n_LaneMap_sources : NoAttr K C_LaneMap "sources"
  n_LaneMap_steady : NoAttr K C_LaneMap "steady"
  n_Orbits_base : NoAttr K C_Orbits "base"
  n_Orbits_cycles : NoAttr K C_Orbits "cycles"
  n_Orbits_fixed : NoAttr K C_Orbits "fixed"
  n_Orbits_limits : NoAttr K C_Orbits "limits"
  n_Orbits_roads : NoAttr K C_Orbits "roads"
  n_Orbits_seats : NoAttr K C_Orbits "seats"
  n_Orbits_steady : NoAttr K C_Orbits "steady"
  a_is_place : Addr
  fd_is_place : FuncData
  F_is_place : Fun K "is_place" "is_place" s_is_place a_is_place fd_is_place
  b_is_place : Binds K fd_is_place ["place", "lanes"] []
  m_is_place : mg "is_place" = some (.ref a_is_place)
  a_need_place : Addr
  fd_need_place : FuncData
  F_need_place : Fun K "need_place" "need_place" s_need_place a_need_place fd_need_place
  b_need_place : Binds K fd_need_place ["place", "lanes"] []
  m_need_place : mg "need_place" = some (.ref a_need_place)
  a_need_lanes : Addr
  fd_need_lanes : FuncData
  F_need_lanes : Fun K "need_lanes" "need_lanes" s_need_lanes a_need_lanes fd_need_lanes
  b_need_lanes : Binds K fd_need_lanes ["lanes"] []
  m_need_lanes : mg "need_lanes" = some (.ref a_need_lanes)
  a_least_goals : Addr
  fd_least_goals : FuncData
  F_least_goals : Fun K "least_goals" "least_goals" s_least_goals a_least_goals fd_least_goals
  b_least_goals : Binds K fd_least_goals ["drifts", "goals"] []
  m_least_goals : mg "least_goals" = some (.ref a_least_goals)
  a_need_goals : Addr
  fd_need_goals : FuncData
  F_need_goals : Fun K "need_goals" "need_goals" s_need_goals a_need_goals fd_need_goals
  b_need_goals : Binds K fd_need_goals ["drifts", "goals"] []
  m_need_goals : mg "need_goals" = some (.ref a_need_goals)
  a_need_bijection : Addr
  fd_need_bijection : FuncData
  F_need_bijection : Fun K "need_bijection" "need_bijection" s_need_bijection a_need_bijection fd_need_bijection
  b_need_bijection : Binds K fd_need_bijection ["drifts", "goals"] []
  m_need_bijection : mg "need_bijection" = some (.ref a_need_bijection)
  a_LaneMap_init : Addr
  fd_LaneMap_init : FuncData
  e_LaneMap_init : List V
  F_LaneMap_init : FunD K "__init__" "LaneMap.__init__" (defArgs s_LaneMap_init) (defBody s_LaneMap_init) (defScope s_LaneMap_init) e_LaneMap_init [] a_LaneMap_init fd_LaneMap_init
  b_LaneMap_init : Binds K fd_LaneMap_init ["self", "drifts", "goals"] []
  ds_LaneMap_init : List Value
  bd_LaneMap_init : Binds K fd_LaneMap_init ["self", "drifts", "goals"] ds_LaneMap_init
  vd_LaneMap_init : Vals e_LaneMap_init ds_LaneMap_init
  rd_LaneMap_init : Reps K (fun _ => none) e_LaneMap_init [.kt]
  mk_LaneMap : Mk K C_LaneMap a_LaneMap_init
  a_LaneMap_drifts : Addr
  fd_LaneMap_drifts : FuncData
  F_LaneMap_drifts : Fun K "drifts" "LaneMap.drifts" s_LaneMap_drifts a_LaneMap_drifts fd_LaneMap_drifts
  b_LaneMap_drifts : Binds K fd_LaneMap_drifts ["self"] []
  me_LaneMap_drifts : Meth K C_LaneMap "drifts" a_LaneMap_drifts
  a_LaneMap_bounds : Addr
  fd_LaneMap_bounds : FuncData
  F_LaneMap_bounds : Fun K "bounds" "LaneMap.bounds" s_LaneMap_bounds a_LaneMap_bounds fd_LaneMap_bounds
  b_LaneMap_bounds : Binds K fd_LaneMap_bounds ["self"] []
  me_LaneMap_bounds : Meth K C_LaneMap "bounds" a_LaneMap_bounds
  a_LaneMap_goal : Addr
  fd_LaneMap_goal : FuncData
  F_LaneMap_goal : Fun K "goal" "LaneMap.goal" s_LaneMap_goal a_LaneMap_goal fd_LaneMap_goal
  b_LaneMap_goal : Binds K fd_LaneMap_goal ["self", "place"] []
  me_LaneMap_goal : Meth K C_LaneMap "goal" a_LaneMap_goal
  a_identity : Addr
  fd_identity : FuncData
  F_identity : Fun K "identity" "identity" s_identity a_identity fd_identity
  b_identity : Binds K fd_identity ["lanes"] []
  m_identity : mg "identity" = some (.ref a_identity)
  a_road_from : Addr
  fd_road_from : FuncData
  F_road_from : Fun K "road_from" "road_from" s_road_from a_road_from fd_road_from
  b_road_from : Binds K fd_road_from ["lane_map", "entry"] []
  m_road_from : mg "road_from" = some (.ref a_road_from)
  a_cycle_from : Addr
  fd_cycle_from : FuncData
  F_cycle_from : Fun K "cycle_from" "cycle_from" s_cycle_from a_cycle_from fd_cycle_from
  b_cycle_from : Binds K fd_cycle_from ["lane_map", "first"] []
  m_cycle_from : mg "cycle_from" = some (.ref a_cycle_from)
  a_Orbits_init : Addr
  fd_Orbits_init : FuncData
  F_Orbits_init : Fun K "__init__" "Orbits.__init__" s_Orbits_init a_Orbits_init fd_Orbits_init
  b_Orbits_init : Binds K fd_Orbits_init ["self", "lane_map"] []
  mk_Orbits : Mk K C_Orbits a_Orbits_init
  a_Orbits_seat : Addr
  fd_Orbits_seat : FuncData
  F_Orbits_seat : Fun K "seat" "Orbits.seat" s_Orbits_seat a_Orbits_seat fd_Orbits_seat
  b_Orbits_seat : Binds K fd_Orbits_seat ["self", "kind", "orbits", "orbit"] []
  me_Orbits_seat : Meth K C_Orbits "seat" a_Orbits_seat
  a_Orbits_sit : Addr
  fd_Orbits_sit : FuncData
  F_Orbits_sit : Fun K "sit" "Orbits.sit" s_Orbits_sit a_Orbits_sit fd_Orbits_sit
  b_Orbits_sit : Binds K fd_Orbits_sit ["self", "orbit"] []
  me_Orbits_sit : Meth K C_Orbits "sit" a_Orbits_sit
  a_roads : Addr
  fd_roads : FuncData
  F_roads : FunD K "roads" "roads" (defArgs s_roads) (defBody s_roads) (defScope s_roads) [] [("lane", .non)] a_roads fd_roads
  ds_roads : List Value
  bd_roads : Binds K fd_roads ["lane_map", "lane"] ds_roads
  vd_roads : Vals [.non] ds_roads
  rd_roads : Reps K (fun _ => none) [.non] [.non]
  kb_roads_0 : KBn K fd_roads ["lane_map", "lane"] 1 ["lane"] (fun us ws => us ++ ws) (fun vs zs => vs ++ zs)
  kb_roads_1 : KBn K fd_roads ["lane_map", "lane"] 0 ["lane_map", "lane"] (fun us ws => us ++ ws) (fun vs zs => vs ++ zs)
  m_roads : mg "roads" = some (.ref a_roads)
  a_law_bag : Addr
  fd_law_bag : FuncData
  F_law_bag : Fun K "_law_bag" "_law_bag" s_law_bag a_law_bag fd_law_bag
  b_law_bag : Binds K fd_law_bag ["_law_script"] []
  m_law_bag : mg "_law_bag" = some (.ref a_law_bag)
  a_law_pull : Addr
  fd_law_pull : FuncData
  F_law_pull : Fun K "_law_pull" "_law_pull" s_law_pull a_law_pull fd_law_pull
  b_law_pull : Binds K fd_law_pull ["_law_bag_here", "_law_size"] []
  m_law_pull : mg "_law_pull" = some (.ref a_law_pull)
  a_law_of : Addr
  fd_law_of : FuncData
  F_law_of : Fun K "_law_of" "_law_of" s_law_of a_law_of fd_law_of
  b_law_of : Binds K fd_law_of ["_law_bag_here", "_law_some"] []
  m_law_of : mg "_law_of" = some (.ref a_law_of)
  a_law_far : Addr
  fd_law_far : FuncData
  F_law_far : Fun K "_law_far" "_law_far" s_law_far a_law_far fd_law_far
  b_law_far : Binds K fd_law_far ["_law_bag_here"] []
  m_law_far : mg "_law_far" = some (.ref a_law_far)
  a_law_drifts : Addr
  fd_law_drifts : FuncData
  F_law_drifts : Fun K "_law_drifts" "_law_drifts" s_law_drifts a_law_drifts fd_law_drifts
  b_law_drifts : Binds K fd_law_drifts ["_law_bag_here", "_law_wide", "_law_steps"] []
  m_law_drifts : mg "_law_drifts" = some (.ref a_law_drifts)
  a_law_deal : Addr
  fd_law_deal : FuncData
  F_law_deal : Fun K "_law_deal" "_law_deal" s_law_deal a_law_deal fd_law_deal
  b_law_deal : Binds K fd_law_deal ["_law_bag_here", "_law_drifts_here", "_law_more"] []
  m_law_deal : mg "_law_deal" = some (.ref a_law_deal)
  a_law_any : Addr
  fd_law_any : FuncData
  F_law_any : Fun K "_law_any" "_law_any" s_law_any a_law_any fd_law_any
  b_law_any : Binds K fd_law_any ["_law_bag_here", "_law_wide", "_law_steps", "_law_more"] []
  m_law_any : mg "_law_any" = some (.ref a_law_any)
  a_law_least : Addr
  fd_law_least : FuncData
  F_law_least : Fun K "_law_least" "_law_least" s_law_least a_law_least fd_law_least
  b_law_least : Binds K fd_law_least ["_law_d"] []
  m_law_least : mg "_law_least" = some (.ref a_law_least)
  a_law_goal : Addr
  fd_law_goal : FuncData
  F_law_goal : Fun K "_law_goal" "_law_goal" s_law_goal a_law_goal fd_law_goal
  b_law_goal : Binds K fd_law_goal ["_law_d", "_law_place"] []
  m_law_goal : mg "_law_goal" = some (.ref a_law_goal)
  a_law_made : Addr
  fd_law_made : FuncData
  F_law_made : Fun K "_law_made" "_law_made" s_law_made a_law_made fd_law_made
  b_law_made : Binds K fd_law_made ["_law_d"] []
  m_law_made : mg "_law_made" = some (.ref a_law_made)
  a_law_like : Addr
  fd_law_like : FuncData
  F_law_like : Fun K "_law_like" "_law_like" s_law_like a_law_like fd_law_like
  b_law_like : Binds K fd_law_like ["_law_found", "_law_due"] []
  m_law_like : mg "_law_like" = some (.ref a_law_like)
  a_law_road : Addr
  fd_law_road : FuncData
  F_law_road : Fun K "_law_road" "_law_road" s_law_road a_law_road fd_law_road
  b_law_road : Binds K fd_law_road ["_law_d", "_law_entry"] []
  m_law_road : mg "_law_road" = some (.ref a_law_road)
  a_law_roads : Addr
  fd_law_roads : FuncData
  F_law_roads : Fun K "_law_roads" "_law_roads" s_law_roads a_law_roads fd_law_roads
  b_law_roads : Binds K fd_law_roads ["_law_d"] []
  m_law_roads : mg "_law_roads" = some (.ref a_law_roads)
  a_law : Addr
  fd_law : FuncData
  F_law : Fun K "law" "law" s_law a_law fd_law
  b_law : Binds K fd_law ["_law_script"] []
  m_law : mg "law" = some (.ref a_law)
  z_all : mg "all" = none
  z_bool : mg "bool" = none
  z_enumerate : mg "enumerate" = none
  z_int : mg "int" = none
  z_isinstance : mg "isinstance" = none
  z_len : mg "len" = none
  z_list : mg "list" = none
  z_max : mg "max" = none
  z_range : mg "range" = none
  z_sorted : mg "sorted" = none
  z_str : mg "str" = none
  z_sum : mg "sum" = none
  z_tuple : mg "tuple" = none
  t_MOST_GOALS : Tok
  m_MOST_GOALS : mg "MOST_GOALS" = some (.int 2000 t_MOST_GOALS)
  t_MOST_LANES : Tok
  m_MOST_LANES : mg "MOST_LANES" = some (.int 6 t_MOST_LANES)
section
variable {P : Program} {w : World} {K : PySem.W.Frag} {mg : Str → Option Value} {base : Heap}
theorem b_is_place (T : Txt K mg) {k : Nat}  {C : Con} (hlen : ∀ ls kk kx, C ls kk kx → ls.length = 2)
    (hC : ∀ ls kk kx, C ls kk kx → t_is_place  (endsOf [] ls kk) (entry [] 4 ls)) : FnOk P w K mg base (L2.CX P w) (k + 1) T.a_is_place T.fd_is_place ["place", "lanes"] (spD K C) :=
  okD [] T.F_is_place sc_is_place hlen (t_is_place ) (fun cdv A outer s H E Y hr hY => have hN := sc_is_place.nd
  (dss_cons (ds_asg (de_var (pv 0)) (dg_tup rfl (dgs_cons (dg_name (nofx hY (by decide)) hN rfl (.inl rfl)) (dgs_cons (dg_name (nofx hY (by decide)) hN rfl (.inl rfl)) dgs_nil))))
  (dss_one (ds_ret (de_and (de_chain opr_le opr_lt de_int (de_var (pv 2)) (de_var (pv 1))) (de_one (de_cmp opr_ge (de_var (pv 3)) de_int (nomark _)))))))) hC
theorem b_need_place (T : Txt K mg) {k : Nat} {c_is_place : Con} (G_is_place : FnOk P w K mg base (L2.CX P w) k T.a_is_place T.fd_is_place ["place", "lanes"] (spD K c_is_place)) {C : Con} (hlen : ∀ ls kk kx, C ls kk kx → ls.length = 2)
    (hC : ∀ ls kk kx, C ls kk kx → t_need_place c_is_place (endsOf [] ls kk) (entry [] 2 ls)) : FnOk P w K mg base (L2.CX P w) (k + 1) T.a_need_place T.fd_need_place ["place", "lanes"] (spD K C) :=
  okD [] T.F_need_place sc_need_place hlen (t_need_place c_is_place) (fun cdv A outer s H E Y hr hY => have hN := sc_need_place.nd
  (dss_one (ds_if (dt_not (dt_val (de_call G_is_place hr rfl T.m_is_place T.F_is_place.kp T.b_is_place .nil .nil (da_cons (de_var (pv 0)) (da_cons (de_var (pv 1)) da_nil)))))
  (dss_one ds_never)
  dss_nil))) hC
theorem b_need_lanes (T : Txt K mg) {k : Nat}  {C : Con} (hlen : ∀ ls kk kx, C ls kk kx → ls.length = 1)
    (hC : ∀ ls kk kx, C ls kk kx → t_need_lanes  (endsOf [] ls kk) (entry [] 1 ls)) : FnOk P w K mg base (L2.CX P w) (k + 1) T.a_need_lanes T.fd_need_lanes ["lanes"] (spD K C) :=
  okD [] T.F_need_lanes sc_need_lanes hlen (t_need_lanes ) (fun cdv A outer s H E Y hr hY => have hN := sc_need_lanes.nd
  (dss_one (ds_if (dt_not (dt_chain opr_le opr_le de_int (de_var (pv 0)) (de_c (v := .int 6) (pe_glob (v := .int 6) rfl T.m_MOST_LANES ⟨_, rfl⟩) fun _ => .int _)))
  (dss_one ds_never)
  dss_nil))) hC
theorem b_least_goals (T : Txt K mg) {k : Nat}  {C : Con} (hlen : ∀ ls kk kx, C ls kk kx → ls.length = 2)
    (hC : ∀ ls kk kx, C ls kk kx → t_least_goals  (endsOf [] ls kk) (entry [] 6 ls)) : FnOk P w K mg base (L2.CX P w) (k + 1) T.a_least_goals T.fd_least_goals ["drifts", "goals"] (spD K C) :=
  okD [] T.F_least_goals sc_least_goals hlen (t_least_goals ) (fun cdv A outer s H E Y hr hY => have hN := sc_least_goals.nd
  (dss_cons (ds_set (nofx hY (by decide)) hN rfl (.inl rfl) (de_lst da_nil))
  (dss_cons (ds_for (passes_of rfl) rfl (di_enum (by rfl) T.z_enumerate (da_cons (de_var (pv 1)) da_nil)) (dg_tup rfl (dgs_cons (dg_name (nofx hY (by decide)) hN rfl (.inl rfl)) (dgs_cons (dg_name (nofx hY (by decide)) hN rfl (.inl rfl)) dgs_nil)))
  (dss_cons (ds_set (nofx hY (by decide)) hN rfl (.inl rfl) (de_bi bi_len (by rfl) T.z_len (by decide +kernel) (da_bor (pv 4) da_nil)))
  (dss_cons (ds_while (passes_of rfl) (PW.pt (dw_and (dt_cmp opr_gt (de_var (pv 5)) de_int (nomark _)) (dw_and1 (dt_cmp (opr_eq hr) (de_ixv (pv 4) (de_op opr_sub (de_var (pv 5)) de_int) (fun _ _ => rfl)) (de_tup (da_cons (de_var (pv 3)) (da_cons (de_op opr_add (de_op opr_sub (de_var (pv 5)) de_int) (de_ixv (pv 0) (de_var (pv 3)) (fun _ _ => rfl))) da_nil))) (nomark _)))))
  (dss_one (ds_aug (nofx hY (by decide)) hN rfl (.inl rfl) de_int opr_isub)))
  (dss_one (ds_expr (de_mt PySem.F.slot_list_append PySem.F.type_list_append mtr_append (pv 2) (da_own (de_ty bi_tuple (by rfl) T.z_tuple (by decide +kernel) (da_cons (de_sl (de_var (pv 4)) do_none (do_some (de_var (pv 5)))) da_nil)) da_nil)))))))
  (dss_one (ds_ret (de_ty bi_tuple (by rfl) T.z_tuple (by decide +kernel) (da_cons (de_var (pv 2)) da_nil))))))) hC
theorem b_need_goals (T : Txt K mg) {k : Nat} {c_is_place : Con} (G_is_place : FnOk P w K mg base (L2.CX P w) k T.a_is_place T.fd_is_place ["place", "lanes"] (spD K c_is_place)) {C : Con} (hlen : ∀ ls kk kx, C ls kk kx → ls.length = 2)
    (hC : ∀ ls kk kx, C ls kk kx → t_need_goals c_is_place (endsOf [] ls kk) (entry [] 6 ls)) : FnOk P w K mg base (L2.CX P w) (k + 1) T.a_need_goals T.fd_need_goals ["drifts", "goals"] (spD K C) :=
  okD [] T.F_need_goals sc_need_goals hlen (t_need_goals c_is_place) (fun cdv A outer s H E Y hr hY => have hN := sc_need_goals.nd
  (dss_one (ds_for (passes_of rfl) rfl (di_enum (by rfl) T.z_enumerate (da_cons (de_var (pv 1)) da_nil)) (dg_tup rfl (dgs_cons (dg_name (nofx hY (by decide)) hN rfl (.inl rfl)) (dgs_cons (dg_name (nofx hY (by decide)) hN rfl (.inl rfl)) dgs_nil)))
  (dss_cons (ds_for (passes_of rfl) rfl (di_enum (by rfl) T.z_enumerate (da_cons (de_var (pv 3)) da_nil)) (dg_tup rfl (dgs_cons (dg_name (nofx hY (by decide)) hN rfl (.inl rfl)) (dgs_cons (dg_name (nofx hY (by decide)) hN rfl (.inl rfl)) dgs_nil)))
  (dss_one (ds_if (dt_not (dt_val (de_call G_is_place hr rfl T.m_is_place T.F_is_place.kp T.b_is_place .nil .nil (da_cons (de_var (pv 5)) (da_cons (de_bi bi_len (by rfl) T.z_len (by decide +kernel) (da_bor (pv 0) da_nil)) da_nil)))))
  (dss_one ds_never)
  dss_nil)))
  (dss_one (ds_if (dt_cmp opr_lt (de_op opr_add (de_bi bi_len (by rfl) T.z_len (by decide +kernel) (da_bor (pv 3) da_nil)) (de_ixv (pv 0) (de_var (pv 2)) (fun _ _ => rfl))) de_int (nomark _))
  (dss_one ds_never)
  dss_nil)))))) hC
theorem b_need_bijection (T : Txt K mg) {k : Nat}  {C : Con} (hlen : ∀ ls kk kx, C ls kk kx → ls.length = 2)
    (hC : ∀ ls kk kx, C ls kk kx → t_need_bijection  (endsOf [] ls kk) (entry [] 9 ls)) : FnOk P w K mg base (L2.CX P w) (k + 1) T.a_need_bijection T.fd_need_bijection ["drifts", "goals"] (spD K C) :=
  okD [] T.F_need_bijection sc_need_bijection hlen (t_need_bijection ) (fun cdv A outer s H E Y hr hY => have hN := sc_need_bijection.nd
  (dss_cons (ds_set (nofx hY (by decide)) hN rfl (.inl rfl) de_dict)
  (dss_cons (ds_for (passes_of rfl) rfl (di_any (de_var (pv 1))) (dg_name (nofx hY (by decide)) hN rfl (.inl rfl))
  (dss_one (ds_for (passes_of rfl) rfl (di_any (de_var (pv 3))) (dg_name (nofx hY (by decide)) hN rfl (.inl rfl))
  (dss_one (ds_dput hr (pv 2) (de_var (pv 4)) (de_op opr_add (de_dget2 hr (pv 2) (de_var (pv 4)) de_int ⟨rfl, rfl, rfl, rfl⟩) de_int))))))
  (dss_one (ds_for (passes_of rfl) rfl (di_enum (by rfl) T.z_enumerate (da_cons (de_var (pv 1)) da_nil)) (dg_tup rfl (dgs_cons (dg_name (nofx hY (by decide)) hN rfl (.inr rfl)) (dgs_cons (dg_name (nofx hY (by decide)) hN rfl (.inl rfl)) dgs_nil)))
  (dss_cons (ds_set (nofx hY (by decide)) hN rfl (.inr rfl) (de_op opr_add (de_bi bi_len (by rfl) T.z_len (by decide +kernel) (da_bor (pv 3) da_nil)) (de_ixv (pv 0) (de_var (pv 5)) (fun _ _ => rfl))))
  (dss_cons (ds_set (nofx hY (by decide)) hN rfl (.inl rfl) de_int)
  (dss_cons (ds_while (passes_of rfl) (dt_cmp opr_lt (de_var (pv 7)) (de_var (pv 6)) (nomark _))
  (dss_cons (ds_if (dt_cmp (opr_ne hr) (de_dget2 hr (pv 2) (de_tup (da_cons (de_var (pv 5)) (da_cons (de_var (pv 7)) da_nil))) de_int ⟨rfl, rfl, rfl, rfl⟩) de_int (nomark _))
  (dss_one ds_never)
  dss_nil)
  (dss_one (ds_aug (nofx hY (by decide)) hN rfl (.inl rfl) de_int opr_iadd))))
  (dss_cons (ds_set (nofx hY (by decide)) hN rfl (.inl rfl) (de_bi bi_sorted (by rfl) T.z_sorted (by decide +kernel) (da_cons (de_kcomp (own := [("goal", 4)]) rfl hN (pv 2) (blkOk_by (N := ["drifts", "goals", "counts", "row", "goal", "lane", "begin", "at", "twice"]) (sc := defScope s_need_bijection) (by decide +kernel)) (fun _ y1 _ _ _ _ _ => (dg_name (nofxB y1 (by decide)) hN rfl (.inl rfl))) (fun _ y1 _ _ _ _ _ => (dts_one (PW.pt (dw_and (dt_cmp (opr_eq hr) (de_ixv (pv 4) de_int (fun _ _ => rfl)) (de_var (pv 5)) (nomark _)) (dw_and1 (dt_cmp opr_ge (de_ixv (pv 4) de_int (fun _ _ => rfl)) (de_var (pv 6)) (nomark _))))))) (fun _ y1 _ _ _ _ _ => (de_var (pv 4)))) da_nil)))
  (dss_one (ds_if (dt_cmp (opr_ne hr) (de_var (pv 8)) (de_lst da_nil) (nomark _))
  (dss_one ds_never)
  dss_nil))))))))))) hC
theorem b_LaneMap_init (T : Txt K mg) {k : Nat} {c_need_lanes : Con} {c_need_goals : Con} {c_need_bijection : Con} {c_least_goals : Con} (G_need_lanes : FnOk P w K mg base (L2.CX P w) k T.a_need_lanes T.fd_need_lanes ["lanes"] (spD K c_need_lanes)) (G_need_goals : FnOk P w K mg base (L2.CX P w) k T.a_need_goals T.fd_need_goals ["drifts", "goals"] (spD K c_need_goals)) (G_need_bijection : FnOk P w K mg base (L2.CX P w) k T.a_need_bijection T.fd_need_bijection ["drifts", "goals"] (spD K c_need_bijection)) (G_least_goals : FnOk P w K mg base (L2.CX P w) k T.a_least_goals T.fd_least_goals ["drifts", "goals"] (spD K c_least_goals)) {C : Con} (hlen : ∀ ls kk kx, C ls kk kx → ls.length = 3)
    (hC : ∀ ls kk kx, C ls kk kx → t_LaneMap_init T.C_LaneMap c_need_lanes c_need_goals c_need_bijection c_least_goals (endsOf [0] ls kk) (entry [0] 9 ls)) : FnOk P w K mg base (L2.CX P w) (k + 1) T.a_LaneMap_init T.fd_LaneMap_init ["self", "drifts", "goals"] (spD K C) :=
  okDD [0] T.F_LaneMap_init sc_LaneMap_init hlen (t_LaneMap_init T.C_LaneMap c_need_lanes c_need_goals c_need_bijection c_least_goals) (fun cdv A outer s H E Y hr hY => have hN := sc_LaneMap_init.nd
  (dss_cons (ds_expr (de_call G_need_lanes hr rfl T.m_need_lanes T.F_need_lanes.kp T.b_need_lanes .nil .nil (da_cons (de_bi bi_len (by rfl) T.z_len (by decide +kernel) (da_bor (pv 1) da_nil)) da_nil)))
  (dss_cons (ds_if (dt_cmp opr_notIn (de_bi bi_len (by rfl) T.z_len (by decide +kernel) (da_bor (pv 2) da_nil)) (de_tup (da_cons de_int (da_cons (de_bi bi_len (by rfl) T.z_len (by decide +kernel) (da_bor (pv 1) da_nil)) da_nil))) (by rfl))
  (dss_one ds_never)
  dss_nil)
  (dss_cons (ds_set (nofx hY (by decide)) hN rfl (.inl rfl) (de_orT (de_comp (own := [("row", 5)]) rfl hN (di_any (de_var (pv 2))) (blkOk_by (N := ["self", "drifts", "goals", "rows", "lane", "row", "at", "goal", "drift"]) (sc := defScope s_LaneMap_init) (by decide +kernel)) (fun _ y1 _ _ _ _ _ => (dg_name (nofxB y1 (by decide)) hN rfl (.inl rfl))) (fun _ y1 _ _ _ _ _ => dts_nil) (fun _ y1 _ _ _ _ _ => (de_comp (own := [("lane", 4), ("at", 6)]) rfl hN (di_any (de_var (pv 5))) (blkOk_in (N := ["self", "drifts", "goals", "rows", "lane", "row", "at", "goal", "drift"]) rfl (by decide +kernel)) (fun _ y2 _ _ _ _ _ => (dg_tup rfl (dgs_cons (dg_name (nofxB y2 (by decide)) hN rfl (.inl rfl)) (dgs_cons (dg_name (nofxB y2 (by decide)) hN rfl (.inl rfl)) dgs_nil)))) (fun _ y2 _ _ _ _ _ => dts_nil) (fun _ y2 _ _ _ _ _ => (de_tup (da_cons (de_var (pv 4)) (da_cons (de_var (pv 6)) da_nil))))))) (de_one (de_comp (own := [("drift", 8)]) rfl hN (di_any (de_var (pv 1))) (blkOk_by (N := ["self", "drifts", "goals", "rows", "lane", "row", "at", "goal", "drift"]) (sc := defScope s_LaneMap_init) (by decide +kernel)) (fun _ y3 _ _ _ _ _ => (dg_name (nofxB y3 (by decide)) hN rfl (.inl rfl))) (fun _ y3 _ _ _ _ _ => dts_nil) (fun _ y3 _ _ _ _ _ => (de_lst da_nil))))))
  (dss_cons (ds_if (dt_cmp opr_gt (de_bi (bi_sum rfl) (by rfl) T.z_sum (by decide +kernel) (da_cons (de_comp (own := [("row", 5)]) rfl hN (di_any (de_var (pv 3))) (blkOk_by (N := ["self", "drifts", "goals", "rows", "lane", "row", "at", "goal", "drift"]) (sc := defScope s_LaneMap_init) (by decide +kernel)) (fun _ y4 _ _ _ _ _ => (dg_name (nofxB y4 (by decide)) hN rfl (.inl rfl))) (fun _ y4 _ _ _ _ _ => dts_nil) (fun _ y4 _ _ _ _ _ => (de_bi bi_len (by rfl) T.z_len (by decide +kernel) (da_bor (pv 5) da_nil)))) da_nil)) (de_c (v := .int 2000) (pe_glob (v := .int 2000) rfl T.m_MOST_GOALS ⟨_, rfl⟩) fun _ => .int _) (nomark _))
  (dss_one ds_never)
  dss_nil)
  (dss_cons (ds_expr (de_call G_need_goals hr rfl T.m_need_goals T.F_need_goals.kp T.b_need_goals .nil .nil (da_cons (de_var (pv 1)) (da_cons (de_var (pv 3)) da_nil))))
  (dss_cons (ds_expr (de_call G_need_bijection hr rfl T.m_need_bijection T.F_need_bijection.kp T.b_need_bijection .nil .nil (da_cons (de_var (pv 1)) (da_cons (de_var (pv 3)) da_nil))))
  (dss_cons (ds_fld T.cl_LaneMap T.n_LaneMap_steady (pv 0) (de_ty bi_tuple (by rfl) T.z_tuple (by decide +kernel) (da_cons (de_var (pv 1)) da_nil)))
  (dss_cons (ds_fld T.cl_LaneMap T.n_LaneMap_inner (pv 0) (de_call G_least_goals hr rfl T.m_least_goals T.F_least_goals.kp T.b_least_goals .nil .nil (da_cons (de_fldv T.cl_LaneMap T.n_LaneMap_steady (pv 0)) (da_cons (de_var (pv 3)) da_nil))))
  (dss_cons (ds_fld T.cl_LaneMap T.n_LaneMap_sources (pv 0) de_dict)
  (dss_one (ds_for (passes_of rfl) rfl (di_enum (by rfl) T.z_enumerate (da_cons (de_fldv T.cl_LaneMap T.n_LaneMap_inner (pv 0)) da_nil)) (dg_tup rfl (dgs_cons (dg_name (nofx hY (by decide)) hN rfl (.inl rfl)) (dgs_cons (dg_name (nofx hY (by decide)) hN rfl (.inl rfl)) dgs_nil)))
  (dss_one (ds_for (passes_of rfl) rfl (di_enum (by rfl) T.z_enumerate (da_cons (de_var (pv 5)) da_nil)) (dg_tup rfl (dgs_cons (dg_name (nofx hY (by decide)) hN rfl (.inl rfl)) (dgs_cons (dg_name (nofx hY (by decide)) hN rfl (.inl rfl)) dgs_nil)))
  (dss_one (ds_fdput hr T.cl_LaneMap T.n_LaneMap_sources (pv 0) (de_var (pv 7)) (de_tup (da_cons (de_var (pv 4)) (da_cons (de_var (pv 6)) da_nil))))))))))))))))))) hC
theorem b_LaneMap_drifts (T : Txt K mg) {k : Nat}  {C : Con} (hlen : ∀ ls kk kx, C ls kk kx → ls.length = 1)
    (hC : ∀ ls kk kx, C ls kk kx → t_LaneMap_drifts T.C_LaneMap (endsOf [] ls kk) (entry [] 1 ls)) : FnOk P w K mg base (L2.CX P w) (k + 1) T.a_LaneMap_drifts T.fd_LaneMap_drifts ["self"] (spD K C) :=
  okD [] T.F_LaneMap_drifts sc_LaneMap_drifts hlen (t_LaneMap_drifts T.C_LaneMap) (fun cdv A outer s H E Y hr hY => have hN := sc_LaneMap_drifts.nd
  (dss_one (ds_ret (de_ty bi_list (by rfl) T.z_list (by decide +kernel) (da_cons (de_fldv T.cl_LaneMap T.n_LaneMap_steady (pv 0)) da_nil))))) hC
theorem b_LaneMap_bounds (T : Txt K mg) {k : Nat}  {C : Con} (hlen : ∀ ls kk kx, C ls kk kx → ls.length = 1)
    (hC : ∀ ls kk kx, C ls kk kx → t_LaneMap_bounds T.C_LaneMap (endsOf [] ls kk) (entry [] 2 ls)) : FnOk P w K mg base (L2.CX P w) (k + 1) T.a_LaneMap_bounds T.fd_LaneMap_bounds ["self"] (spD K C) :=
  okD [] T.F_LaneMap_bounds sc_LaneMap_bounds hlen (t_LaneMap_bounds T.C_LaneMap) (fun cdv A outer s H E Y hr hY => have hN := sc_LaneMap_bounds.nd
  (dss_one (ds_ret (de_comp (own := [("row", 1)]) rfl hN (di_any (de_fldv T.cl_LaneMap T.n_LaneMap_inner (pv 0))) (blkOk_by (N := ["self", "row"]) (sc := defScope s_LaneMap_bounds) (by decide +kernel)) (fun _ y1 _ _ _ _ _ => (dg_name (nofxB y1 (by decide)) hN rfl (.inl rfl))) (fun _ y1 _ _ _ _ _ => dts_nil) (fun _ y1 _ _ _ _ _ => (de_bi bi_len (by rfl) T.z_len (by decide +kernel) (da_bor (pv 1) da_nil))))))) hC
theorem b_LaneMap_goal (T : Txt K mg) {k : Nat} {c_need_place : Con} (G_need_place : FnOk P w K mg base (L2.CX P w) k T.a_need_place T.fd_need_place ["place", "lanes"] (spD K c_need_place)) {C : Con} (hlen : ∀ ls kk kx, C ls kk kx → ls.length = 2)
    (hC : ∀ ls kk kx, C ls kk kx → t_LaneMap_goal T.C_LaneMap c_need_place (endsOf [] ls kk) (entry [] 5 ls)) : FnOk P w K mg base (L2.CX P w) (k + 1) T.a_LaneMap_goal T.fd_LaneMap_goal ["self", "place"] (spD K C) :=
  okD [] T.F_LaneMap_goal sc_LaneMap_goal hlen (t_LaneMap_goal T.C_LaneMap c_need_place) (fun cdv A outer s H E Y hr hY => have hN := sc_LaneMap_goal.nd
  (dss_cons (ds_expr (de_call G_need_place hr rfl T.m_need_place T.F_need_place.kp T.b_need_place .nil .nil (da_cons (de_var (pv 1)) (da_cons (de_bi bi_len (by rfl) T.z_len (by decide +kernel) (da_cons (de_fldv T.cl_LaneMap T.n_LaneMap_steady (pv 0)) da_nil)) da_nil))))
  (dss_cons (ds_asg (de_var (pv 1)) (dg_tup rfl (dgs_cons (dg_name (nofx hY (by decide)) hN rfl (.inl rfl)) (dgs_cons (dg_name (nofx hY (by decide)) hN rfl (.inl rfl)) dgs_nil))))
  (dss_cons (ds_set (nofx hY (by decide)) hN rfl (.inl rfl) (de_ix (de_fldv T.cl_LaneMap T.n_LaneMap_inner (pv 0)) (de_var (pv 2)) (fun _ _ => rfl)))
  (dss_one (ds_ret (de_if (dt_cmp opr_lt (de_var (pv 3)) (de_bi bi_len (by rfl) T.z_len (by decide +kernel) (da_bor (pv 4) da_nil)) (nomark _)) (de_ixv (pv 4) (de_var (pv 3)) (fun _ _ => rfl)) (de_tup (da_cons (de_var (pv 2)) (da_cons (de_op opr_add (de_var (pv 3)) (de_ix (de_fldv T.cl_LaneMap T.n_LaneMap_steady (pv 0)) (de_var (pv 2)) (fun _ _ => rfl))) da_nil)))))))))) hC
theorem b_identity (T : Txt K mg) {k : Nat} {c_need_lanes : Con} {c_LaneMap_init : Con} (G_need_lanes : FnOk P w K mg base (L2.CX P w) k T.a_need_lanes T.fd_need_lanes ["lanes"] (spD K c_need_lanes)) (G_LaneMap_init : FnOk P w K mg base (L2.CX P w) k T.a_LaneMap_init T.fd_LaneMap_init ["self", "drifts", "goals"] (spD K c_LaneMap_init)) {C : Con} (hlen : ∀ ls kk kx, C ls kk kx → ls.length = 1)
    (hC : ∀ ls kk kx, C ls kk kx → t_identity T.C_LaneMap c_need_lanes c_LaneMap_init (endsOf [] ls kk) (entry [] 1 ls)) : FnOk P w K mg base (L2.CX P w) (k + 1 + 1) T.a_identity T.fd_identity ["lanes"] (spD K C) :=
  okD [] T.F_identity sc_identity hlen (t_identity T.C_LaneMap c_need_lanes c_LaneMap_init) (fun cdv A outer s H E Y hr hY => have hN := sc_identity.nd
  (dss_cons (ds_expr (de_call G_need_lanes (hr.mono (Nat.le_succ k)) rfl T.m_need_lanes T.F_need_lanes.kp T.b_need_lanes .nil .nil (da_cons (de_var (pv 0)) da_nil)))
  (dss_one (ds_ret (de_make T.mk_LaneMap G_LaneMap_init hr rfl T.g_LaneMap T.bd_LaneMap_init T.vd_LaneMap_init T.rd_LaneMap_init (da_cons (de_op opr_mul (de_lst (da_cons de_int da_nil)) (de_var (pv 0))) da_nil)))))) hC
theorem b_road_from (T : Txt K mg) {k : Nat} {c_LaneMap_bounds : Con} {c_LaneMap_drifts : Con} {c_LaneMap_goal : Con} (G_LaneMap_bounds : FnOk P w K mg base (L2.CX P w) k T.a_LaneMap_bounds T.fd_LaneMap_bounds ["self"] (spD K c_LaneMap_bounds)) (G_LaneMap_drifts : FnOk P w K mg base (L2.CX P w) k T.a_LaneMap_drifts T.fd_LaneMap_drifts ["self"] (spD K c_LaneMap_drifts)) (G_LaneMap_goal : FnOk P w K mg base (L2.CX P w) k T.a_LaneMap_goal T.fd_LaneMap_goal ["self", "place"] (spD K c_LaneMap_goal)) {C : Con} (hlen : ∀ ls kk kx, C ls kk kx → ls.length = 2)
    (hC : ∀ ls kk kx, C ls kk kx → t_road_from T.C_LaneMap c_LaneMap_bounds c_LaneMap_drifts c_LaneMap_goal (endsOf [] ls kk) (entry [] 7 ls)) : FnOk P w K mg base (L2.CX P w) (k + 1) T.a_road_from T.fd_road_from ["lane_map", "entry"] (spD K C) :=
  okD [] T.F_road_from sc_road_from hlen (t_road_from T.C_LaneMap c_LaneMap_bounds c_LaneMap_drifts c_LaneMap_goal) (fun cdv A outer s H E Y hr hY => have hN := sc_road_from.nd
  (dss_cons (ds_par (nofx hY (by decide)) (nofx hY (by decide)) rfl hN rfl rfl (by decide) rfl rfl (da_own (de_meth0 T.cl_LaneMap T.me_LaneMap_drifts G_LaneMap_drifts hr T.b_LaneMap_drifts .nil .nil (de_var (pv 0))) (da_own (de_meth0 T.cl_LaneMap T.me_LaneMap_bounds G_LaneMap_bounds hr T.b_LaneMap_bounds .nil .nil (de_var (pv 0))) da_nil)) (by rfl))
  (dss_cons (ds_set (nofx hY (by decide)) hN rfl (.inl rfl) (de_lst (da_cons (de_var (pv 1)) da_nil)))
  (dss_one (ds_while (passes_of rfl) (dt_val de_bl)
  (dss_cons (ds_asg (de_meth T.cl_LaneMap T.me_LaneMap_goal G_LaneMap_goal hr T.b_LaneMap_goal .nil .nil (de_var (pv 0)) (da_cons (de_ixv (pv 4) (de_neg de_int) (fun _ _ => rfl)) da_nil)) (dg_tup rfl (dgs_cons (dg_name (nofx hY (by decide)) hN rfl (.inl rfl)) (dgs_cons (dg_name (nofx hY (by decide)) hN rfl (.inl rfl)) dgs_nil))))
  (dss_cons (ds_expr (de_mt PySem.F.slot_list_append PySem.F.type_list_append mtr_append (pv 4) (da_own (de_tup (da_cons (de_var (pv 5)) (da_cons (de_var (pv 6)) da_nil))) da_nil)))
  (dss_one (ds_if (PW.pt (dw_and (dt_cmp opr_gt (de_ixv (pv 2) (de_var (pv 5)) (fun _ _ => rfl)) de_int (nomark _)) (dw_and1 (dt_cmp opr_ge (de_var (pv 6)) (de_ixv (pv 3) (de_var (pv 5)) (fun _ _ => rfl)) (nomark _)))))
  (dss_one (ds_ret (de_take (pv 4))))
  dss_nil))))))))) hC
theorem b_cycle_from (T : Txt K mg) {k : Nat} {c_LaneMap_goal : Con} (G_LaneMap_goal : FnOk P w K mg base (L2.CX P w) k T.a_LaneMap_goal T.fd_LaneMap_goal ["self", "place"] (spD K c_LaneMap_goal)) {C : Con} (hlen : ∀ ls kk kx, C ls kk kx → ls.length = 2)
    (hC : ∀ ls kk kx, C ls kk kx → t_cycle_from T.C_LaneMap c_LaneMap_goal (endsOf [] ls kk) (entry [] 4 ls)) : FnOk P w K mg base (L2.CX P w) (k + 1) T.a_cycle_from T.fd_cycle_from ["lane_map", "first"] (spD K C) :=
  okD [] T.F_cycle_from sc_cycle_from hlen (t_cycle_from T.C_LaneMap c_LaneMap_goal) (fun cdv A outer s H E Y hr hY => have hN := sc_cycle_from.nd
  (dss_cons (ds_set (nofx hY (by decide)) hN rfl (.inl rfl) (de_lst (da_cons (de_var (pv 1)) da_nil)))
  (dss_cons (ds_set (nofx hY (by decide)) hN rfl (.inl rfl) (de_meth T.cl_LaneMap T.me_LaneMap_goal G_LaneMap_goal hr T.b_LaneMap_goal .nil .nil (de_var (pv 0)) (da_cons (de_var (pv 1)) da_nil)))
  (dss_cons (ds_while (passes_of rfl) (dt_cmp (opr_ne hr) (de_var (pv 3)) (de_var (pv 1)) (nomark _))
  (dss_cons (ds_expr (de_mt PySem.F.slot_list_append PySem.F.type_list_append mtr_append (pv 2) (da_own (de_var (pv 3)) da_nil)))
  (dss_one (ds_set (nofx hY (by decide)) hN rfl (.inl rfl) (de_meth T.cl_LaneMap T.me_LaneMap_goal G_LaneMap_goal hr T.b_LaneMap_goal .nil .nil (de_var (pv 0)) (da_cons (de_var (pv 3)) da_nil))))))
  (dss_one (ds_ret (de_take (pv 2)))))))) hC
theorem b_Orbits_init (T : Txt K mg) {k : Nat} {c_LaneMap_drifts : Con} {c_LaneMap_bounds : Con} {c_Orbits_seat : Con} {c_road_from : Con} {c_Orbits_sit : Con} {c_cycle_from : Con} (G_LaneMap_drifts : FnOk P w K mg base (L2.CX P w) k T.a_LaneMap_drifts T.fd_LaneMap_drifts ["self"] (spD K c_LaneMap_drifts)) (G_LaneMap_bounds : FnOk P w K mg base (L2.CX P w) k T.a_LaneMap_bounds T.fd_LaneMap_bounds ["self"] (spD K c_LaneMap_bounds)) (G_Orbits_seat : FnOk P w K mg base (L2.CX P w) k T.a_Orbits_seat T.fd_Orbits_seat ["self", "kind", "orbits", "orbit"] (spD K c_Orbits_seat)) (G_road_from : FnOk P w K mg base (L2.CX P w) k T.a_road_from T.fd_road_from ["lane_map", "entry"] (spD K c_road_from)) (G_Orbits_sit : FnOk P w K mg base (L2.CX P w) k T.a_Orbits_sit T.fd_Orbits_sit ["self", "orbit"] (spD K c_Orbits_sit)) (G_cycle_from : FnOk P w K mg base (L2.CX P w) k T.a_cycle_from T.fd_cycle_from ["lane_map", "first"] (spD K c_cycle_from)) {C : Con} (hlen : ∀ ls kk kx, C ls kk kx → ls.length = 2)
    (hC : ∀ ls kk kx, C ls kk kx → t_Orbits_init T.C_LaneMap T.C_Orbits c_LaneMap_drifts c_LaneMap_bounds c_Orbits_seat c_road_from c_Orbits_sit c_cycle_from (endsOf [0] ls kk) (entry [0] 6 ls)) : FnOk P w K mg base (L2.CX P w) (k + 1) T.a_Orbits_init T.fd_Orbits_init ["self", "lane_map"] (spD K C) :=
  okD [0] T.F_Orbits_init sc_Orbits_init hlen (t_Orbits_init T.C_LaneMap T.C_Orbits c_LaneMap_drifts c_LaneMap_bounds c_Orbits_seat c_road_from c_Orbits_sit c_cycle_from) (fun cdv A outer s H E Y hr hY => have hN := sc_Orbits_init.nd
  (dss_cons (ds_fld T.cl_Orbits T.n_Orbits_base (pv 0) (de_var (pv 1)))
  (dss_cons (ds_fld T.cl_Orbits T.n_Orbits_steady (pv 0) (de_fz (de_meth0 T.cl_LaneMap T.me_LaneMap_drifts G_LaneMap_drifts hr T.b_LaneMap_drifts .nil .nil (de_var (pv 1)))))
  (dss_cons (ds_fld T.cl_Orbits T.n_Orbits_limits (pv 0) (de_fz (de_meth0 T.cl_LaneMap T.me_LaneMap_bounds G_LaneMap_bounds hr T.b_LaneMap_bounds .nil .nil (de_var (pv 1)))))
  (dss_cons (ds_fld T.cl_Orbits T.n_Orbits_roads (pv 0) (de_lst da_nil))
  (dss_cons (ds_fld T.cl_Orbits T.n_Orbits_cycles (pv 0) (de_lst da_nil))
  (dss_cons (ds_fld T.cl_Orbits T.n_Orbits_fixed (pv 0) (de_lst da_nil))
  (dss_cons (ds_fld T.cl_Orbits T.n_Orbits_seats (pv 0) de_dict)
  (dss_cons (ds_for (passes_of rfl) rfl (di_enum (by rfl) T.z_enumerate (da_cons (de_fldv T.cl_Orbits T.n_Orbits_steady (pv 0)) da_nil)) (dg_tup rfl (dgs_cons (dg_name (nofx hY (by decide)) hN rfl (.inl rfl)) (dgs_cons (dg_name (nofx hY (by decide)) hN rfl (.inl rfl)) dgs_nil)))
  (dss_one (ds_for (passes_of rfl) rfl (di_range2 (by rfl) T.z_range (da_cons (de_ix (de_fldv T.cl_Orbits T.n_Orbits_limits (pv 0)) (de_var (pv 2)) (fun _ _ => rfl)) (da_cons (de_op opr_sub (de_ix (de_fldv T.cl_Orbits T.n_Orbits_limits (pv 0)) (de_var (pv 2)) (fun _ _ => rfl)) (de_var (pv 3))) da_nil))) (dg_name (nofx hY (by decide)) hN rfl (.inl rfl))
  (dss_one (ds_expr (de_selfal T.cl_Orbits T.n_Orbits_roads T.me_Orbits_seat G_Orbits_seat hr T.b_Orbits_seat (pv 0) (pv 0) de_str (de_call G_road_from hr rfl T.m_road_from T.F_road_from.kp T.b_road_from .nil .nil (da_cons (de_var (pv 1)) (da_cons (de_tup (da_cons (de_var (pv 2)) (da_cons (de_var (pv 4)) da_nil))) da_nil)))))))))
  (dss_one (ds_for (passes_of rfl) rfl (di_enum (by rfl) T.z_enumerate (da_cons (de_fldv T.cl_Orbits T.n_Orbits_limits (pv 0)) da_nil)) (dg_tup rfl (dgs_cons (dg_name (nofx hY (by decide)) hN rfl (.inl rfl)) (dgs_cons (dg_name (nofx hY (by decide)) hN rfl (.inl rfl)) dgs_nil)))
  (dss_one (ds_for (passes_of rfl) rfl (di_range1 (by rfl) T.z_range (da_cons (de_var (pv 5)) da_nil)) (dg_name (nofx hY (by decide)) hN rfl (.inl rfl))
  (dss_one (ds_if (dt_dnotinf hr T.cl_Orbits T.n_Orbits_seats (de_tup (da_cons (de_var (pv 2)) (da_cons (de_var (pv 4)) da_nil))) (pv 0))
  (dss_one (ds_expr (de_self T.cl_Orbits T.me_Orbits_sit G_Orbits_sit hr T.b_Orbits_sit .nil .nil (pv 0) (da_cons (de_call G_cycle_from hr rfl T.m_cycle_from T.F_cycle_from.kp T.b_cycle_from .nil .nil (da_cons (de_var (pv 1)) (da_cons (de_tup (da_cons (de_var (pv 2)) (da_cons (de_var (pv 4)) da_nil))) da_nil))) da_nil))))
  dss_nil))))))))))))))) hC
theorem b_Orbits_seat (T : Txt K mg) {k : Nat}  {C : Con} (hlen : ∀ ls kk kx, C ls kk kx → ls.length = 4)
    (hC : ∀ ls kk kx, C ls kk kx → t_Orbits_seat T.C_Orbits (endsOf [0, 2] ls kk) (entry [0, 2] 6 ls)) : FnOk P w K mg base (L2.CX P w) (k + 1) T.a_Orbits_seat T.fd_Orbits_seat ["self", "kind", "orbits", "orbit"] (spD K C) :=
  okD [0, 2] T.F_Orbits_seat sc_Orbits_seat hlen (t_Orbits_seat T.C_Orbits) (fun cdv A outer s H E Y hr hY => have hN := sc_Orbits_seat.nd
  (dss_cons (ds_for (passes_of rfl) rfl (di_enum (by rfl) T.z_enumerate (da_cons (de_var (pv 3)) da_nil)) (dg_tup rfl (dgs_cons (dg_name (nofx hY (by decide)) hN rfl (.inl rfl)) (dgs_cons (dg_name (nofx hY (by decide)) hN rfl (.inl rfl)) dgs_nil)))
  (dss_one (ds_fdput hr T.cl_Orbits T.n_Orbits_seats (pv 0) (de_var (pv 5)) (de_tup (da_cons (de_var (pv 1)) (da_cons (de_bi bi_len (by rfl) T.z_len (by decide +kernel) (da_bor (pv 2) da_nil)) (da_cons (de_var (pv 4)) da_nil)))))))
  (dss_one (ds_expr (de_mt PySem.F.slot_list_append PySem.F.type_list_append mtr_append (pv 2) (da_own (de_var (pv 3)) da_nil)))))) hC
theorem b_Orbits_sit (T : Txt K mg) {k : Nat} {c_Orbits_seat : Con} (G_Orbits_seat : FnOk P w K mg base (L2.CX P w) k T.a_Orbits_seat T.fd_Orbits_seat ["self", "kind", "orbits", "orbit"] (spD K c_Orbits_seat)) {C : Con} (hlen : ∀ ls kk kx, C ls kk kx → ls.length = 2)
    (hC : ∀ ls kk kx, C ls kk kx → t_Orbits_sit T.C_Orbits c_Orbits_seat (endsOf [0] ls kk) (entry [0] 2 ls)) : FnOk P w K mg base (L2.CX P w) (k + 1) T.a_Orbits_sit T.fd_Orbits_sit ["self", "orbit"] (spD K C) :=
  okD [0] T.F_Orbits_sit sc_Orbits_sit hlen (t_Orbits_sit T.C_Orbits c_Orbits_seat) (fun cdv A outer s H E Y hr hY => have hN := sc_Orbits_sit.nd
  (dss_one (ds_if (dt_cmp (opr_eq hr) (de_bi bi_len (by rfl) T.z_len (by decide +kernel) (da_bor (pv 1) da_nil)) de_int (nomark _))
  (dss_cons (ds_expr (de_fapp T.cl_Orbits T.n_Orbits_fixed (pv 0) (de_ixv (pv 1) de_int (fun _ _ => rfl))))
  (dss_one (ds_fdput hr T.cl_Orbits T.n_Orbits_seats (pv 0) (de_ixv (pv 1) de_int (fun _ _ => rfl)) (de_op opr_add (de_tup (da_cons de_str da_nil)) (de_ixv (pv 1) de_int (fun _ _ => rfl))))))
  (dss_one (ds_expr (de_selfal T.cl_Orbits T.n_Orbits_cycles T.me_Orbits_seat G_Orbits_seat hr T.b_Orbits_seat (pv 0) (pv 0) de_str (de_var (pv 1)))))))) hC
theorem b_roads (T : Txt K mg) {k : Nat} {c_Orbits_init : Con} (G_Orbits_init : FnOk P w K mg base (L2.CX P w) k T.a_Orbits_init T.fd_Orbits_init ["self", "lane_map"] (spD K c_Orbits_init)) {C : Con} (hlen : ∀ ls kk kx, C ls kk kx → ls.length = 2)
    (hC : ∀ ls kk kx, C ls kk kx → t_roads T.C_Orbits c_Orbits_init (endsOf [] ls kk) (entry [] 3 ls)) : FnOk P w K mg base (L2.CX P w) (k + 1 + 1) T.a_roads T.fd_roads ["lane_map", "lane"] (spD K C) :=
  okDD [] T.F_roads sc_roads hlen (t_roads T.C_Orbits c_Orbits_init) (fun cdv A outer s H E Y hr hY => have hN := sc_roads.nd
  (dss_one (ds_ret (de_comp (own := [("road", 2)]) rfl hN (di_any (de_fld T.cl_Orbits T.n_Orbits_roads (de_make T.mk_Orbits G_Orbits_init hr rfl T.g_Orbits T.b_Orbits_init .nil .nil (da_cons (de_var (pv 0)) da_nil)))) (blkOk_by (N := ["lane_map", "lane", "road"]) (sc := defScope s_roads) (by decide +kernel)) (fun _ y1 _ _ _ _ _ => (dg_name (nofxB y1 (by decide)) hN rfl (.inl rfl))) (fun _ y1 _ _ _ _ _ => (dts_one (PW.pt (dw_or (dt_cmp opr_isN (de_var (pv 1)) de_non (nomark _)) (dw_or1 (dt_cmp (opr_eq hr) (de_ix (de_ixv (pv 2) de_int (fun _ _ => rfl)) de_int (fun _ _ => rfl)) (de_var (pv 1)) (nomark _))))))) (fun _ y1 _ _ _ _ _ => (de_ty bi_list (by rfl) T.z_list (by decide +kernel) (da_cons (de_var (pv 2)) da_nil))))))) hC
theorem b_law_bag (T : Txt K mg) {k : Nat}  {C : Con} (hlen : ∀ ls kk kx, C ls kk kx → ls.length = 1)
    (hC : ∀ ls kk kx, C ls kk kx → t_law_bag  (endsOf [] ls kk) (entry [] 3 ls)) : FnOk P w K mg base (L2.CX P w) (k + 1) T.a_law_bag T.fd_law_bag ["_law_script"] (spD K C) :=
  okD [] T.F_law_bag sc_law_bag hlen (t_law_bag ) (fun cdv A outer s H E Y hr hY => have hN := sc_law_bag.nd
  (dss_cons (ds_set (nofx hY (by decide)) hN rfl (.inl rfl) de_int)
  (dss_cons (ds_for (passes_of rfl) rfl (di_any (de_sl (de_var (pv 0)) do_none (do_some de_int))) (dg_name (nofx hY (by decide)) hN rfl (.inl rfl))
  (dss_one (ds_set (nofx hY (by decide)) hN rfl (.inl rfl) (de_op opr_mod (de_op opr_add (de_op opr_add (de_op opr_mul (de_var (pv 1)) de_int) (de_op opr_mod (de_var (pv 2)) de_int)) de_int) de_int))))
  (dss_one (ds_ret (de_lst (da_cons (de_ty bi_list (by rfl) T.z_list (by decide +kernel) (da_cons (de_sl (de_var (pv 0)) do_none (do_some de_int)) da_nil)) (da_cons de_int (da_cons de_int (da_cons (de_var (pv 1)) (da_cons de_int da_nil))))))))))) hC
theorem b_law_pull (T : Txt K mg) {k : Nat}  {C : Con} (hlen : ∀ ls kk kx, C ls kk kx → ls.length = 2)
    (hC : ∀ ls kk kx, C ls kk kx → t_law_pull  (endsOf [0] ls kk) (entry [0] 5 ls)) : FnOk P w K mg base (L2.CX P w) (k + 1) T.a_law_pull T.fd_law_pull ["_law_bag_here", "_law_size"] (spD K C) :=
  okD [0] T.F_law_pull sc_law_pull hlen (t_law_pull ) (fun cdv A outer s H E Y hr hY => have hN := sc_law_pull.nd
  (dss_cons (ds_asg (de_op opr_add (de_ixv (pv 0) de_int (fun _ _ => rfl)) de_int) (dg_ix (pv 0) de_int))
  (dss_cons (ds_if (PW.pt (dw_and (dt_cmp (opr_eq hr) (de_ixv (pv 0) de_int (fun _ _ => rfl)) de_int (nomark _)) (dw_and1 (dt_cmp opr_lt (de_ixv (pv 0) de_int (fun _ _ => rfl)) (de_bi bi_len (by rfl) T.z_len (by decide +kernel) (da_cons (de_ixv (pv 0) de_int (fun _ _ => rfl)) da_nil)) (nomark _)))))
  (dss_cons (ds_set (nofx hY (by decide)) hN rfl (.inl rfl) (de_ix (de_ixv (pv 0) de_int (fun _ _ => rfl)) (de_ixv (pv 0) de_int (fun _ _ => rfl)) (fun _ _ => rfl)))
  (dss_cons (ds_asg (de_op opr_add (de_ixv (pv 0) de_int (fun _ _ => rfl)) de_int) (dg_ix (pv 0) de_int))
  (dss_one (ds_if (dt_cmp opr_ge (de_var (pv 2)) (de_op opr_pow de_int de_int) (nomark _))
  (dss_one (ds_asg (de_var (pv 2)) (dg_ix (pv 0) de_int)))
  (dss_cons (ds_set (nofx hY (by decide)) hN rfl (.inl rfl) (de_op opr_add (de_op opr_mul (de_ixv (pv 0) de_int (fun _ _ => rfl)) de_int) (de_op opr_mul (de_op opr_mod (de_var (pv 2)) de_int) de_int)))
  (dss_one (ds_asg (de_op opr_mod (de_op opr_add (de_var (pv 3)) de_int) de_int) (dg_ix (pv 0) de_int))))))))
  dss_nil)
  (dss_cons (ds_if (dt_cmp opr_gt (de_ixv (pv 0) de_int (fun _ _ => rfl)) de_int (nomark _))
  (dss_cons (ds_set (nofx hY (by decide)) hN rfl (.inl rfl) (de_op opr_mod (de_ixv (pv 0) de_int (fun _ _ => rfl)) (de_var (pv 1))))
  (dss_cons (ds_asg (de_op opr_fdiv (de_ixv (pv 0) de_int (fun _ _ => rfl)) (de_var (pv 1))) (dg_ix (pv 0) de_int))
  (dss_one (ds_ret (de_take (pv 4))))))
  dss_nil)
  (dss_cons (ds_set (nofx hY (by decide)) hN rfl (.inl rfl) (de_op opr_add (de_op opr_mul (de_op opr_mul (de_ixv (pv 0) de_int (fun _ _ => rfl)) (de_ixv (pv 0) de_int (fun _ _ => rfl))) de_int) (de_op opr_mul (de_ixv (pv 0) de_int (fun _ _ => rfl)) de_int)))
  (dss_cons (ds_asg (de_op opr_mod (de_op opr_add (de_var (pv 3)) (de_op opr_mul de_int (de_ixv (pv 0) de_int (fun _ _ => rfl)))) de_int) (dg_ix (pv 0) de_int))
  (dss_one (ds_ret (de_op opr_mod (de_op opr_fdiv (de_ixv (pv 0) de_int (fun _ _ => rfl)) de_int) (de_var (pv 1))))))))))) hC
theorem b_law_of (T : Txt K mg) {k : Nat} {c_law_pull : Con} (G_law_pull : FnOk P w K mg base (L2.CX P w) k T.a_law_pull T.fd_law_pull ["_law_bag_here", "_law_size"] (spD K c_law_pull)) {C : Con} (hlen : ∀ ls kk kx, C ls kk kx → ls.length = 2)
    (hC : ∀ ls kk kx, C ls kk kx → t_law_of c_law_pull (endsOf [0] ls kk) (entry [0] 2 ls)) : FnOk P w K mg base (L2.CX P w) (k + 1) T.a_law_of T.fd_law_of ["_law_bag_here", "_law_some"] (spD K C) :=
  okD [0] T.F_law_of sc_law_of hlen (t_law_of c_law_pull) (fun cdv A outer s H E Y hr hY => have hN := sc_law_of.nd
  (dss_one (ds_ret (de_ixv (pv 1) (de_call G_law_pull hr rfl T.m_law_pull T.F_law_pull.kp T.b_law_pull .nil .nil (da_bor (pv 0) (da_cons (de_bi bi_len (by rfl) T.z_len (by decide +kernel) (da_bor (pv 1) da_nil)) da_nil))) (fun _ _ => rfl))))) hC
theorem b_law_far (T : Txt K mg) {k : Nat} {c_law_of : Con} {c_law_pull : Con} (G_law_of : FnOk P w K mg base (L2.CX P w) k T.a_law_of T.fd_law_of ["_law_bag_here", "_law_some"] (spD K c_law_of)) (G_law_pull : FnOk P w K mg base (L2.CX P w) k T.a_law_pull T.fd_law_pull ["_law_bag_here", "_law_size"] (spD K c_law_pull)) {C : Con} (hlen : ∀ ls kk kx, C ls kk kx → ls.length = 1)
    (hC : ∀ ls kk kx, C ls kk kx → t_law_far c_law_of c_law_pull (endsOf [0] ls kk) (entry [0] 1 ls)) : FnOk P w K mg base (L2.CX P w) (k + 1) T.a_law_far T.fd_law_far ["_law_bag_here"] (spD K C) :=
  okD [0] T.F_law_far sc_law_far hlen (t_law_far c_law_of c_law_pull) (fun cdv A outer s H E Y hr hY => have hN := sc_law_far.nd
  (dss_one (ds_ret (de_op opr_add (de_call G_law_of hr rfl T.m_law_of T.F_law_of.kp T.b_law_of .nil .nil (da_bor (pv 0) (da_cons (de_lst (da_cons (de_op opr_pow de_int de_int) (da_cons (de_op opr_pow de_int de_int) (da_cons (de_op opr_pow de_int de_int) da_nil)))) da_nil))) (de_call G_law_pull hr rfl T.m_law_pull T.F_law_pull.kp T.b_law_pull .nil .nil (da_bor (pv 0) (da_cons (de_op opr_pow de_int de_int) da_nil))))))) hC
theorem b_law_drifts (T : Txt K mg) {k : Nat} {c_law_pull : Con} (G_law_pull : FnOk P w K mg base (L2.CX P w) k T.a_law_pull T.fd_law_pull ["_law_bag_here", "_law_size"] (spD K c_law_pull)) {C : Con} (hlen : ∀ ls kk kx, C ls kk kx → ls.length = 3)
    (hC : ∀ ls kk kx, C ls kk kx → t_law_drifts c_law_pull (endsOf [0] ls kk) (entry [0] 7 ls)) : FnOk P w K mg base (L2.CX P w) (k + 1) T.a_law_drifts T.fd_law_drifts ["_law_bag_here", "_law_wide", "_law_steps"] (spD K C) :=
  okD [0] T.F_law_drifts sc_law_drifts hlen (t_law_drifts c_law_pull) (fun cdv A outer s H E Y hr hY => have hN := sc_law_drifts.nd
  (dss_cons (ds_set (nofx hY (by decide)) hN rfl (.inl rfl) (de_op opr_mul (de_lst (da_cons de_int da_nil)) (de_var (pv 1))))
  (dss_cons (ds_for (passes_of rfl) rfl (di_range1 (by rfl) T.z_range (da_cons (de_call G_law_pull hr rfl T.m_law_pull T.F_law_pull.kp T.b_law_pull .nil .nil (da_bor (pv 0) (da_cons (de_op opr_add (de_var (pv 2)) de_int) da_nil))) da_nil)) (dg_name (nofx hY (by decide)) hN rfl (.inl rfl))
  (dss_cons (ds_par (nofx hY (by decide)) (nofx hY (by decide)) rfl hN rfl rfl (by decide) rfl rfl (da_own (de_call G_law_pull hr rfl T.m_law_pull T.F_law_pull.kp T.b_law_pull .nil .nil (da_bor (pv 0) (da_cons (de_var (pv 1)) da_nil))) (da_own (de_call G_law_pull hr rfl T.m_law_pull T.F_law_pull.kp T.b_law_pull .nil .nil (da_bor (pv 0) (da_cons (de_var (pv 1)) da_nil))) da_nil)) (by rfl))
  (dss_one (ds_if (PW.pt (dw_and (dt_cmp opr_gt (de_ixv (pv 3) (de_var (pv 5)) (fun _ _ => rfl)) (de_neg de_int) (nomark _)) (dw_and1 (dt_cmp opr_lt (de_ixv (pv 3) (de_var (pv 6)) (fun _ _ => rfl)) de_int (nomark _)))))
  (dss_cons (ds_asg (de_op opr_sub (de_ixv (pv 3) (de_var (pv 5)) (fun _ _ => rfl)) de_int) (dg_ix (pv 3) (de_var (pv 5))))
  (dss_one (ds_asg (de_op opr_add (de_ixv (pv 3) (de_var (pv 6)) (fun _ _ => rfl)) de_int) (dg_ix (pv 3) (de_var (pv 6))))))
  dss_nil))))
  (dss_one (ds_ret (de_take (pv 3))))))) hC
theorem b_law_deal (T : Txt K mg) {k : Nat} {c_law_pull : Con} (G_law_pull : FnOk P w K mg base (L2.CX P w) k T.a_law_pull T.fd_law_pull ["_law_bag_here", "_law_size"] (spD K c_law_pull)) {C : Con} (hlen : ∀ ls kk kx, C ls kk kx → ls.length = 3)
    (hC : ∀ ls kk kx, C ls kk kx → t_law_deal c_law_pull (endsOf [0] ls kk) (entry [0] 12 ls)) : FnOk P w K mg base (L2.CX P w) (k + 1) T.a_law_deal T.fd_law_deal ["_law_bag_here", "_law_drifts_here", "_law_more"] (spD K C) :=
  okD [0] T.F_law_deal sc_law_deal hlen (t_law_deal c_law_pull) (fun cdv A outer s H E Y hr hY => have hN := sc_law_deal.nd
  (dss_cons (ds_setLc (i := 3) (nofx hY (by decide)) (own := [("_law_drift", 11)]) rfl hN rfl rfl (sw_true rfl rfl rfl (by decide +kernel)) (di_any (de_var (pv 1))) (blkOk_by (N := ["_law_bag_here", "_law_drifts_here", "_law_more", "_law_sizes", "_law_free", "_law_row", "_law_straight", "_law_goals", "_law_size", "_law_found", "_law_at", "_law_drift"]) (sc := defScope s_law_deal) (by decide +kernel)) (fun _ y1 _ _ _ _ _ => (dg_name (nofxB y1 (by decide)) hN rfl (.inl rfl))) (fun _ y1 _ _ _ _ _ => dts_nil) (fun _ y1 _ _ _ _ _ => (de_op opr_add (de_bi (bi_max2 rfl) (by rfl) T.z_max (by decide +kernel) (da_cons de_int (da_cons (de_op opr_sub de_int (de_var (pv 11))) da_nil))) (de_call G_law_pull hr rfl T.m_law_pull T.F_law_pull.kp T.b_law_pull .nil .nil (da_bor (pv 0) (da_cons (de_op opr_add (de_var (pv 2)) de_int) da_nil))))))
  (dss_cons (ds_set (nofx hY (by decide)) hN rfl (.inl rfl) (de_lst da_nil))
  (dss_cons (ds_for (passes_of rfl) rfl (di_range1 (by rfl) T.z_range (da_cons (de_bi bi_len (by rfl) T.z_len (by decide +kernel) (da_bor (pv 1) da_nil)) da_nil)) (dg_name (nofx hY (by decide)) hN rfl (.inr rfl))
  (dss_one (ds_set (nofx hY (by decide)) hN rfl (.inl rfl) (de_op opr_add (de_var (pv 4)) (de_comp (own := [("_law_at", 10)]) rfl hN (di_range1 (by rfl) T.z_range (da_cons (de_op opr_add (de_ixv (pv 3) (de_var (pv 5)) (fun _ _ => rfl)) (de_ixv (pv 1) (de_var (pv 5)) (fun _ _ => rfl))) da_nil)) (blkOk_by (N := ["_law_bag_here", "_law_drifts_here", "_law_more", "_law_sizes", "_law_free", "_law_row", "_law_straight", "_law_goals", "_law_size", "_law_found", "_law_at", "_law_drift"]) (sc := defScope s_law_deal) (by decide +kernel)) (fun _ y2 _ _ _ _ _ => (dg_name (nofxB y2 (by decide)) hN rfl (.inl rfl))) (fun _ y2 _ _ _ _ _ => dts_nil) (fun _ y2 _ _ _ _ _ => (de_tup (da_cons (de_var (pv 5)) (da_cons (de_var (pv 10)) da_nil)))))))))
  (dss_cons (ds_par (nofx hY (by decide)) (nofx hY (by decide)) rfl hN rfl rfl (by decide) rfl rfl (da_own (de_cmp (opr_eq hr) (de_call G_law_pull hr rfl T.m_law_pull T.F_law_pull.kp T.b_law_pull .nil .nil (da_bor (pv 0) (da_cons de_int da_nil))) de_int (nomark _)) (da_own (de_lst da_nil) da_nil)) (by rfl))
  (dss_cons (ds_for (passes_of rfl) rfl (di_any (de_var (pv 3))) (dg_name (nofx hY (by decide)) hN rfl (.inl rfl))
  (dss_cons (ds_set (nofx hY (by decide)) hN rfl (.inl rfl) (de_lst da_nil))
  (dss_cons (ds_for (passes_of rfl) rfl (di_range1 (by rfl) T.z_range (da_cons (de_var (pv 8)) da_nil)) (dg_name (nofx hY (by decide)) hN rfl (.inl rfl))
  (dss_one (ds_expr (de_mt PySem.F.slot_list_append PySem.F.type_list_append mtr_append (pv 9) (da_own (de_mt PySem.F.slot_list_pop PySem.F.type_list_pop mtr_popAt (pv 4) (da_own (de_if (dt_val (de_var (pv 6))) de_int (de_call G_law_pull hr rfl T.m_law_pull T.F_law_pull.kp T.b_law_pull .nil .nil (da_bor (pv 0) (da_cons (de_bi bi_len (by rfl) T.z_len (by decide +kernel) (da_bor (pv 4) da_nil)) da_nil)))) da_nil)) da_nil)))))
  (dss_one (ds_expr (de_mt PySem.F.slot_list_append PySem.F.type_list_append mtr_append (pv 7) (da_own (de_var (pv 9)) da_nil)))))))
  (dss_one (ds_ret (de_tup (da_cons (de_var (pv 1)) (da_cons (de_var (pv 7)) da_nil))))))))))) hC
theorem b_law_any (T : Txt K mg) {k : Nat} {c_law_drifts : Con} {c_law_deal : Con} {c_law_least : Con} (G_law_drifts : FnOk P w K mg base (L2.CX P w) k T.a_law_drifts T.fd_law_drifts ["_law_bag_here", "_law_wide", "_law_steps"] (spD K c_law_drifts)) (G_law_deal : FnOk P w K mg base (L2.CX P w) k T.a_law_deal T.fd_law_deal ["_law_bag_here", "_law_drifts_here", "_law_more"] (spD K c_law_deal)) (G_law_least : FnOk P w K mg base (L2.CX P w) k T.a_law_least T.fd_law_least ["_law_d"] (spD K c_law_least)) {C : Con} (hlen : ∀ ls kk kx, C ls kk kx → ls.length = 4)
    (hC : ∀ ls kk kx, C ls kk kx → t_law_any c_law_drifts c_law_deal c_law_least (endsOf [0] ls kk) (entry [0] 4 ls)) : FnOk P w K mg base (L2.CX P w) (k + 1) T.a_law_any T.fd_law_any ["_law_bag_here", "_law_wide", "_law_steps", "_law_more"] (spD K C) :=
  okD [0] T.F_law_any sc_law_any hlen (t_law_any c_law_drifts c_law_deal c_law_least) (fun cdv A outer s H E Y hr hY => have hN := sc_law_any.nd
  (dss_one (ds_ret (de_call G_law_least hr rfl T.m_law_least T.F_law_least.kp T.b_law_least .nil .nil (da_cons (de_call G_law_deal hr rfl T.m_law_deal T.F_law_deal.kp T.b_law_deal .nil .nil (da_bor (pv 0) (da_cons (de_call G_law_drifts hr rfl T.m_law_drifts T.F_law_drifts.kp T.b_law_drifts .nil .nil (da_bor (pv 0) (da_cons (de_var (pv 1)) (da_cons (de_var (pv 2)) da_nil)))) (da_cons (de_var (pv 3)) da_nil)))) da_nil))))) hC
theorem b_law_least (T : Txt K mg) {k : Nat}  {C : Con} (hlen : ∀ ls kk kx, C ls kk kx → ls.length = 1)
    (hC : ∀ ls kk kx, C ls kk kx → t_law_least  (endsOf [] ls kk) (entry [] 4 ls)) : FnOk P w K mg base (L2.CX P w) (k + 1) T.a_law_least T.fd_law_least ["_law_d"] (spD K C) :=
  okD [] T.F_law_least sc_law_least hlen (t_law_least ) (fun cdv A outer s H E Y hr hY => have hN := sc_law_least.nd
  (dss_cons (ds_set (nofx hY (by decide)) hN rfl (.inl rfl) (de_lst da_nil))
  (dss_cons (ds_for (passes_of rfl) rfl (di_range1 (by rfl) T.z_range (da_cons (de_bi bi_len (by rfl) T.z_len (by decide +kernel) (da_cons (de_ixv (pv 0) de_int (fun _ _ => rfl)) da_nil)) da_nil)) (dg_name (nofx hY (by decide)) hN rfl (.inl rfl))
  (dss_cons (ds_set (nofx hY (by decide)) hN rfl (.inl rfl) (de_bi bi_len (by rfl) T.z_len (by decide +kernel) (da_cons (de_ix (de_ixv (pv 0) de_int (fun _ _ => rfl)) (de_var (pv 2)) (fun _ _ => rfl)) da_nil)))
  (dss_cons (ds_while (passes_of rfl) (PW.pt (dw_and (dt_cmp opr_gt (de_var (pv 3)) de_int (nomark _)) (dw_and1 (dt_cmp (opr_eq hr) (de_ix (de_ix (de_ixv (pv 0) de_int (fun _ _ => rfl)) (de_var (pv 2)) (fun _ _ => rfl)) (de_op opr_sub (de_var (pv 3)) de_int) (fun _ _ => rfl)) (de_tup (da_cons (de_var (pv 2)) (da_cons (de_op opr_add (de_op opr_sub (de_var (pv 3)) de_int) (de_ix (de_ixv (pv 0) de_int (fun _ _ => rfl)) (de_var (pv 2)) (fun _ _ => rfl))) da_nil))) (nomark _)))))
  (dss_one (ds_set (nofx hY (by decide)) hN rfl (.inl rfl) (de_op opr_sub (de_var (pv 3)) de_int))))
  (dss_one (ds_expr (de_mt PySem.F.slot_list_append PySem.F.type_list_append mtr_append (pv 1) (da_own (de_ty bi_list (by rfl) T.z_list (by decide +kernel) (da_cons (de_sl (de_ix (de_ixv (pv 0) de_int (fun _ _ => rfl)) (de_var (pv 2)) (fun _ _ => rfl)) do_none (do_some (de_var (pv 3)))) da_nil)) da_nil)))))))
  (dss_one (ds_ret (de_tup (da_cons (de_ty bi_list (by rfl) T.z_list (by decide +kernel) (da_cons (de_ixv (pv 0) de_int (fun _ _ => rfl)) da_nil)) (da_cons (de_var (pv 1)) da_nil)))))))) hC
theorem b_law_goal (T : Txt K mg) {k : Nat}  {C : Con} (hlen : ∀ ls kk kx, C ls kk kx → ls.length = 2)
    (hC : ∀ ls kk kx, C ls kk kx → t_law_goal  (endsOf [] ls kk) (entry [] 5 ls)) : FnOk P w K mg base (L2.CX P w) (k + 1) T.a_law_goal T.fd_law_goal ["_law_d", "_law_place"] (spD K C) :=
  okD [] T.F_law_goal sc_law_goal hlen (t_law_goal ) (fun cdv A outer s H E Y hr hY => have hN := sc_law_goal.nd
  (dss_cons (ds_asg (de_var (pv 1)) (dg_tup rfl (dgs_cons (dg_name (nofx hY (by decide)) hN rfl (.inl rfl)) (dgs_cons (dg_name (nofx hY (by decide)) hN rfl (.inl rfl)) dgs_nil))))
  (dss_cons (ds_set (nofx hY (by decide)) hN rfl (.inl rfl) (de_ix (de_ixv (pv 0) de_int (fun _ _ => rfl)) (de_var (pv 2)) (fun _ _ => rfl)))
  (dss_one (ds_ret (de_if (dt_cmp opr_lt (de_var (pv 3)) (de_bi bi_len (by rfl) T.z_len (by decide +kernel) (da_bor (pv 4) da_nil)) (nomark _)) (de_ixv (pv 4) (de_var (pv 3)) (fun _ _ => rfl)) (de_tup (da_cons (de_var (pv 2)) (da_cons (de_op opr_add (de_var (pv 3)) (de_ix (de_ixv (pv 0) de_int (fun _ _ => rfl)) (de_var (pv 2)) (fun _ _ => rfl))) da_nil))))))))) hC
theorem b_law_made (T : Txt K mg) {k : Nat} {c_LaneMap_init : Con} (G_LaneMap_init : FnOk P w K mg base (L2.CX P w) k T.a_LaneMap_init T.fd_LaneMap_init ["self", "drifts", "goals"] (spD K c_LaneMap_init)) {C : Con} (hlen : ∀ ls kk kx, C ls kk kx → ls.length = 1)
    (hC : ∀ ls kk kx, C ls kk kx → t_law_made T.C_LaneMap c_LaneMap_init (endsOf [] ls kk) (entry [] 2 ls)) : FnOk P w K mg base (L2.CX P w) (k + 1 + 1) T.a_law_made T.fd_law_made ["_law_d"] (spD K C) :=
  okD [] T.F_law_made sc_law_made hlen (t_law_made T.C_LaneMap c_LaneMap_init) (fun cdv A outer s H E Y hr hY => have hN := sc_law_made.nd
  (dss_one (ds_ret (de_make T.mk_LaneMap G_LaneMap_init hr rfl T.g_LaneMap T.b_LaneMap_init .nil .nil (da_cons (de_ty bi_list (by rfl) T.z_list (by decide +kernel) (da_cons (de_ixv (pv 0) de_int (fun _ _ => rfl)) da_nil)) (da_cons (de_comp (own := [("_law_row", 1)]) rfl hN (di_any (de_ixv (pv 0) de_int (fun _ _ => rfl))) (blkOk_by (N := ["_law_d", "_law_row"]) (sc := defScope s_law_made) (by decide +kernel)) (fun _ y1 _ _ _ _ _ => (dg_name (nofxB y1 (by decide)) hN rfl (.inl rfl))) (fun _ y1 _ _ _ _ _ => dts_nil) (fun _ y1 _ _ _ _ _ => (de_ty bi_list (by rfl) T.z_list (by decide +kernel) (da_cons (de_var (pv 1)) da_nil)))) da_nil)))))) hC
theorem b_law_like (T : Txt K mg) {k : Nat} {c_law_like : Con} (G_law_like : FnOk P w K mg base (L2.CX P w) k T.a_law_like T.fd_law_like ["_law_found", "_law_due"] (spD K c_law_like)) {C : Con} (hlen : ∀ ls kk kx, C ls kk kx → ls.length = 2)
    (hC : ∀ ls kk kx, C ls kk kx → t_law_like c_law_like (endsOf [] ls kk) (entry [] 5 ls)) : FnOk P w K mg base (L2.CX P w) (k + 1) T.a_law_like T.fd_law_like ["_law_found", "_law_due"] (spD K C) :=
  okD [] T.F_law_like sc_law_like hlen (t_law_like c_law_like) (fun cdv A outer s H E Y hr hY => have hN := sc_law_like.nd
  (dss_cons (ds_if (dt_val (de_bi bi_isi (by rfl) T.z_isinstance (by decide +kernel) (da_bor (pv 1) (da_cons (de_tup (da_cons (de_tyn (by rfl) T.z_list (by decide +kernel)) (da_cons (de_tyn (by rfl) T.z_tuple (by decide +kernel)) da_nil))) da_nil))))
  (dss_cons (ds_setLc (i := 2) (nofx hY (by decide)) (own := [("_law_one", 3)]) rfl hN rfl rfl (sw_true rfl rfl rfl (by decide +kernel)) (di_any (de_tup (da_cons (de_var (pv 0)) (da_cons (de_var (pv 1)) da_nil)))) (blkOk_by (N := ["_law_found", "_law_due", "_law_kinds", "_law_one", "_law_k"]) (sc := defScope s_law_like) (by decide +kernel)) (fun _ y1 _ _ _ _ _ => (dg_name (nofxB y1 (by decide)) hN rfl (.inl rfl))) (fun _ y1 _ _ _ _ _ => dts_nil) (fun _ y1 _ _ _ _ _ => (de_tup (da_cons (de_bi bi_isi (by rfl) T.z_isinstance (by decide +kernel) (da_bor (pv 3) (da_cons (de_tyn (by rfl) T.z_list (by decide +kernel)) da_nil))) (da_cons (de_bi bi_isi (by rfl) T.z_isinstance (by decide +kernel) (da_bor (pv 3) (da_cons (de_tyn (by rfl) T.z_tuple (by decide +kernel)) da_nil))) da_nil)))))
  (dss_cons (ds_if (PW.pt (dw_or (dt_cmp (opr_ne hr) (de_ixv (pv 2) de_int (fun _ _ => rfl)) (de_ixv (pv 2) de_int (fun _ _ => rfl)) (nomark _)) (dw_or1 (dt_cmp (opr_ne hr) (de_bi bi_len (by rfl) T.z_len (by decide +kernel) (da_bor (pv 0) da_nil)) (de_bi bi_len (by rfl) T.z_len (by decide +kernel) (da_bor (pv 1) da_nil)) (nomark _)))))
  (dss_one (ds_ret de_bl))
  dss_nil)
  (dss_one (ds_ret (de_bi (bi_all rfl) (by rfl) T.z_all (by decide +kernel) (da_cons (de_comp (own := [("_law_k", 4)]) rfl hN (di_range1 (by rfl) T.z_range (da_cons (de_bi bi_len (by rfl) T.z_len (by decide +kernel) (da_bor (pv 1) da_nil)) da_nil)) (blkOk_by (N := ["_law_found", "_law_due", "_law_kinds", "_law_one", "_law_k"]) (sc := defScope s_law_like) (by decide +kernel)) (fun _ y2 _ _ _ _ _ => (dg_name (nofxB y2 (by decide)) hN rfl (.inl rfl))) (fun _ y2 _ _ _ _ _ => dts_nil) (fun _ y2 _ _ _ _ _ => (de_tmp (de_call G_law_like hr rfl T.m_law_like T.F_law_like.kp T.b_law_like .nil .nil (da_cons (de_ixv (pv 0) (de_var (pv 4)) (fun _ _ => rfl)) (da_cons (de_ixv (pv 1) (de_var (pv 4)) (fun _ _ => rfl)) da_nil)))))) da_nil))))))
  dss_nil)
  (dss_cons (ds_if (PW.pt (dw_or (dt_cmp opr_isN (de_var (pv 1)) de_non (nomark _)) (dw_or1 (dt_cmp opr_isN (de_var (pv 0)) de_non (nomark _)))))
  (dss_one (ds_ret (de_and (de_cmp opr_isN (de_var (pv 1)) de_non (nomark _)) (de_one (de_cmp opr_isN (de_var (pv 0)) de_non (nomark _))))))
  dss_nil)
  (dss_cons (ds_if (PW.pt (dw_or (dt_val (de_bi bi_isi (by rfl) T.z_isinstance (by decide +kernel) (da_bor (pv 1) (da_cons (de_tyn (by rfl) T.z_bool (by decide +kernel)) da_nil)))) (dw_or1 (dt_val (de_bi bi_isi (by rfl) T.z_isinstance (by decide +kernel) (da_bor (pv 0) (da_cons (de_tyn (by rfl) T.z_bool (by decide +kernel)) da_nil)))))))
  (dss_one (ds_ret (de_and (de_bi bi_isi (by rfl) T.z_isinstance (by decide +kernel) (da_bor (pv 1) (da_cons (de_tyn (by rfl) T.z_bool (by decide +kernel)) da_nil))) (de_and (de_bi bi_isi (by rfl) T.z_isinstance (by decide +kernel) (da_bor (pv 0) (da_cons (de_tyn (by rfl) T.z_bool (by decide +kernel)) da_nil))) (de_one (de_cmp (opr_eq hr) (de_var (pv 0)) (de_var (pv 1)) (nomark _)))))))
  dss_nil)
  (dss_cons (ds_if (PW.pt (dw_or (dt_cmp (opr_ne hr) (de_bi bi_isi (by rfl) T.z_isinstance (by decide +kernel) (da_bor (pv 0) (da_cons (de_tyn (by rfl) T.z_int (by decide +kernel)) da_nil))) (de_bi bi_isi (by rfl) T.z_isinstance (by decide +kernel) (da_bor (pv 1) (da_cons (de_tyn (by rfl) T.z_int (by decide +kernel)) da_nil))) (nomark _)) (dw_or1 (dt_cmp (opr_ne hr) (de_bi bi_isi (by rfl) T.z_isinstance (by decide +kernel) (da_bor (pv 0) (da_cons (de_tyn (by rfl) T.z_str (by decide +kernel)) da_nil))) (de_bi bi_isi (by rfl) T.z_isinstance (by decide +kernel) (da_bor (pv 1) (da_cons (de_tyn (by rfl) T.z_str (by decide +kernel)) da_nil))) (nomark _)))))
  (dss_one (ds_ret de_bl))
  dss_nil)
  (dss_one (ds_ret (de_cmp (opr_eq hr) (de_var (pv 0)) (de_var (pv 1)) (nomark _))))))))) hC
theorem b_law_road (T : Txt K mg) {k : Nat} {c_law_goal : Con} (G_law_goal : FnOk P w K mg base (L2.CX P w) k T.a_law_goal T.fd_law_goal ["_law_d", "_law_place"] (spD K c_law_goal)) {C : Con} (hlen : ∀ ls kk kx, C ls kk kx → ls.length = 2)
    (hC : ∀ ls kk kx, C ls kk kx → t_law_road c_law_goal (endsOf [] ls kk) (entry [] 3 ls)) : FnOk P w K mg base (L2.CX P w) (k + 1) T.a_law_road T.fd_law_road ["_law_d", "_law_entry"] (spD K C) :=
  okD [] T.F_law_road sc_law_road hlen (t_law_road c_law_goal) (fun cdv A outer s H E Y hr hY => have hN := sc_law_road.nd
  (dss_cons (ds_set (nofx hY (by decide)) hN rfl (.inl rfl) (de_lst (da_cons (de_var (pv 1)) da_nil)))
  (dss_cons (ds_while (passes_of rfl) (PW.pt (dw_or (dt_cmp opr_lt (de_bi bi_len (by rfl) T.z_len (by decide +kernel) (da_bor (pv 2) da_nil)) de_int (nomark _)) (dw_or (dt_cmp opr_le (de_ix (de_ixv (pv 0) de_int (fun _ _ => rfl)) (de_ix (de_ixv (pv 2) (de_neg de_int) (fun _ _ => rfl)) de_int (fun _ _ => rfl)) (fun _ _ => rfl)) de_int (nomark _)) (dw_or1 (dt_cmp opr_lt (de_ix (de_ixv (pv 2) (de_neg de_int) (fun _ _ => rfl)) de_int (fun _ _ => rfl)) (de_bi bi_len (by rfl) T.z_len (by decide +kernel) (da_cons (de_ix (de_ixv (pv 0) de_int (fun _ _ => rfl)) (de_ix (de_ixv (pv 2) (de_neg de_int) (fun _ _ => rfl)) de_int (fun _ _ => rfl)) (fun _ _ => rfl)) da_nil)) (nomark _))))))
  (dss_one (ds_expr (de_mt PySem.F.slot_list_append PySem.F.type_list_append mtr_append (pv 2) (da_own (de_call G_law_goal hr rfl T.m_law_goal T.F_law_goal.kp T.b_law_goal .nil .nil (da_cons (de_var (pv 0)) (da_cons (de_ixv (pv 2) (de_neg de_int) (fun _ _ => rfl)) da_nil))) da_nil)))))
  (dss_one (ds_ret (de_take (pv 2))))))) hC
theorem b_law_roads (T : Txt K mg) {k : Nat} {c_law_road : Con} (G_law_road : FnOk P w K mg base (L2.CX P w) k T.a_law_road T.fd_law_road ["_law_d", "_law_entry"] (spD K c_law_road)) {C : Con} (hlen : ∀ ls kk kx, C ls kk kx → ls.length = 1)
    (hC : ∀ ls kk kx, C ls kk kx → t_law_roads c_law_road (endsOf [] ls kk) (entry [] 5 ls)) : FnOk P w K mg base (L2.CX P w) (k + 1) T.a_law_roads T.fd_law_roads ["_law_d"] (spD K C) :=
  okD [] T.F_law_roads sc_law_roads hlen (t_law_roads c_law_road) (fun cdv A outer s H E Y hr hY => have hN := sc_law_roads.nd
  (dss_cons (ds_set (nofx hY (by decide)) hN rfl (.inl rfl) (de_lst da_nil))
  (dss_cons (ds_for (passes_of rfl) rfl (di_range1 (by rfl) T.z_range (da_cons (de_bi bi_len (by rfl) T.z_len (by decide +kernel) (da_cons (de_ixv (pv 0) de_int (fun _ _ => rfl)) da_nil)) da_nil)) (dg_name (nofx hY (by decide)) hN rfl (.inl rfl))
  (dss_cons (ds_set (nofx hY (by decide)) hN rfl (.inl rfl) (de_bi bi_len (by rfl) T.z_len (by decide +kernel) (da_cons (de_ix (de_ixv (pv 0) de_int (fun _ _ => rfl)) (de_var (pv 2)) (fun _ _ => rfl)) da_nil)))
  (dss_one (ds_for (passes_of rfl) rfl (di_range2 (by rfl) T.z_range (da_cons (de_var (pv 3)) (da_cons (de_op opr_sub (de_var (pv 3)) (de_ix (de_ixv (pv 0) de_int (fun _ _ => rfl)) (de_var (pv 2)) (fun _ _ => rfl))) da_nil))) (dg_name (nofx hY (by decide)) hN rfl (.inl rfl))
  (dss_one (ds_expr (de_mt PySem.F.slot_list_append PySem.F.type_list_append mtr_append (pv 1) (da_own (de_call G_law_road hr rfl T.m_law_road T.F_law_road.kp T.b_law_road .nil .nil (da_cons (de_var (pv 0)) (da_cons (de_tup (da_cons (de_var (pv 2)) (da_cons (de_var (pv 4)) da_nil))) da_nil))) da_nil))))))))
  (dss_one (ds_ret (de_take (pv 1))))))) hC
theorem b_law (T : Txt K mg) {k : Nat} {c_law_bag : Con} {c_law_pull : Con} {c_law_any : Con} {c_law_roads : Con} {c_law_made : Con} {c_roads : Con} {c_law_like : Con} {c_law_far : Con} {c_law_of : Con} {c_identity : Con} (G_law_bag : FnOk P w K mg base (L2.CX P w) k T.a_law_bag T.fd_law_bag ["_law_script"] (spD K c_law_bag)) (G_law_pull : FnOk P w K mg base (L2.CX P w) k T.a_law_pull T.fd_law_pull ["_law_bag_here", "_law_size"] (spD K c_law_pull)) (G_law_any : FnOk P w K mg base (L2.CX P w) k T.a_law_any T.fd_law_any ["_law_bag_here", "_law_wide", "_law_steps", "_law_more"] (spD K c_law_any)) (G_law_roads : FnOk P w K mg base (L2.CX P w) k T.a_law_roads T.fd_law_roads ["_law_d"] (spD K c_law_roads)) (G_law_made : FnOk P w K mg base (L2.CX P w) k T.a_law_made T.fd_law_made ["_law_d"] (spD K c_law_made)) (G_roads : FnOk P w K mg base (L2.CX P w) k T.a_roads T.fd_roads ["lane_map", "lane"] (spD K c_roads)) (G_law_like : FnOk P w K mg base (L2.CX P w) k T.a_law_like T.fd_law_like ["_law_found", "_law_due"] (spD K c_law_like)) (G_law_far : FnOk P w K mg base (L2.CX P w) k T.a_law_far T.fd_law_far ["_law_bag_here"] (spD K c_law_far)) (G_law_of : FnOk P w K mg base (L2.CX P w) k T.a_law_of T.fd_law_of ["_law_bag_here", "_law_some"] (spD K c_law_of)) (G_identity : FnOk P w K mg base (L2.CX P w) k T.a_identity T.fd_identity ["lanes"] (spD K c_identity)) {C : Con} (hlen : ∀ ls kk kx, C ls kk kx → ls.length = 1)
    (hC : ∀ ls kk kx, C ls kk kx → t_law c_law_bag c_law_pull c_law_any c_law_roads c_law_made c_roads c_law_like c_law_far c_law_of c_identity (endsOf [] ls kk) (entry [] 13 ls)) : FnOk P w K mg base (L2.CX P w) (k + 1) T.a_law T.fd_law ["_law_script"] (spD K C) :=
  okD [] T.F_law sc_law hlen (t_law c_law_bag c_law_pull c_law_any c_law_roads c_law_made c_roads c_law_like c_law_far c_law_of c_identity) (fun cdv A outer s H E Y hr hY => have hN := sc_law.nd
  (dss_cons (ds_set (nofx hY (by decide)) hN rfl (.inl rfl) (de_call G_law_bag hr rfl T.m_law_bag T.F_law_bag.kp T.b_law_bag .nil .nil (da_cons (de_var (pv 0)) da_nil)))
  (dss_cons (ds_for (passes_of rfl) rfl (di_range1 (by rfl) T.z_range (da_cons de_int da_nil)) (dg_name (nofx hY (by decide)) hN rfl (.inl rfl))
  (dss_cons (ds_set (nofx hY (by decide)) hN rfl (.inl rfl) (de_op opr_add de_int (de_call G_law_pull hr rfl T.m_law_pull T.F_law_pull.kp T.b_law_pull .nil .nil (da_bor (pv 1) (da_cons de_int da_nil)))))
  (dss_cons (ds_set (nofx hY (by decide)) hN rfl (.inl rfl) (de_call G_law_any hr rfl T.m_law_any T.F_law_any.kp T.b_law_any .nil .nil (da_bor (pv 1) (da_cons (de_var (pv 3)) (da_cons de_int (da_cons de_int da_nil))))))
  (dss_cons (ds_par (nofx hY (by decide)) (nofx hY (by decide)) rfl hN rfl rfl (by decide) rfl rfl (da_own (de_call G_law_made hr rfl T.m_law_made T.F_law_made.kp T.b_law_made .nil .nil (da_cons (de_var (pv 4)) da_nil)) (da_own (de_call G_law_roads hr rfl T.m_law_roads T.F_law_roads.kp T.b_law_roads .nil .nil (da_cons (de_var (pv 4)) da_nil)) da_nil)) (by rfl))
  (dss_cons (ds_for (passes_of rfl) rfl (di_range1 (by rfl) T.z_range (da_cons de_int da_nil)) (dg_name (nofx hY (by decide)) hN rfl (.inl rfl))
  (dss_cons (ds_set (nofx hY (by decide)) hN rfl (.inl rfl) (de_call G_roads hr rfl T.m_roads T.F_roads.kp T.bd_roads T.vd_roads T.rd_roads (da_cons (de_var (pv 5)) da_nil)))
  (dss_cons (ds_if (PW.pt (dw_or (dt_not (dt_val (de_tmp (de_call G_law_like hr rfl T.m_law_like T.F_law_like.kp T.b_law_like .nil .nil (da_cons (de_var (pv 8)) (da_cons (de_var (pv 6)) da_nil)))))) (dw_or1 (dt_not (dt_val (de_tmp (de_call G_law_like hr rfl T.m_law_like T.F_law_like.kp T.b_law_like .nil .nil (da_cons (de_callN G_roads hr rfl T.m_roads T.F_roads.kp T.kb_roads_0 (fun _ _ _ _ _ => Reps.append) rfl (pa_cons (de_var (pv 5)) pa_nil rfl) (pk_cons de_non pk_nil) (fun _ _ _ h => sp2 h)) (da_cons (de_var (pv 6)) da_nil)))))))))
  (dss_one (ds_ret de_bl))
  dss_nil)
  (dss_cons (ds_forB (own := []) (passes_of rfl) rfl (pv 8) (by decide) (by decide) (by decide) (fun q hq => ⟨nofx hY (by decide) q hq, by simp⟩) (pg_name hN rfl (.inl rfl))
  (fun Y _ => (dss_one (ds_expr (de_mt0 PySem.F.slot_list_clear PySem.F.type_list_clear mtr_clear (pv 9))))))
  (dss_one (ds_expr (de_mt PySem.F.slot_list_append PySem.F.type_list_append mtr_append (pv 8) (da_own (de_lst da_nil) da_nil))))))))
  (dss_cons (ds_for (passes_of rfl) rfl (di_range1 (by rfl) T.z_range (da_cons (de_var (pv 3)) da_nil)) (dg_name (nofx hY (by decide)) hN rfl (.inr rfl))
  (dss_cons (ds_setLc (i := 11) (nofx hY (by decide)) (own := [("_law_road_here", 9)]) rfl hN rfl rfl (sw_true rfl rfl rfl (by decide +kernel)) (di_any (de_var (pv 6))) (blkOk_by (N := ["_law_script", "_law_bag_here", "_law_turn", "_law_wide", "_law_d", "_law_found", "_law_due", "_law_again", "_law_told", "_law_road_here", "_law_row", "_law_own", "_law_odd"]) (sc := defScope s_law) (by decide +kernel)) (fun _ y1 _ _ _ _ _ => (dg_name (nofxB y1 (by decide)) hN rfl (.inl rfl))) (fun _ y1 _ _ _ _ _ => (dts_one (dt_cmp (opr_eq hr) (de_ix (de_ixv (pv 9) de_int (fun _ _ => rfl)) de_int (fun _ _ => rfl)) (de_var (pv 10)) (nomark _)))) (fun _ y1 _ _ _ _ _ => (de_var (pv 9))))
  (dss_one (ds_for (passes_of rfl) rfl (di_range1 (by rfl) T.z_range (da_cons de_int da_nil)) (dg_name (nofx hY (by decide)) hN rfl (.inl rfl))
  (dss_cons (ds_set (nofx hY (by decide)) hN rfl (.inl rfl) (de_callN G_roads hr rfl T.m_roads T.F_roads.kp T.kb_roads_0 (fun _ _ _ _ _ => Reps.append) rfl (pa_cons (de_var (pv 5)) pa_nil rfl) (pk_cons (de_var (pv 10)) pk_nil) (fun _ _ _ h => sp2 h)))
  (dss_cons (ds_if (dt_not (dt_val (de_tmp (de_call G_law_like hr rfl T.m_law_like T.F_law_like.kp T.b_law_like .nil .nil (da_cons (de_var (pv 8)) (da_cons (de_var (pv 11)) da_nil))))))
  (dss_one (ds_ret de_bl))
  dss_nil)
  (dss_cons (ds_forB (own := []) (passes_of rfl) rfl (pv 8) (by decide) (by decide) (by decide) (fun q hq => ⟨nofx hY (by decide) q hq, by simp⟩) (pg_name hN rfl (.inl rfl))
  (fun Y _ => (dss_one (ds_expr (de_mt0 PySem.F.slot_list_clear PySem.F.type_list_clear mtr_clear (pv 9))))))
  (dss_one (ds_expr (de_mt PySem.F.slot_list_append PySem.F.type_list_append mtr_append (pv 8) (da_own de_str da_nil)))))))))))
  (dss_cons (ds_set (nofx hY (by decide)) hN rfl (.inl rfl) (de_call G_law_of hr rfl T.m_law_of T.F_law_of.kp T.b_law_of .nil .nil (da_bor (pv 1) (da_cons (de_lst (da_cons (de_var (pv 3)) (da_cons (de_neg de_int) (da_cons (de_call G_law_far hr rfl T.m_law_far T.F_law_far.kp T.b_law_far .nil .nil (da_bor (pv 1) da_nil)) da_nil)))) da_nil))))
  (dss_one (ds_if (dt_cmp (opr_ne hr) (de_callN0 G_roads hr rfl T.m_roads T.F_roads.kp T.kb_roads_1 (fun _ _ _ _ _ => Reps.append) rfl (pk_cons (de_var (pv 5)) (pk_cons (de_var (pv 12)) pk_nil)) (fun _ _ _ h => sp2 h)) (de_lst da_nil) (nomark _))
  (dss_one (ds_ret de_bl))
  dss_nil)))))))))
  (dss_one (ds_ret (de_cmp (opr_eq hr) (de_call G_roads hr rfl T.m_roads T.F_roads.kp T.bd_roads T.vd_roads T.rd_roads (da_cons (de_call G_identity hr rfl T.m_identity T.F_identity.kp T.b_identity .nil .nil (da_cons de_int da_nil)) da_nil)) (de_lst da_nil) (nomark _))))))) hC
end
end FL

namespace FL
open PySem PySem.Spec PyProof.Rows L2 TL
/-! ### tables of bijections -/
abbrev Pl := Int × Int
def plD (p : Pl) : D := .tup [.int p.1, .int p.2]
def row (gs : List (List Pl)) (i : Nat) : List Pl := gs.getD i []
def dlt (dr : List Int) (i : Nat) : Int := dr.getD i 0
structure Bij (dr : List Int) (gs : List (List Pl)) : Prop where
  n1 : 1 ≤ dr.length
  n6 : dr.length ≤ 6
  len : gs.length = dr.length
  tot : (gs.map List.length).sum ≤ 2000
  db : ∀ i, -1000 ≤ dlt dr i ∧ dlt dr i ≤ 1000
  nn : ∀ i, i < dr.length → 0 ≤ ((row gs i).length : Int) + dlt dr i
  ok : ∀ (i a : Nat) (p : Pl), i < dr.length → (row gs i)[a]? = some p → 0 ≤ p.1 ∧ p.1 < dr.length ∧ 0 ≤ p.2 ∧ p.2 < ((row gs p.1.toNat).length : Int) + dlt dr p.1.toNat
  on : ∀ j b : Nat, j < dr.length → (b : Int) < ((row gs j).length : Int) + dlt dr j → ∃ i a : Nat, i < dr.length ∧ (row gs i)[a]? = some ((j : Int), (b : Int))
  inj : ∀ (i a j b : Nat) (p : Pl), i < dr.length → j < dr.length → (row gs i)[a]? = some p → (row gs j)[b]? = some p → i = j ∧ a = b
theorem getD_row {gs : List (List Pl)} {i : Nat} (h : i < gs.length) : gs[i]? = some (row gs i) := by
  simp [row, List.getD_eq_getElem?_getD, h]
theorem getD_dlt {dr : List Int} {i : Nat} (h : i < dr.length) : dr[i]? = some (dlt dr i) := by
  simp [dlt, List.getD_eq_getElem?_getD, h]
theorem dlt_out {dr : List Int} {i : Nat} (h : dr.length ≤ i) : dlt dr i = 0 := by
  simp [dlt, List.getD_eq_getElem?_getD, List.getElem?_eq_none_iff.mpr h]
theorem row_out {gs : List (List Pl)} {i : Nat} (h : gs.length ≤ i) : row gs i = [] := by
  simp [row, List.getD_eq_getElem?_getD, List.getElem?_eq_none_iff.mpr h]
theorem sum_ge : ∀ (ns : List Nat) (i : Nat), ns.getD i 0 ≤ ns.sum
  | [], i => by simp
  | n :: ns, 0 => by simp
  | n :: ns, i + 1 => by
    have := sum_ge ns i
    simp only [List.getD_cons_succ, List.sum_cons]
    omega
theorem Bij.row_le {dr : List Int} {gs : List (List Pl)} (h : Bij dr gs) (i : Nat) : (row gs i).length ≤ 2000 := by
  have h1 := sum_ge (gs.map List.length) i
  have h2 : (gs.map List.length).getD i 0 = (row gs i).length := by
    by_cases hi : i < gs.length
    · simp [row, List.getD_eq_getElem?_getD, hi]
    · rw [row_out (by omega)]
      simp [List.getD_eq_getElem?_getD, List.getElem?_eq_none_iff.mpr (show gs.length ≤ i by omega)]
  have := h.tot
  omega
def zeros (n : Nat) : List Int := List.replicate n 0
def nones (n : Nat) : List (List Pl) := List.replicate n []
theorem dlt_zeros (n i : Nat) : dlt (zeros n) i = 0 := by
  unfold dlt zeros
  rw [List.getD_eq_getElem?_getD, List.getElem?_replicate]
  split <;> rfl
theorem row_nones (n i : Nat) : row (nones n) i = [] := by
  unfold row nones
  rw [List.getD_eq_getElem?_getD, List.getElem?_replicate]
  split <;> rfl
/-- a row without the goals at its end that the drift tells -/
def trim (lane dr : Int) (r : List Pl) : Nat → Nat
  | 0 => 0
  | n + 1 => if r[n]? = some (lane, (n : Int) + dr) then trim lane dr r n else n + 1
theorem trim_le (lane dr : Int) (r : List Pl) : ∀ n, trim lane dr r n ≤ n
  | 0 => Nat.le_refl _
  | n + 1 => by
    unfold trim
    split
    · exact Nat.le_succ_of_le (trim_le lane dr r n)
    · exact Nat.le_refl _
theorem trim_at {lane dr : Int} {r : List Pl} : ∀ {n a : Nat}, trim lane dr r n ≤ a → a < n → r[a]? = some (lane, (a : Int) + dr)
  | 0, a, _, h => by omega
  | n + 1, a, h1, h2 => by
    unfold trim at h1
    split at h1
    · rename_i e
      by_cases ha : a = n
      · subst ha; exact e
      · exact trim_at h1 (by omega)
    · omega
theorem trim_last {lane dr : Int} {r : List Pl} : ∀ {n m : Nat}, trim lane dr r n = m + 1 → r[m]? ≠ some (lane, (m : Int) + dr)
  | 0, m, h => by simp [trim] at h
  | n + 1, m, h => by
    unfold trim at h
    split at h
    · exact trim_last h
    · rename_i e
      have : n = m := by omega
      subst this; exact e
theorem trim_id {lane dr : Int} {r : List Pl} {n : Nat} (h : ∀ m, n = m + 1 → r[m]? ≠ some (lane, (m : Int) + dr)) : trim lane dr r n = n := by
  cases n with
  | zero => rfl
  | succ n =>
    unfold trim
    rw [if_neg (h n rfl)]
theorem trim_all {lane dr : Int} {r : List Pl} : ∀ {n : Nat}, (∀ a, a < n → r[a]? = some (lane, (a : Int) + dr)) → trim lane dr r n = 0
  | 0, _ => rfl
  | n + 1, h => by
    unfold trim
    rw [if_pos (h n (by omega))]
    exact trim_all fun a ha => h a (by omega)
def leastR (dr : List Int) (gs : List (List Pl)) (i : Nat) : List Pl := (row gs i).take (trim i (dlt dr i) (row gs i) (row gs i).length)
def least (dr : List Int) (gs : List (List Pl)) : List (List Pl) := (List.range gs.length).map (leastR dr gs)
theorem least_len (dr : List Int) (gs : List (List Pl)) : (least dr gs).length = gs.length := by simp [least]
theorem least_row (dr : List Int) (gs : List (List Pl)) (i : Nat) : row (least dr gs) i = leastR dr gs i := by
  by_cases h : i < gs.length
  · simp [row, least, List.getD_eq_getElem?_getD, h]
  · rw [row_out (by rw [least_len]; omega)]
    unfold leastR
    rw [row_out (by omega)]
    rfl
theorem leastR_len (dr : List Int) (gs : List (List Pl)) (i : Nat) : (leastR dr gs i).length = trim i (dlt dr i) (row gs i) (row gs i).length := by
  unfold leastR
  rw [List.length_take]
  exact Nat.min_eq_left (trim_le _ _ _ _)
theorem leastR_get {dr : List Int} {gs : List (List Pl)} {i a : Nat} {p : Pl} : (leastR dr gs i)[a]? = some p ↔ (row gs i)[a]? = some p ∧ a < trim i (dlt dr i) (row gs i) (row gs i).length := by
  unfold leastR
  rw [List.getElem?_take]
  split
  · exact ⟨fun h => ⟨h, by assumption⟩, fun h => h.1⟩
  · exact ⟨fun h => by simp at h, fun h => absurd h.2 (by assumption)⟩
theorem sum_le_sum : ∀ (f g : Nat → Nat) (n : Nat), (∀ i, f i ≤ g i) → ((List.range n).map f).sum ≤ ((List.range n).map g).sum
  | f, g, 0, _ => by simp
  | f, g, n + 1, h => by
    rw [List.range_succ, List.map_append, List.map_append, List.sum_append, List.sum_append]
    have := sum_le_sum f g n h
    have := h n
    simp
    omega
theorem map_len_range (gs : List (List Pl)) : gs.map List.length = (List.range gs.length).map fun i => (row gs i).length := by
  apply List.ext_getElem?
  intro i
  by_cases h : i < gs.length
  · simp [h, row, List.getD_eq_getElem?_getD]
  · rw [List.getElem?_eq_none_iff.mpr (by simp; omega), List.getElem?_eq_none_iff.mpr (by simp; omega)]
theorem Bij.least {dr : List Int} {gs : List (List Pl)} (h : Bij dr gs) : Bij dr (least dr gs) := by
  have tl : ∀ i : Nat, trim i (dlt dr i) (row gs i) (row gs i).length ≤ (row gs i).length := fun i => trim_le _ _ _ _
  have cut : ∀ i a : Nat, i < dr.length → trim i (dlt dr i) (row gs i) (row gs i).length ≤ a → a < (row gs i).length → (row gs i)[a]? = some ((i : Int), (a : Int) + dlt dr i) := fun i a _ h1 h2 => trim_at h1 h2
  refine ⟨h.n1, h.n6, by rw [least_len]; exact h.len, ?_, h.db, fun i hi => ?_, fun i a p hi hp => ?_, fun j b hj hb => ?_, fun i a j b p hi hj h1 h2 => ?_⟩
  · have h1 := h.tot
    rw [map_len_range] at h1 ⊢
    rw [least_len]
    refine Nat.le_trans (sum_le_sum _ _ _ fun i => ?_) h1
    rw [least_row, leastR_len]
    exact tl i
  · rw [least_row, leastR_len]
    -- the goals that were cut stand at places of their lane
    by_cases ht : trim i (dlt dr i) (row gs i) (row gs i).length < (row gs i).length
    · have e := cut i _ hi (Nat.le_refl _) ht
      have := (h.ok i _ _ hi e).2.2.1
      exact this
    · have e : trim i (dlt dr i) (row gs i) (row gs i).length = (row gs i).length := by have := tl i; omega
      rw [e]; exact h.nn i hi
  · rw [least_row] at hp
    obtain ⟨h1, h2⟩ := leastR_get.mp hp
    obtain ⟨q0, q1, q2, q3⟩ := h.ok i a p hi h1
    refine ⟨q0, q1, q2, ?_⟩
    rw [least_row, leastR_len]
    obtain ⟨j, hj⟩ := Int.eq_ofNat_of_zero_le q0
    obtain ⟨b, hb⟩ := Int.eq_ofNat_of_zero_le q2
    rw [hj, Int.toNat_natCast] at q3 ⊢
    have hjn : j < dr.length := by omega
    by_cases hlt : p.2 < (trim j (dlt dr j) (row gs j) (row gs j).length : Int) + dlt dr j
    · exact hlt
    · exfalso
      -- the place belongs to a goal that was cut
      have hnn := h.nn j hjn
      have hb2 : ∃ c : Nat, (c : Int) + dlt dr j = p.2 ∧ trim j (dlt dr j) (row gs j) (row gs j).length ≤ c ∧ c < (row gs j).length := by
        refine ⟨(p.2 - dlt dr j).toNat, ?_, ?_, ?_⟩ <;> omega
      obtain ⟨c, hc, hc1, hc2⟩ := hb2
      have e := cut j c hjn hc1 hc2
      have ep : p = ((j : Int), (c : Int) + dlt dr j) := Prod.ext hj (by rw [hc])
      rw [← ep] at e
      obtain ⟨e1, e2⟩ := h.inj i a j c p hi hjn h1 e
      subst e1; subst e2
      omega
  · rw [least_row, leastR_len] at hb
    obtain ⟨i, a, hi, hp⟩ := h.on j b hj (by have := tl j; omega)
    refine ⟨i, a, hi, ?_⟩
    rw [least_row]
    refine leastR_get.mpr ⟨hp, ?_⟩
    have hal : a < (row gs i).length := (List.getElem?_eq_some_iff.mp hp).1
    by_cases hlt : a < trim i (dlt dr i) (row gs i) (row gs i).length
    · exact hlt
    · exfalso
      have e := cut i a hi (by omega) hal
      rw [hp] at e
      have e := Option.some.inj e
      have e1 : (j : Int) = i := congrArg Prod.fst e
      have e2 : (b : Int) = (a : Int) + dlt dr i := congrArg Prod.snd e
      have : j = i := by omega
      subst this
      omega
  · rw [least_row] at h1 h2
    exact h.inj i a j b p hi hj (leastR_get.mp h1).1 (leastR_get.mp h2).1
/-- the goal of a place -/
def goalOf (dr : List Int) (gs : List (List Pl)) (p : Pl) : Pl := match (row gs p.1.toNat)[p.2.toNat]? with
  | some q => q
  | none => (p.1, p.2 + dlt dr p.1.toNat)
def IsPl (n : Nat) (p : Pl) : Prop := 0 ≤ p.1 ∧ p.1 < n ∧ 0 ≤ p.2
theorem Bij.goal_pl {dr : List Int} {gs : List (List Pl)} (h : Bij dr gs) {p : Pl} (hp : IsPl dr.length p) : IsPl dr.length (goalOf dr gs p) := by
  obtain ⟨h0, h1, h2⟩ := hp
  obtain ⟨i, hi⟩ := Int.eq_ofNat_of_zero_le h0
  obtain ⟨a, ha⟩ := Int.eq_ofNat_of_zero_le h2
  have hin : i < dr.length := by omega
  unfold goalOf
  rw [hi, ha, Int.toNat_natCast, Int.toNat_natCast]
  cases e : (row gs i)[a]? with
  | some q =>
    obtain ⟨q0, q1, q2, q3⟩ := h.ok i a q hin e
    exact ⟨q0, q1, q2⟩
  | none =>
    have := List.getElem?_eq_none_iff.mp e
    have hnn := h.nn i hin
    exact ⟨by show 0 ≤ (i : Int); omega, by show (i : Int) < _; omega, by show 0 ≤ (a : Int) + dlt dr i; omega⟩
theorem goal_least {dr : List Int} {gs : List (List Pl)} {p : Pl} (hp : 0 ≤ p.1 ∧ 0 ≤ p.2) : goalOf dr (least dr gs) p = goalOf dr gs p := by
  obtain ⟨h0, h2⟩ := hp
  obtain ⟨i, hi⟩ := Int.eq_ofNat_of_zero_le h0
  obtain ⟨a, ha⟩ := Int.eq_ofNat_of_zero_le h2
  unfold goalOf
  rw [hi, ha, Int.toNat_natCast, Int.toNat_natCast, least_row]
  by_cases hlt : a < trim i (dlt dr i) (row gs i) (row gs i).length
  · have : (leastR dr gs i)[a]? = (row gs i)[a]? := by unfold leastR; rw [List.getElem?_take, if_pos hlt]
    rw [this]
  · have e1 : (leastR dr gs i)[a]? = none := List.getElem?_eq_none_iff.mpr (by rw [leastR_len]; omega)
    rw [e1]
    by_cases h3 : a < (row gs i).length
    · have e2 := trim_at (lane := i) (dr := dlt dr i) (r := row gs i) (n := (row gs i).length) (a := a) (by omega) h3
      rw [e2]
    · rw [List.getElem?_eq_none_iff.mpr (by omega)]
/-! ### sources -/
def pk (p : Pl) : List Key := [.inl p.1, .inl p.2]
theorem pk_inj {p q : Pl} (h : pk p = pk q) : p = q := by
  simp only [pk, List.cons.injEq, Sum.inl.injEq, and_true] at h
  exact Prod.ext h.1 h.2
def srcs (gs : List (List Pl)) : List (Pl × Pl) := (List.range gs.length).flatMap fun (i : Nat) => (List.range (row gs i).length).map fun (a : Nat) => ((row gs i).getD a (0, 0), ((i : Int), (a : Int)))
def srcK (l : List (Pl × Pl)) : List (List Key) := l.map fun q => pk q.1
def srcV (l : List (Pl × Pl)) : List D := l.map fun q => plD q.2
theorem lookK_src : ∀ (l : List (Pl × Pl)) (p : Pl), lookK (srcK l) (srcV l) (pk p) = (l.find? fun q => q.1 = p).map fun q => plD q.2
  | [], p => rfl
  | q :: l, p => by
    have ih := lookK_src l p
    simp only [srcK, srcV, List.map_cons, lookK] at ih ⊢
    by_cases e : q.1 = p
    · simp [e]
    · have e' : ¬ pk q.1 = pk p := fun z => e (pk_inj z)
      rw [if_neg e', ih]
      simp [e]
theorem mem_srcs {gs : List (List Pl)} {q : Pl × Pl} : q ∈ srcs gs ↔ ∃ i a : Nat, i < gs.length ∧ (row gs i)[a]? = some q.1 ∧ q.2 = ((i : Int), (a : Int)) := by
  unfold srcs
  simp only [List.mem_flatMap, List.mem_range, List.mem_map]
  constructor
  · rintro ⟨i, hi, a, ha, rfl⟩
    refine ⟨i, a, hi, ?_, rfl⟩
    show (row gs i)[a]? = some ((row gs i).getD a (0, 0))
    generalize row gs i = r at ha
    simp [List.getD_eq_getElem?_getD, ha]
  · rintro ⟨i, a, hi, h, e⟩
    have ha : a < (row gs i).length := (List.getElem?_eq_some_iff.mp h).1
    refine ⟨i, hi, a, ha, ?_⟩
    refine Prod.ext ?_ e.symm
    show (row gs i).getD a (0, 0) = q.1
    rw [List.getD_eq_getElem?_getD, h]; rfl
theorem Bij.look {dr : List Int} {gs : List (List Pl)} (h : Bij dr gs) {i a : Nat} {p : Pl} (hi : i < dr.length) (hp : (row gs i)[a]? = some p) : lookK (srcK (srcs gs)) (srcV (srcs gs)) (pk p) = some (plD ((i : Int), (a : Int))) := by
  rw [lookK_src]
  cases e : (srcs gs).find? fun q => q.1 = p with
  | none =>
    have := List.find?_eq_none.mp e (p, ((i : Int), (a : Int))) (mem_srcs.mpr ⟨i, a, by rw [h.len]; exact hi, hp, rfl⟩)
    simp at this
  | some q =>
    have e1 : q.1 = p := by simpa using List.find?_some e
    obtain ⟨j, b, hj, hq, e2⟩ := mem_srcs.mp (List.mem_of_find?_eq_some e)
    rw [e1] at hq
    obtain ⟨z1, z2⟩ := h.inj i a j b p hi (by rw [← h.len]; exact hj) hp hq
    subst z1; subst z2
    simp [e2]
theorem look_none {gs : List (List Pl)} {p : Pl} (hp : ∀ i a : Nat, i < gs.length → (row gs i)[a]? ≠ some p) : lookK (srcK (srcs gs)) (srcV (srcs gs)) (pk p) = none := by
  rw [lookK_src]
  cases e : (srcs gs).find? fun q => q.1 = p with
  | none => rfl
  | some q =>
    have e1 : q.1 = p := by simpa using List.find?_some e
    obtain ⟨j, b, hj, hq, e2⟩ := mem_srcs.mp (List.mem_of_find?_eq_some e)
    rw [e1] at hq
    exact absurd hq (hp j b hj)
/-- the place that has the goal p -/
def srcOf (gs : List (List Pl)) (p : Pl) : Option Pl := ((srcs gs).find? fun q => q.1 = p).map (·.2)
theorem look_srcOf (gs : List (List Pl)) (p : Pl) : lookK (srcK (srcs gs)) (srcV (srcs gs)) (pk p) = (srcOf gs p).map plD := by
  rw [lookK_src]; unfold srcOf; simp [Option.map_map, Function.comp_def]
theorem Bij.srcOf {dr : List Int} {gs : List (List Pl)} (h : Bij dr gs) {i a : Nat} {p : Pl} (hi : i < dr.length) (hp : (row gs i)[a]? = some p) : srcOf gs p = some ((i : Int), (a : Int)) := by
  unfold FL.srcOf
  cases e : (srcs gs).find? fun q => q.1 = p with
  | none =>
    have := List.find?_eq_none.mp e (p, ((i : Int), (a : Int))) (mem_srcs.mpr ⟨i, a, by rw [h.len]; exact hi, hp, rfl⟩)
    simp at this
  | some q =>
    have e1 : q.1 = p := by simpa using List.find?_some e
    obtain ⟨j, b, hj, hq, e2⟩ := mem_srcs.mp (List.mem_of_find?_eq_some e)
    rw [e1] at hq
    obtain ⟨z1, z2⟩ := h.inj i a j b p hi (by rw [← h.len]; exact hj) hp hq
    subst z1; subst z2
    simp [e2]
def sourceOf (dr : List Int) (gs : List (List Pl)) (p : Pl) : Pl := (srcOf gs p).getD (p.1, p.2 - dlt dr p.1.toNat)
/-! ### the inverse -/
def invR (dr : List Int) (gs : List (List Pl)) (i : Nat) : List Pl := (List.range ((row gs i).length + dlt dr i).toNat).map fun (a : Nat) => sourceOf dr gs ((i : Int), (a : Int))
def invG (dr : List Int) (gs : List (List Pl)) : List (List Pl) := (List.range gs.length).map (invR dr gs)
def neg (dr : List Int) : List Int := dr.map fun d => -d
theorem neg_dlt (dr : List Int) (i : Nat) : dlt (neg dr) i = - dlt dr i := by
  by_cases h : i < dr.length
  · simp [dlt, neg, List.getD_eq_getElem?_getD, h]
  · rw [dlt_out (by simp [neg]; omega), dlt_out (by omega)]; rfl
theorem invG_row {dr : List Int} {gs : List (List Pl)} {i : Nat} (h : i < gs.length) : row (invG dr gs) i = invR dr gs i := by
  simp [row, invG, List.getD_eq_getElem?_getD, h]
theorem invR_len (dr : List Int) (gs : List (List Pl)) (i : Nat) : (invR dr gs i).length = ((row gs i).length + dlt dr i).toNat := by simp [invR]
theorem invR_get {dr : List Int} {gs : List (List Pl)} {i a : Nat} (h : a < ((row gs i).length + dlt dr i).toNat) : (invR dr gs i)[a]? = some (sourceOf dr gs ((i : Int), (a : Int))) := by
  unfold invR
  rw [List.getElem?_map, List.getElem?_range h]; rfl
theorem Bij.inv_src {dr : List Int} {gs : List (List Pl)} (h : Bij dr gs) {i a : Nat} (hi : i < dr.length) (ha : (a : Int) < (row gs i).length + dlt dr i) :
    ∃ j b : Nat, j < dr.length ∧ (row gs j)[b]? = some ((i : Int), (a : Int)) ∧ sourceOf dr gs ((i : Int), (a : Int)) = ((j : Int), (b : Int)) := by
  obtain ⟨j, b, hj, hp⟩ := h.on i a hi ha
  exact ⟨j, b, hj, hp, by unfold sourceOf; rw [h.srcOf hj hp]; rfl⟩
theorem inv_get {dr : List Int} {gs : List (List Pl)} (h : Bij dr gs) {i a : Nat} {p : Pl} (hi : i < dr.length) : (row (invG dr gs) i)[a]? = some p ↔ ∃ j b : Nat, j < dr.length ∧ (row gs j)[b]? = some ((i : Int), (a : Int)) ∧ p = ((j : Int), (b : Int)) := by
  rw [invG_row (by rw [h.len]; exact hi)]
  constructor
  · intro e
    have ha : a < ((row gs i).length + dlt dr i).toNat := by
      have := (List.getElem?_eq_some_iff.mp e).1
      rw [invR_len] at this; exact this
    rw [invR_get ha] at e
    obtain ⟨j, b, hj, hp, es⟩ := h.inv_src hi (show (a : Int) < (row gs i).length + dlt dr i by omega)
    rw [es] at e
    exact ⟨j, b, hj, hp, (Option.some.inj e).symm⟩
  · rintro ⟨j, b, hj, hp, rfl⟩
    have q := (h.ok j b _ hj hp).2.2.2
    simp only [Int.toNat_natCast] at q
    rw [invR_get (by omega)]
    unfold sourceOf
    rw [h.srcOf hj hp]; rfl
theorem tot_inv {dr : List Int} {gs : List (List Pl)} (h : Bij dr gs) (hs : dr.sum = 0) : ((invG dr gs).map List.length).sum = (gs.map List.length).sum := by
  have e1 : (invG dr gs).map List.length = (List.range gs.length).map fun (i : Nat) => ((row gs i).length + dlt dr i).toNat := by
    unfold invG
    rw [List.map_map]
    apply List.map_congr_left
    intro i _
    exact invR_len dr gs i
  rw [e1, map_len_range]
  have key : ∀ n, n ≤ dr.length → (((List.range n).map fun (i : Nat) => ((row gs i).length + dlt dr i).toNat).sum : Int) = ((List.range n).map fun (i : Nat) => (row gs i).length).sum + (dr.take n).sum := by
    intro n
    induction n with
    | zero => intro _; simp
    | succ n ih =>
      intro hn
      have ih := ih (by omega)
      have hnn := h.nn n (by omega)
      have et : (dr.take (n + 1)).sum = (dr.take n).sum + dlt dr n := by
        rw [List.take_succ, getD_dlt (show n < dr.length by omega), List.sum_append]; simp
      rw [List.range_succ, List.map_append, List.map_append, List.sum_append, List.sum_append, et]
      simp only [List.map_cons, List.map_nil, List.sum_cons, List.sum_nil, Nat.add_zero]
      omega
  have k := key gs.length (by rw [h.len]; exact Nat.le_refl _)
  rw [h.len, List.take_length, hs] at k
  rw [h.len]
  omega
theorem Bij.inv {dr : List Int} {gs : List (List Pl)} (h : Bij dr gs) (hs : dr.sum = 0) : Bij (neg dr) (invG dr gs) := by
  have nl : (neg dr).length = dr.length := by simp [neg]
  have rl : ∀ i, i < dr.length → ((row (invG dr gs) i).length : Int) = (row gs i).length + dlt dr i := fun i hi => by
    rw [invG_row (by rw [h.len]; exact hi), invR_len]
    have := h.nn i hi
    omega
  refine ⟨by rw [nl]; exact h.n1, by rw [nl]; exact h.n6, by rw [nl]; simp [invG, h.len], by rw [tot_inv h hs]; exact h.tot, fun i => by rw [neg_dlt]; have := h.db i; omega, fun i hi => ?_, fun i a p hi hp => ?_, fun j b hj hb => ?_, fun i a j b p hi hj h1 h2 => ?_⟩
  · rw [nl] at hi
    rw [rl i hi, neg_dlt]; omega
  · rw [nl] at hi ⊢
    obtain ⟨j, b, hj, hq, rfl⟩ := (inv_get h hi).mp hp
    have hb : b < (row gs j).length := (List.getElem?_eq_some_iff.mp hq).1
    refine ⟨by omega, by show (j : Int) < dr.length; omega, by omega, ?_⟩
    show (b : Int) < ((row (invG dr gs) (Int.toNat (j : Int))).length : Int) + dlt (neg dr) (Int.toNat (j : Int))
    rw [Int.toNat_natCast, rl j hj, neg_dlt]
    omega
  · rw [nl] at hj ⊢
    rw [rl j hj, neg_dlt] at hb
    have hb : b < (row gs j).length := by omega
    have e := List.getElem?_eq_getElem hb
    obtain ⟨q0, q1, q2, q3⟩ := h.ok j b _ hj e
    generalize (row gs j)[b] = q at *
    obtain ⟨i, hi⟩ := Int.eq_ofNat_of_zero_le q0
    obtain ⟨a, ha⟩ := Int.eq_ofNat_of_zero_le q2
    have eq : q = ((i : Int), (a : Int)) := Prod.ext hi ha
    have hin : i < dr.length := by omega
    exact ⟨i, a, hin, (inv_get h hin).mpr ⟨j, b, hj, by rw [e, eq], rfl⟩⟩
  · rw [nl] at hi hj
    obtain ⟨i1, b1, g1, e1, rfl⟩ := (inv_get h hi).mp h1
    obtain ⟨i2, b2, g2, e2, z⟩ := (inv_get h hj).mp h2
    have z1 : i1 = i2 := by have := congrArg Prod.fst z; simp at this; omega
    have z2 : b1 = b2 := by have := congrArg Prod.snd z; simp at this; omega
    subst z1; subst z2
    rw [e1] at e2
    have e := Option.some.inj e2
    have := congrArg Prod.fst e
    have := congrArg Prod.snd e
    simp at *
    omega
theorem Bij.inv_goal {dr : List Int} {gs : List (List Pl)} (h : Bij dr gs) {p : Pl} (hp : IsPl dr.length p) : goalOf (neg dr) (invG dr gs) (goalOf dr gs p) = p := by
  obtain ⟨h0, h1, h2⟩ := hp
  obtain ⟨i, hi⟩ := Int.eq_ofNat_of_zero_le h0
  obtain ⟨a, ha⟩ := Int.eq_ofNat_of_zero_le h2
  have hin : i < dr.length := by omega
  have ep : p = ((i : Int), (a : Int)) := Prod.ext hi ha
  subst ep
  cases e : (row gs i)[a]? with
  | some q =>
    obtain ⟨q0, q1, q2, q3⟩ := h.ok i a q hin e
    have eg : goalOf dr gs ((i : Int), (a : Int)) = q := by unfold goalOf; simp only [Int.toNat_natCast, e]
    rw [eg]
    obtain ⟨j, hj⟩ := Int.eq_ofNat_of_zero_le q0
    obtain ⟨b, hb⟩ := Int.eq_ofNat_of_zero_le q2
    have eq : q = ((j : Int), (b : Int)) := Prod.ext hj hb
    subst eq
    have := (inv_get h (i := j) (a := b) (p := ((i : Int), (a : Int))) (by omega)).mpr ⟨i, a, hin, e, rfl⟩
    unfold goalOf
    simp only [Int.toNat_natCast, this]
  | none =>
    have hl := List.getElem?_eq_none_iff.mp e
    have hnn := h.nn i hin
    have eg : goalOf dr gs ((i : Int), (a : Int)) = ((i : Int), (a : Int) + dlt dr i) := by unfold goalOf; simp only [Int.toNat_natCast, e]
    rw [eg]
    have en : (row (invG dr gs) i)[((a : Int) + dlt dr i).toNat]? = none := by
      rw [invG_row (by rw [h.len]; exact hin)]
      refine List.getElem?_eq_none_iff.mpr ?_
      rw [invR_len]
      omega
    unfold goalOf
    simp only [Int.toNat_natCast, en, neg_dlt]
    refine Prod.ext rfl ?_
    show (a : Int) + dlt dr i + - dlt dr i = a
    omega
theorem Bij.goal_inv {dr : List Int} {gs : List (List Pl)} (h : Bij dr gs) {p : Pl} (hp : IsPl dr.length p) : goalOf dr gs (goalOf (neg dr) (invG dr gs) p) = p := by
  obtain ⟨h0, h1, h2⟩ := hp
  obtain ⟨i, hi⟩ := Int.eq_ofNat_of_zero_le h0
  obtain ⟨a, ha⟩ := Int.eq_ofNat_of_zero_le h2
  have hin : i < dr.length := by omega
  have ep : p = ((i : Int), (a : Int)) := Prod.ext hi ha
  subst ep
  cases e : (row (invG dr gs) i)[a]? with
  | some q =>
    obtain ⟨j, b, hj, hq, rfl⟩ := (inv_get h hin).mp e
    have eg : goalOf (neg dr) (invG dr gs) ((i : Int), (a : Int)) = ((j : Int), (b : Int)) := by unfold goalOf; simp only [Int.toNat_natCast, e]
    rw [eg]
    unfold goalOf
    simp only [Int.toNat_natCast, hq]
  | none =>
    have hl := List.getElem?_eq_none_iff.mp e
    rw [invG_row (by rw [h.len]; exact hin), invR_len] at hl
    have hnn := h.nn i hin
    have eg : goalOf (neg dr) (invG dr gs) ((i : Int), (a : Int)) = ((i : Int), (a : Int) - dlt dr i) := by
      unfold goalOf; simp only [Int.toNat_natCast, e, neg_dlt]; rfl
    rw [eg]
    have en : (row gs i)[((a : Int) - dlt dr i).toNat]? = none := List.getElem?_eq_none_iff.mpr (by omega)
    unfold goalOf
    simp only [Int.toNat_natCast, en]
    refine Prod.ext rfl ?_
    show (a : Int) - dlt dr i + dlt dr i = a
    omega
end FL

namespace FL
open PySem PySem.Spec PyProof.Rows L2 TL
/-! ### roads and cycles of a table -/
theorem least_nat {P : Nat → Prop} : ∀ n, P n → ∃ m, P m ∧ m ≤ n ∧ ∀ k, k < m → ¬ P k
  | n, h => by
    by_cases e : ∃ k, k < n ∧ P k
    · obtain ⟨k, hk, pk⟩ := e
      obtain ⟨m, a, b, c⟩ := least_nat k pk
      exact ⟨m, a, by omega, c⟩
    · exact ⟨n, h, Nat.le_refl _, fun k hk pk => e ⟨k, hk, pk⟩⟩
termination_by n => n
theorem seq_rep {g : Nat → Pl} {m : List Pl} {N : Nat} (h : ∀ i, i ≤ N → g i ∈ m) (hN : m.length ≤ N) : ∃ i j, i < j ∧ j ≤ N ∧ g i = g j := by
  apply Classical.byContradiction
  intro hc
  have hd : ((List.range (N + 1)).map g).Nodup := by
    unfold List.Nodup
    rw [List.pairwise_map]
    refine List.Pairwise.imp_of_mem ?_ (List.pairwise_lt_range)
    intro a b ha hb hab e
    have := List.mem_range.mp hb
    exact hc ⟨a, b, hab, by omega, e⟩
  have := hd.length_le_of_subset (l₂ := m) (by
    intro x hx
    obtain ⟨i, hi, rfl⟩ := List.mem_map.mp hx
    have := List.mem_range.mp hi
    exact h i (by omega))
  simp at this
  omega
def it (dr : List Int) (gs : List (List Pl)) : Nat → Pl → Pl
  | 0, p => p
  | n + 1, p => goalOf dr gs (it dr gs n p)
def Inn (gs : List (List Pl)) (p : Pl) : Prop := (0 ≤ p.1 ∧ p.1 < gs.length) ∧ 0 ≤ p.2 ∧ p.2 < ((row gs p.1.toNat).length : Int)
def outB (dr : List Int) (gs : List (List Pl)) (p : Pl) : Bool := decide (0 < dlt dr p.1.toNat) && decide (((row gs p.1.toNat).length : Int) ≤ p.2)
def Ent (dr : List Int) (gs : List (List Pl)) (p : Pl) : Prop := IsPl dr.length p ∧ ((row gs p.1.toNat).length : Int) ≤ p.2 ∧ p.2 < ((row gs p.1.toNat).length : Int) - dlt dr p.1.toNat
section
variable {dr : List Int} {gs : List (List Pl)}
theorem it_add (m n : Nat) (p : Pl) : it dr gs (m + n) p = it dr gs m (it dr gs n p) := by
  induction m with
  | zero => rw [Nat.zero_add]; rfl
  | succ m ih => rw [Nat.succ_add]; show goalOf dr gs _ = goalOf dr gs _; rw [ih]
theorem it_s (n : Nat) (p : Pl) : it dr gs (n + 1) p = it dr gs n (goalOf dr gs p) := it_add n 1 p
theorem it_1 (p : Pl) : it dr gs 1 p = goalOf dr gs p := rfl
theorem Bij.it_pl (h : Bij dr gs) {p : Pl} (hp : IsPl dr.length p) : ∀ n, IsPl dr.length (it dr gs n p)
  | 0 => hp
  | n + 1 => h.goal_pl (h.it_pl hp n)
theorem Bij.goal_inj (h : Bij dr gs) {p q : Pl} (hp : IsPl dr.length p) (hq : IsPl dr.length q) (e : goalOf dr gs p = goalOf dr gs q) : p = q := by
  rw [← h.inv_goal hp, e, h.inv_goal hq]
theorem Bij.it_inj (h : Bij dr gs) : ∀ (n : Nat) {p q : Pl}, IsPl dr.length p → IsPl dr.length q → it dr gs n p = it dr gs n q → p = q
  | 0, _, _, _, _, e => e
  | n + 1, p, q, hp, hq, e => h.it_inj n hp hq (h.goal_inj (h.it_pl hp n) (h.it_pl hq n) e)
theorem Inn.pl (h : Bij dr gs) {p : Pl} (hp : Inn gs p) : IsPl dr.length p := ⟨hp.1.1, by have := hp.1.2; rw [h.len] at this; exact this, hp.2.1⟩
theorem goal_far {p : Pl} (h : ((row gs p.1.toNat).length : Int) ≤ p.2) : goalOf dr gs p = (p.1, p.2 + dlt dr p.1.toNat) := by
  unfold goalOf
  rw [List.getElem?_eq_none_iff.mpr (by omega)]
theorem Inn.next (h : Bij dr gs) {p : Pl} (hp : Inn gs p) : Inn gs (goalOf dr gs p) ∨ (outB dr gs (goalOf dr gs p) = true ∧ (goalOf dr gs p).2 < ((row gs (goalOf dr gs p).1.toNat).length : Int) + dlt dr (goalOf dr gs p).1.toNat) := by
  obtain ⟨⟨h0, h1⟩, h2, h3⟩ := hp
  have hl := h.len
  have hlt : p.2.toNat < (row gs p.1.toNat).length := by omega
  have e : (row gs p.1.toNat)[p.2.toNat]? = some (row gs p.1.toNat)[p.2.toNat] := List.getElem?_eq_getElem hlt
  have eg : goalOf dr gs p = (row gs p.1.toNat)[p.2.toNat] := by unfold goalOf; rw [e]
  obtain ⟨q0, q1, q2, q3⟩ := h.ok p.1.toNat p.2.toNat _ (by omega) e
  rw [eg]
  generalize (row gs p.1.toNat)[p.2.toNat] = q at q0 q1 q2 q3
  by_cases hi : q.2 < ((row gs q.1.toNat).length : Int)
  · exact .inl ⟨⟨q0, by rw [hl]; exact q1⟩, q2, hi⟩
  · refine .inr ⟨?_, q3⟩
    unfold outB
    rw [decide_eq_true (by omega), decide_eq_true (by omega)]
    rfl
theorem out_not_inn {p : Pl} (h : outB dr gs p = true) : ¬ Inn gs p := by
  intro hp
  have h2 := hp.2.2
  unfold outB at h
  simp only [Bool.and_eq_true, decide_eq_true_eq] at h
  omega
theorem Inn.not_out {p : Pl} (h : Inn gs p) : outB dr gs p = false := by
  cases e : outB dr gs p with
  | false => rfl
  | true => exact absurd h (out_not_inn e)
theorem Ent.not_inn {p : Pl} (h : Ent dr gs p) : ¬ Inn gs p := by
  intro hp
  have h2 := hp.2.2
  have := h.2.1
  omega
theorem Ent.next (h : Bij dr gs) {p : Pl} (hp : Ent dr gs p) : Inn gs (goalOf dr gs p) := by
  obtain ⟨⟨h0, h1, h2⟩, h3, h4⟩ := hp
  rw [goal_far h3]
  have hl := h.len
  have hn := h.nn p.1.toNat (by omega)
  exact ⟨⟨h0, by rw [hl]; exact h1⟩, by show 0 ≤ p.2 + _; omega, by show p.2 + dlt dr p.1.toNat < ((row gs p.1.toNat).length : Int); omega⟩
/-! #### the inner places -/
def inns (gs : List (List Pl)) : List Pl := (List.range gs.length).flatMap fun (i : Nat) => (List.range (row gs i).length).map fun (a : Nat) => ((i : Int), (a : Int))
theorem mem_inns {p : Pl} : p ∈ inns gs ↔ Inn gs p := by
  unfold inns
  rw [List.mem_flatMap]
  constructor
  · rintro ⟨i, hi, hp⟩
    obtain ⟨a, ha, rfl⟩ := List.mem_map.mp hp
    have h1 := List.mem_range.mp hi
    have h2 := List.mem_range.mp ha
    exact ⟨⟨by show (0 : Int) ≤ i; omega, by show (i : Int) < _; omega⟩, by show (0 : Int) ≤ a; omega, by show (a : Int) < _; simp only [Int.toNat_natCast]; omega⟩
  · rintro ⟨⟨h0, h1⟩, h2, h3⟩
    refine ⟨p.1.toNat, List.mem_range.mpr (by omega), List.mem_map.mpr ⟨p.2.toNat, List.mem_range.mpr (by omega), ?_⟩⟩
    refine Prod.ext ?_ ?_
    · show ((p.1.toNat : Nat) : Int) = p.1; omega
    · show ((p.2.toNat : Nat) : Int) = p.2; omega
theorem inns_len (gs : List (List Pl)) : (inns gs).length = (gs.map List.length).sum := by
  unfold inns
  rw [List.length_flatMap, map_len_range]
  simp
/-! #### roads -/
theorem Ent.ends (h : Bij dr gs) {e : Pl} (he : Ent dr gs e) : ∃ j, 1 ≤ j ∧ j ≤ 2001 ∧ outB dr gs (it dr gs j e) = true ∧ ∀ i, 1 ≤ i → i < j → Inn gs (it dr gs i e) := by
  have hpl := he.1
  by_cases ha : ∀ i, i ≤ 2000 → Inn gs (it dr gs (i + 1) e)
  · obtain ⟨i, j, hij, hj, eq⟩ := seq_rep (g := fun i => it dr gs (i + 1) e) (m := inns gs) (N := 2000) (fun i hi => mem_inns.mpr (ha i hi)) (by rw [inns_len]; exact h.tot)
    have e1 : it dr gs (j + 1) e = it dr gs (i + 1) (it dr gs (j - i) e) := by rw [← it_add]; congr 1; omega
    have e2 := h.it_inj (i + 1) hpl (h.it_pl hpl _) (eq.trans e1)
    obtain ⟨k, hk⟩ : ∃ k, j - i = k + 1 := ⟨j - i - 1, by omega⟩
    have := ha k (by omega)
    rw [← hk, ← e2] at this
    exact absurd this he.not_inn
  · have : ∃ i, i ≤ 2000 ∧ ¬ Inn gs (it dr gs (i + 1) e) := Classical.byContradiction fun hc => ha fun i hi => Classical.byContradiction fun hn => hc ⟨i, hi, hn⟩
    obtain ⟨i, hi, hn⟩ := this
    obtain ⟨m, h1, h2, h3⟩ := least_nat (P := fun i => ¬ Inn gs (it dr gs (i + 1) e)) i hn
    have h3' : ∀ k, k < m → Inn gs (it dr gs (k + 1) e) := fun k hk => Classical.byContradiction fun hh => h3 k hk hh
    cases m with
    | zero => exact absurd (he.next h) h1
    | succ m =>
      have hin := h3' m (by omega)
      refine ⟨m + 2, by omega, by omega, ?_, fun k k1 k2 => ?_⟩
      · rcases hin.next h with q | q
        · exact absurd q h1
        · exact q.1
      · obtain ⟨k', rfl⟩ : ∃ k', k = k' + 1 := ⟨k - 1, by omega⟩
        exact h3' k' (by omega)
def stepsTo (q : Nat → Bool) : Nat := ((List.range 2002).find? fun j => decide (1 ≤ j) && q j).getD 0
theorem stepsTo_eq {q : Nat → Bool} {n : Nat} (h1 : 1 ≤ n) (h2 : n ≤ 2001) (hq : q n = true) (hl : ∀ i, 1 ≤ i → i < n → q i = false) : stepsTo q = n := by
  unfold stepsTo
  have : (List.range 2002).find? (fun j => decide (1 ≤ j) && q j) = some n := by
    rw [List.find?_range_eq_some]
    refine ⟨by simp [h1, hq], by simp; omega, fun j hj => ?_⟩
    by_cases e : 1 ≤ j
    · simp [hl j e hj]
    · simp [e]
  rw [this]; rfl
def roadN (dr : List Int) (gs : List (List Pl)) (e : Pl) : Nat := stepsTo fun j => outB dr gs (it dr gs j e)
def walkP (dr : List Int) (gs : List (List Pl)) (p : Pl) (n : Nat) : List Pl := (List.range n).map fun i => it dr gs i p
theorem walkP_s (p : Pl) (n : Nat) : walkP dr gs p (n + 1) = walkP dr gs p n ++ [it dr gs n p] := by simp [walkP, List.range_succ]
theorem walkP_len (p : Pl) (n : Nat) : (walkP dr gs p n).length = n := by simp [walkP]
theorem mem_walkP {p q : Pl} {n : Nat} : q ∈ walkP dr gs p n ↔ ∃ i, i < n ∧ it dr gs i p = q := by simp [walkP]
def road (dr : List Int) (gs : List (List Pl)) (e : Pl) : List Pl := walkP dr gs e (roadN dr gs e + 1)
theorem Ent.roadN (h : Bij dr gs) {e : Pl} (he : Ent dr gs e) : 1 ≤ roadN dr gs e ∧ roadN dr gs e ≤ 2001 ∧ outB dr gs (it dr gs (roadN dr gs e) e) = true ∧ ∀ i, 1 ≤ i → i < roadN dr gs e → Inn gs (it dr gs i e) := by
  obtain ⟨j, h1, h2, h3, h4⟩ := he.ends h
  have : FL.roadN dr gs e = j := stepsTo_eq h1 h2 h3 fun i a b => (h4 i a b).not_out
  rw [this]
  exact ⟨h1, h2, h3, h4⟩
def OnRoad (dr : List Int) (gs : List (List Pl)) (p : Pl) : Prop := ∃ e, Ent dr gs e ∧ p ∈ road dr gs e
theorem on_road_of (h : Bij dr gs) {e : Pl} (he : Ent dr gs e) {i : Nat} (hi : ∀ k, 1 ≤ k → k ≤ i → Inn gs (it dr gs k e)) : it dr gs i e ∈ road dr gs e := by
  obtain ⟨h1, h2, h3, h4⟩ := he.roadN h
  refine mem_walkP.mpr ⟨i, ?_, rfl⟩
  by_cases hlt : i < FL.roadN dr gs e + 1
  · exact hlt
  · exact absurd (hi _ h1 (by omega)) (out_not_inn h3)
/-! #### cycles -/
theorem Inn.back (h : Bij dr gs) (hs : dr.sum = 0) {p : Pl} (hp : Inn gs p) (hr : ¬ OnRoad dr gs p) : ∃ n, 1 ≤ n ∧ n ≤ 2000 ∧ it dr gs n p = p ∧ (∀ i, 1 ≤ i → i < n → it dr gs i p ≠ p) ∧ ∀ i, i < n → Inn gs (it dr gs i p) := by
  let b : Nat → Pl := fun i => it (neg dr) (invG dr gs) i p
  have hb := h.inv hs
  have nl : (neg dr).length = dr.length := by simp [neg]
  have hpl := Inn.pl h hp
  have bpl : ∀ i, IsPl dr.length (b i) := fun i => by
    have := hb.it_pl (p := p) (by rw [nl]; exact hpl) i
    rw [nl] at this
    exact this
  have fb : ∀ i, goalOf dr gs (b (i + 1)) = b i := fun i => h.goal_inv (bpl i)
  have fbn : ∀ k i, it dr gs k (b (i + k)) = b i := by
    intro k
    induction k with
    | zero => intro i; rfl
    | succ k ih =>
      intro i
      rw [it_s]
      have : i + (k + 1) = (i + k) + 1 := rfl
      rw [this, fb]
      exact ih i
  have b0 : b 0 = p := rfl
  by_cases ha : ∀ i, i ≤ 2000 → Inn gs (b i)
  · obtain ⟨i, j, hij, hj, eq⟩ := seq_rep (g := b) (m := inns gs) (N := 2000) (fun i hi => mem_inns.mpr (ha i hi)) (by rw [inns_len]; exact h.tot)
    have e1 : it dr gs j (b j) = p := by have := fbn j 0; rw [Nat.zero_add] at this; exact this
    have e2 : it dr gs j (b i) = it dr gs (j - i) p := by
      have : it dr gs i (b i) = p := by have := fbn i 0; rw [Nat.zero_add] at this; exact this
      have hji : j = (j - i) + i := by omega
      rw [hji, it_add, Nat.add_sub_cancel, this]
    have e3 : it dr gs (j - i) p = p := by rw [← e2, eq, e1]
    obtain ⟨n, ⟨n1, n2⟩, n3, n4⟩ := least_nat (P := fun n => 1 ≤ n ∧ it dr gs n p = p) (j - i) ⟨by omega, e3⟩
    refine ⟨n, n1, by omega, n2, fun k k1 k2 ke => n4 k k2 ⟨k1, ke⟩, fun k hk => ?_⟩
    have e4 : it dr gs (n - k) (it dr gs k p) = it dr gs (n - k) (b (n - k)) := by
      rw [← it_add, show n - k + k = n by omega, n2]
      have := fbn (n - k) 0
      rw [Nat.zero_add] at this
      exact this.symm
    have e5 := h.it_inj (n - k) (h.it_pl hpl k) (bpl _) e4
    rw [e5]
    exact ha _ (by omega)
  · have : ∃ i, i ≤ 2000 ∧ ¬ Inn gs (b i) := Classical.byContradiction fun hc => ha fun i hi => Classical.byContradiction fun hn => hc ⟨i, hi, hn⟩
    obtain ⟨i, hi, hn⟩ := this
    obtain ⟨m, h1, h2, h3⟩ := least_nat (P := fun i => ¬ Inn gs (b i)) i hn
    have h3' : ∀ k, k < m → Inn gs (b k) := fun k hk => Classical.byContradiction fun hh => h3 k hk hh
    cases m with
    | zero => exact absurd hp h1
    | succ m =>
      have hin := h3' m (by omega)
      have hq := bpl (m + 1)
      have hl := h.len
      have hfar : ((row gs (b (m + 1)).1.toNat).length : Int) ≤ (b (m + 1)).2 := by
        apply Classical.byContradiction
        intro hc
        exact h1 ⟨⟨hq.1, by rw [hl]; exact hq.2.1⟩, hq.2.2, by omega⟩
      have he : Ent dr gs (b (m + 1)) := by
        refine ⟨hq, hfar, ?_⟩
        have e := fb m
        rw [goal_far hfar] at e
        have h4 := hin.2.2
        rw [← e] at h4
        dsimp only at h4
        omega
      refine absurd ⟨b (m + 1), he, ?_⟩ hr
      have e6 : p = it dr gs (m + 1) (b (m + 1)) := by have := fbn (m + 1) 0; rw [Nat.zero_add] at this; exact this.symm
      have := on_road_of h he (i := m + 1) fun k k1 k2 => by
        have := fbn k (m + 1 - k)
        rw [show m + 1 - k + k = m + 1 by omega] at this
        rw [this]
        exact h3' _ (by omega)
      rw [← e6] at this
      exact this
def cycN (dr : List Int) (gs : List (List Pl)) (p : Pl) : Nat := stepsTo fun j => it dr gs j p == p
def cyc (dr : List Int) (gs : List (List Pl)) (p : Pl) : List Pl := walkP dr gs p (cycN dr gs p)
theorem Inn.cycN (h : Bij dr gs) (hs : dr.sum = 0) {p : Pl} (hp : Inn gs p) (hr : ¬ OnRoad dr gs p) : 1 ≤ cycN dr gs p ∧ cycN dr gs p ≤ 2000 ∧ it dr gs (cycN dr gs p) p = p ∧ (∀ i, 1 ≤ i → i < cycN dr gs p → it dr gs i p ≠ p) ∧ ∀ i, i < cycN dr gs p → Inn gs (it dr gs i p) := by
  obtain ⟨n, h1, h2, h3, h4, h5⟩ := hp.back h hs hr
  have : FL.cycN dr gs p = n := stepsTo_eq h1 (by omega) (by simp [h3]) fun i a b => by simp [h4 i a b]
  rw [this]
  exact ⟨h1, h2, h3, h4, h5⟩
end
end FL

namespace FL
open PySem PySem.Spec PyProof.Rows L2 TL
abbrev drD (dr : List Int) : D := .box .lst (dr.map D.int)
abbrev drT (dr : List Int) : D := .tup (dr.map D.int)
def rowL (r : List Pl) : D := .box .lst (r.map plD)
def rowT (r : List Pl) : D := .tup (r.map plD)
abbrev gsL (gs : List (List Pl)) : D := .box .lst (gs.map rowL)
abbrev gsT (gs : List (List Pl)) : D := .tup (gs.map rowT)
theorem cmp_pp (a b c d : Int) : Cmp2 (.tup [.int a, .int b]) (.tup [.int c, .int d]) = True := by simp [Cmp2, SeqAt.shaped, D.py, D.pys, PyData.canLay0, PyData.canLayAll0, PyData.depth, PyData.depthAll]
theorem eqv_pp (a b c d : Int) : PyData.eqv (D.tup [.int a, .int b]).py (D.tup [.int c, .int d]).py = (decide (a = c) && decide (b = d)) := by
  simp [D.py, D.pys, PyData.eqv, PyData.eqvAll]
  rfl
theorem enum_get {α : Type} {F : α → D} {xs : List α} {i : Nat} {d : D} (h : (pairsE 0 (xs.map F))[i]? = some d) : ∃ x, xs[i]? = some x ∧ d = .tup [.int (i : Nat), F x] := by
  rw [pairsE_get, List.getElem?_map, Nat.zero_add] at h
  cases e : xs[i]? with
  | none => rw [e] at h; simp at h
  | some x => rw [e] at h; exact ⟨x, rfl, (Option.some.inj h).symm⟩
/-! ### small defs -/
def cIsPlace : Con := fun args k _ => match args with
  | [.fr (.tup [.int i, .int a]), .fr (.int n)] => ∀ l m, k (.fr (.bl (decide (0 ≤ i ∧ i < n ∧ 0 ≤ a)))) [l, m]
  | _ => False
theorem v_is_place : ∀ ls kk kx, cIsPlace ls kk kx → t_is_place (endsOf [] ls kk) (entry [] 4 ls) := by
  intro ls kk kx h
  unfold cIsPlace at h
  split at h
  · rename_i i a n
    simp (maxSteps := 4000000) (implicitDefEqProofs := false) only [RB, r_popAt, entry, entryL, outs, slotL, knownTy, isB, D.tyn, D.isNon, D.flat, D.feq, D.scalar, decide_true, decide_false, reduceIte, reduceCtorEq, Nat.reduceAdd, Nat.reduceSub, Nat.reduceMul, Nat.reduceLeDiff, Nat.reduceEqDiff, Nat.reducePow, Nat.reduceLT, Int.reduceLE, Int.reduceLT, Int.reduceNe, Int.reduceEq, Int.reduceAdd, Int.reduceSub, Int.reduceMul, Int.reduceNeg, Int.reduceToNat, Int.reducePow, String.reduceEq, String.reduceBEq, String.reduceBNe, Int.reduceFMod, Int.reduceFDiv, Int.reduceNegSucc, Int.reduceAbs, t_is_place]
    by_cases h1 : 0 ≤ i <;> by_cases h2 : i < n <;> by_cases h3 : 0 ≤ a <;> simp [h1, h2, h3] at h ⊢ <;> exact h _ _
  · exact h.elim
def cNeedPlace : Con := fun args k _ => match args with
  | [.fr (.tup [.int i, .int a]), .fr (.int n)] => (0 ≤ i ∧ i < n ∧ 0 ≤ a) ∧ ∀ l m, k (.fr .non) [l, m]
  | _ => False
theorem v_need_place : ∀ ls kk kx, cNeedPlace ls kk kx → t_need_place cIsPlace (endsOf [] ls kk) (entry [] 2 ls) := by
  intro ls kk kx h
  unfold cNeedPlace at h
  split at h
  · rename_i i a n
    simp (maxSteps := 4000000) (implicitDefEqProofs := false) only [RB, r_popAt, entry, entryL, outs, slotL, knownTy, isB, D.tyn, D.isNon, D.flat, D.feq, D.scalar, decide_true, decide_false, reduceIte, reduceCtorEq, Nat.reduceAdd, Nat.reduceSub, Nat.reduceMul, Nat.reduceLeDiff, Nat.reduceEqDiff, Nat.reducePow, Nat.reduceLT, Int.reduceLE, Int.reduceLT, Int.reduceNe, Int.reduceEq, Int.reduceAdd, Int.reduceSub, Int.reduceMul, Int.reduceNeg, Int.reduceToNat, Int.reducePow, String.reduceEq, String.reduceBEq, String.reduceBNe, Int.reduceFMod, Int.reduceFDiv, Int.reduceNegSucc, Int.reduceAbs, t_need_place, cIsPlace]
    intro l m
    rw [if_neg (by simp [h.1])]
    exact h.2 _ _
  · exact h.elim
def cNeedLanes : Con := fun args k _ => match args with
  | [.fr (.int n)] => (1 ≤ n ∧ n ≤ 6) ∧ ∀ l, k (.fr .non) [l]
  | _ => False
theorem v_need_lanes : ∀ ls kk kx, cNeedLanes ls kk kx → t_need_lanes (endsOf [] ls kk) (entry [] 1 ls) := by
  intro ls kk kx h
  unfold cNeedLanes at h
  split at h
  · rename_i n
    simp (maxSteps := 4000000) (implicitDefEqProofs := false) only [RB, r_popAt, entry, entryL, outs, slotL, knownTy, isB, D.tyn, D.isNon, D.flat, D.feq, D.scalar, decide_true, decide_false, reduceIte, reduceCtorEq, Nat.reduceAdd, Nat.reduceSub, Nat.reduceMul, Nat.reduceLeDiff, Nat.reduceEqDiff, Nat.reducePow, Nat.reduceLT, Int.reduceLE, Int.reduceLT, Int.reduceNe, Int.reduceEq, Int.reduceAdd, Int.reduceSub, Int.reduceMul, Int.reduceNeg, Int.reduceToNat, Int.reducePow, String.reduceEq, String.reduceBEq, String.reduceBNe, Int.reduceFMod, Int.reduceFDiv, Int.reduceNegSucc, Int.reduceAbs, t_need_lanes]
    rw [if_pos h.1.1, if_neg (by omega)]
    exact h.2 _
  · exact h.elim
def cNeedLane : Con := fun args k _ => match args with
  | [.fr (.int i), .fr (.int n)] => (0 ≤ i ∧ i < n) ∧ ∀ l m, k (.fr .non) [l, m]
  | _ => False
/-! ### least_goals -/
def Dform (d : D) (dr : List Int) : Prop := d = drD dr ∨ d = drT dr
def Gform (g : D) (gs : List (List Pl)) : Prop := g = gsL gs ∨ g = gsT gs
def cLeast : Con := fun args k _ => ∃ dr gs d g, Dform d dr ∧ Gform g gs ∧ args = [.fr d, .fr g] ∧ gs.length = dr.length ∧ dr.length ≤ 6 ∧ (∀ i, (row gs i).length ≤ 5000) ∧ ∀ l m, k (.fr (gsT (least dr gs))) [l, m]
def lacc (dr : List Int) (gs : List (List Pl)) (i : Nat) : List D := (List.range i).map fun j => rowT (leastR dr gs j)
theorem lacc_s (dr : List Int) (gs : List (List Pl)) (i : Nat) : lacc dr gs (i + 1) = lacc dr gs i ++ [rowT (leastR dr gs i)] := by simp [lacc, List.range_succ]
theorem lacc_all (dr : List Int) (gs : List (List Pl)) : lacc dr gs gs.length = (least dr gs).map rowT := by simp [lacc, least, Function.comp_def]
theorem lacc_len (dr : List Int) (gs : List (List Pl)) (i : Nat) : (lacc dr gs i).length = i := by simp [lacc]
theorem cut_take (r : List Pl) (n : Nat) (h : n ≤ r.length) : TL.cutD (r.map plD) none (some (n : Int)) = (r.take n).map plD := by
  unfold TL.cutD
  rw [HT.sIx_none, HT.sIx_nat, List.length_map, Nat.min_eq_left h]
  simp [List.map_take]
theorem v_least : ∀ ls kk kx, cLeast ls kk kx → t_least_goals (endsOf [] ls kk) (entry [] 6 ls) := by
  rintro _ kk kx ⟨dr, gs, d, g, hd, hg, rfl, hl, h6, hr, h⟩
  rcases hd with rfl | rfl <;> rcases hg with rfl | rfl
  all_goals
    simp (maxSteps := 4000000) (implicitDefEqProofs := false) only [RB, r_popAt, entry, entryL, outs, slotL, knownTy, isB, D.tyn, D.isNon, D.flat, D.feq, D.scalar, decide_true, decide_false, reduceIte, reduceCtorEq, Nat.reduceAdd, Nat.reduceSub, Nat.reduceMul, Nat.reduceLeDiff, Nat.reduceEqDiff, Nat.reducePow, Nat.reduceLT, Int.reduceLE, Int.reduceLT, Int.reduceNe, Int.reduceEq, Int.reduceAdd, Int.reduceSub, Int.reduceMul, Int.reduceNeg, Int.reduceToNat, Int.reducePow, String.reduceEq, String.reduceBEq, String.reduceBNe, Int.reduceFMod, Int.reduceFDiv, Int.reduceNegSucc, Int.reduceAbs, t_least_goals]
    refine forD_ix' (I := fun i e => ∃ o3 o4 o5, e = [_, _, some (.box .lst ((lacc dr gs i).map L.fr)), o3, o4, o5]) ⟨_, _, _, rfl⟩ ?_ ?_
    · rintro i d env hd ⟨o3, o4, o5, rfl⟩ N hN
      obtain ⟨r, hr1, rfl⟩ := enum_get hd
      have hi : i < gs.length := (List.getElem?_eq_some_iff.mp hr1).1
      rw [getD_row hi] at hr1
      have er := Option.some.inj hr1
      subst er
      have hri := hr i
      simp (maxSteps := 4000000) (implicitDefEqProofs := false) only [RB, r_popAt, entry, entryL, outs, slotL, knownTy, isB, D.tyn, D.isNon, D.flat, D.feq, D.scalar, decide_true, decide_false, reduceIte, reduceCtorEq, Nat.reduceAdd, Nat.reduceSub, Nat.reduceMul, Nat.reduceLeDiff, Nat.reduceEqDiff, Nat.reducePow, Nat.reduceLT, Int.reduceLE, Int.reduceLT, Int.reduceNe, Int.reduceEq, Int.reduceAdd, Int.reduceSub, Int.reduceMul, Int.reduceNeg, Int.reduceToNat, Int.reducePow, String.reduceEq, String.reduceBEq, String.reduceBNe, Int.reduceFMod, Int.reduceFDiv, Int.reduceNegSucc, Int.reduceAbs, t_least_goals_b2, rowL, rowT]
      refine while_ix' (m := (row gs i).length) (I := fun m e => m ≤ (row gs i).length ∧ trim i (dlt dr i) (row gs i) (row gs i).length = trim i (dlt dr i) (row gs i) m ∧ e = [_, _, some (.box .lst ((lacc dr gs i).map L.fr)), some (.fr (.int i)), _, some (.fr (.int m))]) ⟨Nat.le_refl _, rfl, rfl⟩ ?_
      rintro m env ⟨hm, ht, rfl⟩ N' hN'
      simp (maxSteps := 4000000) (implicitDefEqProofs := false) only [RB, r_popAt, entry, entryL, outs, slotL, knownTy, isB, D.tyn, D.isNon, D.flat, D.feq, D.scalar, decide_true, decide_false, reduceIte, reduceCtorEq, Nat.reduceAdd, Nat.reduceSub, Nat.reduceMul, Nat.reduceLeDiff, Nat.reduceEqDiff, Nat.reducePow, Nat.reduceLT, Int.reduceLE, Int.reduceLT, Int.reduceNe, Int.reduceEq, Int.reduceAdd, Int.reduceSub, Int.reduceMul, Int.reduceNeg, Int.reduceToNat, Int.reducePow, String.reduceEq, String.reduceBEq, String.reduceBNe, Int.reduceFMod, Int.reduceFDiv, Int.reduceNegSucc, Int.reduceAbs]
      have fin : ∀ o3 o4 o5, N [_, _, some (.box .lst ((lacc dr gs i).map L.fr ++ [.fr (rowT (leastR dr gs i))])), o3, o4, o5] := fun o3 o4 o5 => by
        have f := hN _ ⟨o3, o4, o5, rfl⟩
        rw [lacc_s, List.map_append] at f
        exact f
      have elast : trim i (dlt dr i) (row gs i) m = m → rowT ((row gs i).take m) = rowT (leastR dr gs i) := fun z => by unfold leastR; rw [ht, z]
      split
      · rename_i hpos
        cases m with
        | zero => simp at hpos
        | succ m =>
          have hlt : m < (row gs i).length := by omega
          have em : ((m + 1 : Nat) : Int) - 1 = (m : Int) := by omega
          rw [em]
          refine atK_get (d := plD ((row gs i)[m])) (by simp [hlt]) (by omega) ?_
          simp (maxSteps := 4000000) (implicitDefEqProofs := false) only [RB, r_popAt, entry, entryL, outs, slotL, knownTy, isB, D.tyn, D.isNon, D.flat, D.feq, D.scalar, decide_true, decide_false, reduceIte, reduceCtorEq, Nat.reduceAdd, Nat.reduceSub, Nat.reduceMul, Nat.reduceLeDiff, Nat.reduceEqDiff, Nat.reducePow, Nat.reduceLT, Int.reduceLE, Int.reduceLT, Int.reduceNe, Int.reduceEq, Int.reduceAdd, Int.reduceSub, Int.reduceMul, Int.reduceNeg, Int.reduceToNat, Int.reducePow, String.reduceEq, String.reduceBEq, String.reduceBNe, Int.reduceFMod, Int.reduceFDiv, Int.reduceNegSucc, Int.reduceAbs, plD]
          rw [em]
          refine atK_get (d := .int (dlt dr i)) (by simp [getD_dlt (show i < dr.length by omega)]) (by omega) ?_
          simp (maxSteps := 4000000) (implicitDefEqProofs := false) only [RB, r_popAt, entry, entryL, outs, slotL, knownTy, isB, D.tyn, D.isNon, D.flat, D.feq, D.scalar, decide_true, decide_false, reduceIte, reduceCtorEq, Nat.reduceAdd, Nat.reduceSub, Nat.reduceMul, Nat.reduceLeDiff, Nat.reduceEqDiff, Nat.reducePow, Nat.reduceLT, Int.reduceLE, Int.reduceLT, Int.reduceNe, Int.reduceEq, Int.reduceAdd, Int.reduceSub, Int.reduceMul, Int.reduceNeg, Int.reduceToNat, Int.reducePow, String.reduceEq, String.reduceBEq, String.reduceBNe, Int.reduceFMod, Int.reduceFDiv, Int.reduceNegSucc, Int.reduceAbs, cmp_pp, eqv_pp, em]
          by_cases hc : ((row gs i)[m]).1 = (i : Int) ∧ ((row gs i)[m]).2 = (m : Int) + dlt dr i
          · have ec : (row gs i)[m]? = some ((i : Int), (m : Int) + dlt dr i) := by
              rw [List.getElem?_eq_getElem hlt]
              exact congrArg some (Prod.ext hc.1 hc.2)
            rw [if_pos (by simp [hc.1, hc.2])]
            simp (maxSteps := 4000000) (implicitDefEqProofs := false) only [RB, r_popAt, entry, entryL, outs, slotL, knownTy, isB, D.tyn, D.isNon, D.flat, D.feq, D.scalar, decide_true, decide_false, reduceIte, reduceCtorEq, Nat.reduceAdd, Nat.reduceSub, Nat.reduceMul, Nat.reduceLeDiff, Nat.reduceEqDiff, Nat.reducePow, Nat.reduceLT, Int.reduceLE, Int.reduceLT, Int.reduceNe, Int.reduceEq, Int.reduceAdd, Int.reduceSub, Int.reduceMul, Int.reduceNeg, Int.reduceToNat, Int.reducePow, String.reduceEq, String.reduceBEq, String.reduceBNe, Int.reduceFMod, Int.reduceFDiv, Int.reduceNegSucc, Int.reduceAbs, t_least_goals_b1, em]
            refine hN' m _ (by omega) ⟨by omega, ?_, rfl⟩
            rw [ht]
            conv => lhs; unfold trim
            rw [if_pos ec]
          · have ec : (row gs i)[m]? ≠ some ((i : Int), (m : Int) + dlt dr i) := fun z => by
              rw [List.getElem?_eq_getElem hlt] at z
              have z := Option.some.inj z
              exact hc ⟨congrArg Prod.fst z, congrArg Prod.snd z⟩
            have tm : trim i (dlt dr i) (row gs i) (m + 1) = m + 1 := by unfold trim; rw [if_neg ec]
            rw [if_neg (by simpa using hc)]
            rw [cut_take _ _ hm]
            refine ⟨by rw [lacc_len]; omega, ?_⟩
            have et : D.tup (((row gs i).take (m + 1)).map plD) = rowT (leastR dr gs i) := elast tm
            rw [et]
            exact fin _ _ _
      · rename_i hpos
        have hm0 : m = 0 := by omega
        subst hm0
        simp (maxSteps := 4000000) (implicitDefEqProofs := false) only [RB, r_popAt, entry, entryL, outs, slotL, knownTy, isB, D.tyn, D.isNon, D.flat, D.feq, D.scalar, decide_true, decide_false, reduceIte, reduceCtorEq, Nat.reduceAdd, Nat.reduceSub, Nat.reduceMul, Nat.reduceLeDiff, Nat.reduceEqDiff, Nat.reducePow, Nat.reduceLT, Int.reduceLE, Int.reduceLT, Int.reduceNe, Int.reduceEq, Int.reduceAdd, Int.reduceSub, Int.reduceMul, Int.reduceNeg, Int.reduceToNat, Int.reducePow, String.reduceEq, String.reduceBEq, String.reduceBNe, Int.reduceFMod, Int.reduceFDiv, Int.reduceNegSucc, Int.reduceAbs]
        rw [show TL.cutD ((row gs i).map plD) none (some (0 : Int)) = ((row gs i).take 0).map plD from cut_take _ 0 (Nat.zero_le _)]
        refine ⟨by rw [lacc_len]; omega, ?_⟩
        have et : D.tup (((row gs i).take 0).map plD) = rowT (leastR dr gs i) := elast rfl
        rw [et]
        exact fin _ _ _
    · rintro e ⟨o3, o4, o5, rfl⟩
      rw [pairsE_len, List.length_map, lacc_all]
      simp (maxSteps := 4000000) (implicitDefEqProofs := false) only [RB, r_popAt, entry, entryL, outs, slotL, knownTy, isB, D.tyn, D.isNon, D.flat, D.feq, D.scalar, decide_true, decide_false, reduceIte, reduceCtorEq, Nat.reduceAdd, Nat.reduceSub, Nat.reduceMul, Nat.reduceLeDiff, Nat.reduceEqDiff, Nat.reducePow, Nat.reduceLT, Int.reduceLE, Int.reduceLT, Int.reduceNe, Int.reduceEq, Int.reduceAdd, Int.reduceSub, Int.reduceMul, Int.reduceNeg, Int.reduceToNat, Int.reducePow, String.reduceEq, String.reduceBEq, String.reduceBNe, Int.reduceFMod, Int.reduceFDiv, Int.reduceNegSucc, Int.reduceAbs]
      exact h _ _
/-! ### need_goals -/
def cNeedGoals : Con := fun args k _ => ∃ dr gs, Bij dr gs ∧ args = [.fr (drD dr), .fr (gsL gs)] ∧ ∀ l m, k (.fr .non) [l, m]
theorem v_need_goals : ∀ ls kk kx, cNeedGoals ls kk kx → t_need_goals cIsPlace (endsOf [] ls kk) (entry [] 6 ls) := by
  rintro _ kk kx ⟨dr, gs, hB, rfl, h⟩
  simp (maxSteps := 4000000) (implicitDefEqProofs := false) only [RB, r_popAt, entry, entryL, outs, slotL, knownTy, isB, D.tyn, D.isNon, D.flat, D.feq, D.scalar, decide_true, decide_false, reduceIte, reduceCtorEq, Nat.reduceAdd, Nat.reduceSub, Nat.reduceMul, Nat.reduceLeDiff, Nat.reduceEqDiff, Nat.reducePow, Nat.reduceLT, Int.reduceLE, Int.reduceLT, Int.reduceNe, Int.reduceEq, Int.reduceAdd, Int.reduceSub, Int.reduceMul, Int.reduceNeg, Int.reduceToNat, Int.reducePow, String.reduceEq, String.reduceBEq, String.reduceBNe, Int.reduceFMod, Int.reduceFDiv, Int.reduceNegSucc, Int.reduceAbs, t_need_goals]
  refine forD_ix' (I := fun i e => ∃ o2 o3 o4 o5, e = [_, _, o2, o3, o4, o5]) ⟨_, _, _, _, rfl⟩ ?_ ?_
  · rintro i d env hd ⟨o2, o3, o4, o5, rfl⟩ N hN
    obtain ⟨r, hr1, rfl⟩ := enum_get hd
    have hi : i < gs.length := (List.getElem?_eq_some_iff.mp hr1).1
    rw [getD_row hi] at hr1
    have er := Option.some.inj hr1
    subst er
    have hin : i < dr.length := by rw [← hB.len]; exact hi
    simp (maxSteps := 4000000) (implicitDefEqProofs := false) only [RB, r_popAt, entry, entryL, outs, slotL, knownTy, isB, D.tyn, D.isNon, D.flat, D.feq, D.scalar, decide_true, decide_false, reduceIte, reduceCtorEq, Nat.reduceAdd, Nat.reduceSub, Nat.reduceMul, Nat.reduceLeDiff, Nat.reduceEqDiff, Nat.reducePow, Nat.reduceLT, Int.reduceLE, Int.reduceLT, Int.reduceNe, Int.reduceEq, Int.reduceAdd, Int.reduceSub, Int.reduceMul, Int.reduceNeg, Int.reduceToNat, Int.reducePow, String.reduceEq, String.reduceBEq, String.reduceBNe, Int.reduceFMod, Int.reduceFDiv, Int.reduceNegSucc, Int.reduceAbs, t_need_goals_b2, rowL]
    refine forD_ix' (I := fun a e => ∃ o4 o5, e = [_, _, some (.fr (.int i)), some (.fr (.box .lst ((row gs i).map plD))), o4, o5]) ⟨_, _, rfl⟩ ?_ ?_
    · rintro a d env hd ⟨o4, o5, rfl⟩ N' hN'
      obtain ⟨p, hp, rfl⟩ := enum_get hd
      obtain ⟨q0, q1, q2, _⟩ := hB.ok i a p hin hp
      simp (maxSteps := 4000000) (implicitDefEqProofs := false) only [RB, r_popAt, entry, entryL, outs, slotL, knownTy, isB, D.tyn, D.isNon, D.flat, D.feq, D.scalar, decide_true, decide_false, reduceIte, reduceCtorEq, Nat.reduceAdd, Nat.reduceSub, Nat.reduceMul, Nat.reduceLeDiff, Nat.reduceEqDiff, Nat.reducePow, Nat.reduceLT, Int.reduceLE, Int.reduceLT, Int.reduceNe, Int.reduceEq, Int.reduceAdd, Int.reduceSub, Int.reduceMul, Int.reduceNeg, Int.reduceToNat, Int.reducePow, String.reduceEq, String.reduceBEq, String.reduceBNe, Int.reduceFMod, Int.reduceFDiv, Int.reduceNegSucc, Int.reduceAbs, t_need_goals_b1, plD, cIsPlace]
      intro _ _
      rw [if_neg (by simp; omega)]
      exact hN' _ ⟨_, _, rfl⟩
    · rintro e ⟨o4, o5, rfl⟩
      simp (maxSteps := 4000000) (implicitDefEqProofs := false) only [RB, r_popAt, entry, entryL, outs, slotL, knownTy, isB, D.tyn, D.isNon, D.flat, D.feq, D.scalar, decide_true, decide_false, reduceIte, reduceCtorEq, Nat.reduceAdd, Nat.reduceSub, Nat.reduceMul, Nat.reduceLeDiff, Nat.reduceEqDiff, Nat.reducePow, Nat.reduceLT, Int.reduceLE, Int.reduceLT, Int.reduceNe, Int.reduceEq, Int.reduceAdd, Int.reduceSub, Int.reduceMul, Int.reduceNeg, Int.reduceToNat, Int.reducePow, String.reduceEq, String.reduceBEq, String.reduceBNe, Int.reduceFMod, Int.reduceFDiv, Int.reduceNegSucc, Int.reduceAbs]
      refine atK_get (d := .int (dlt dr i)) (by simp [getD_dlt hin]) (by omega) ?_
      simp (maxSteps := 4000000) (implicitDefEqProofs := false) only [RB, r_popAt, entry, entryL, outs, slotL, knownTy, isB, D.tyn, D.isNon, D.flat, D.feq, D.scalar, decide_true, decide_false, reduceIte, reduceCtorEq, Nat.reduceAdd, Nat.reduceSub, Nat.reduceMul, Nat.reduceLeDiff, Nat.reduceEqDiff, Nat.reducePow, Nat.reduceLT, Int.reduceLE, Int.reduceLT, Int.reduceNe, Int.reduceEq, Int.reduceAdd, Int.reduceSub, Int.reduceMul, Int.reduceNeg, Int.reduceToNat, Int.reducePow, String.reduceEq, String.reduceBEq, String.reduceBNe, Int.reduceFMod, Int.reduceFDiv, Int.reduceNegSucc, Int.reduceAbs]
      have := hB.nn i hin
      rw [if_neg (by omega)]
      exact hN _ ⟨_, _, _, _, rfl⟩
  · rintro e ⟨o2, o3, o4, o5, rfl⟩
    simp (maxSteps := 4000000) (implicitDefEqProofs := false) only [RB, r_popAt, entry, entryL, outs, slotL, knownTy, isB, D.tyn, D.isNon, D.flat, D.feq, D.scalar, decide_true, decide_false, reduceIte, reduceCtorEq, Nat.reduceAdd, Nat.reduceSub, Nat.reduceMul, Nat.reduceLeDiff, Nat.reduceEqDiff, Nat.reducePow, Nat.reduceLT, Int.reduceLE, Int.reduceLT, Int.reduceNe, Int.reduceEq, Int.reduceAdd, Int.reduceSub, Int.reduceMul, Int.reduceNeg, Int.reduceToNat, Int.reducePow, String.reduceEq, String.reduceBEq, String.reduceBNe, Int.reduceFMod, Int.reduceFDiv, Int.reduceNegSucc, Int.reduceAbs]
    exact h _ _
/-! ### need_bijection -/
theorem look_put (ks : List (List Key)) (k k' : List Key) (d : D) : ∀ ds : List D, ks.length = ds.length → lookK (putDK ks k) (putDL ks k d ds) k' = if k = k' then some d else lookK ks ds k' := by
  intro ds hl
  have rep : ∀ (ks : List (List Key)) (ds : List D), ks.length = ds.length → memK k ks = true → lookK ks (replK k d ks ds) k' = if k = k' then some d else lookK ks ds k' := by
    intro ks
    induction ks with
    | nil => intro ds _ h; simp [memK] at h
    | cons k0 ks ih =>
      intro ds hl h
      cases ds with
      | nil => simp at hl
      | cons d0 ds =>
        simp only [replK, lookK]
        by_cases e : k0 = k
        · subst e
          by_cases e2 : k0 = k'
          · simp [e2]
          · rw [if_neg e2, if_neg e2, if_neg e2]
            by_cases hm : memK k0 ks = true
            · rw [ih ds (by simpa using hl) hm, if_neg e2]
            · have nr : ∀ (ks : List (List Key)) (ds : List D), ks.length = ds.length → ¬ memK k0 ks = true → replK k0 d ks ds = ds := by
                intro ks
                induction ks with
                | nil => intro ds hl _; cases ds with
                  | nil => rfl
                  | cons => simp at hl
                | cons k1 ks ih2 =>
                  intro ds hl hm
                  cases ds with
                  | nil => simp at hl
                  | cons d1 ds =>
                    have h1 : ¬ k1 = k0 := fun z => hm (by simp [memK, z])
                    have h2 : ¬ memK k0 ks = true := fun z => hm (by simp [memK, z])
                    simp only [replK]
                    rw [if_neg h1, ih2 ds (by simpa using hl) h2]
              rw [nr ks ds (by simpa using hl) hm]
        · have hm : memK k ks = true := by simpa [memK, e] using h
          by_cases e2 : k0 = k'
          · have e3 : ¬ k = k' := fun z => e (by rw [e2, z])
            rw [if_pos e2, if_neg e, if_neg e3, if_pos e2]
          · rw [if_neg e2, ih ds (by simpa using hl) hm, if_neg e2]
  have app : ∀ (ks : List (List Key)) (ds : List D), ks.length = ds.length → ¬ memK k ks = true → lookK (ks ++ [k]) (ds ++ [d]) k' = if k = k' then some d else lookK ks ds k' := by
    intro ks
    induction ks with
    | nil => intro ds hl _; cases ds with
      | nil => simp [lookK]
      | cons => simp at hl
    | cons k1 ks ih =>
      intro ds hl hm
      cases ds with
      | nil => simp at hl
      | cons d1 ds =>
        have h1 : ¬ k1 = k := fun z => hm (by simp [memK, z])
        have h2 : ¬ memK k ks = true := fun z => hm (by simp [memK, z])
        simp only [List.cons_append, lookK]
        rw [ih ds (by simpa using hl) h2]
        by_cases e : k1 = k'
        · have e3 : ¬ k = k' := fun z => h1 (by rw [e, z])
          rw [if_pos e, if_neg e3, if_pos e]
        · rw [if_neg e, if_neg e]
  unfold putDK putDL
  by_cases hm : memK k ks = true
  · rw [if_pos hm, if_pos hm]; exact rep ks ds hl hm
  · rw [if_neg hm, if_neg hm]; exact app ks ds hl hm
theorem mem_putDK {ks : List (List Key)} {k k' : List Key} (h : k' ∈ putDK ks k) : k' = k ∨ k' ∈ ks := by
  unfold putDK at h
  split at h
  · exact .inr h
  · rcases List.mem_append.mp h with h | h
    · exact .inr h
    · exact .inl (by simpa using h)
theorem putDL_le (ks : List (List Key)) (k : List Key) (d : D) (ds : List D) (h : ks.length = ds.length) : (putDL ks k d ds).length ≤ ds.length + 1 := by
  unfold putDL
  split
  · rw [replK_len _ _ _ _ h]; omega
  · simp
/-- what the counts hold: each place that was seen, once -/
structure Cnt (n : Nat) (S : Pl → Prop) (ks : List (List Key)) (ds : List D) : Prop where
  len : ks.length = ds.length
  le : ds.length ≤ n
  look : ∀ p, (S p → lookK ks ds (pk p) = some (.int 1)) ∧ (¬ S p → lookK ks ds (pk p) = none)
  keys : ∀ k ∈ ks, ∃ p, k = pk p ∧ S p
theorem Cnt.nil : Cnt 0 (fun _ => False) [] [] := ⟨rfl, Nat.le_refl _, fun p => ⟨fun h => h.elim, fun _ => rfl⟩, fun k hk => by cases hk⟩
theorem Cnt.put {n : Nat} {S S' : Pl → Prop} {ks : List (List Key)} {ds : List D} {p : Pl} (h : Cnt n S ks ds) (hs : ∀ q, S' q ↔ q = p ∨ S q) : Cnt (n + 1) S' (putDK ks (pk p)) (putDL ks (pk p) (.int 1) ds) := by
  refine ⟨putDL_len h.len, ?_, fun q => ?_, fun k hk => ?_⟩
  · have := putDL_le ks (pk p) (.int 1) ds h.len
    have := h.le
    omega
  · rw [look_put _ _ _ _ _ h.len]
    by_cases e : p = q
    · subst e
      rw [if_pos rfl]
      exact ⟨fun _ => rfl, fun z => absurd ((hs p).mpr (.inl rfl)) z⟩
    · have e' : ¬ pk p = pk q := fun z => e (pk_inj z)
      rw [if_neg e']
      refine ⟨fun z => (h.look q).1 (((hs q).mp z).resolve_left fun w => e w.symm), fun z => (h.look q).2 fun w => z ((hs q).mpr (.inr w))⟩
  · rcases mem_putDK hk with e | hk
    · exact ⟨p, e, (hs p).mpr (.inl rfl)⟩
    · obtain ⟨q, e, w⟩ := h.keys k hk
      exact ⟨q, e, (hs q).mpr (.inr w)⟩
theorem Cnt.congr {n m : Nat} {S S' : Pl → Prop} {ks : List (List Key)} {ds : List D} (h : Cnt n S ks ds) (hs : ∀ q, S' q ↔ S q) (hn : n ≤ m) : Cnt m S' ks ds :=
  ⟨h.len, Nat.le_trans h.le hn, fun p => ⟨fun z => (h.look p).1 ((hs p).mp z), fun z => (h.look p).2 fun w => z ((hs p).mpr w)⟩, fun k hk => by
    obtain ⟨p, e, w⟩ := h.keys k hk
    exact ⟨p, e, (hs p).mpr w⟩⟩
/-- the goals ahead of the a-th of row i -/
def Seen (gs : List (List Pl)) (i a : Nat) (p : Pl) : Prop := ∃ j b : Nat, (j < i ∨ (j = i ∧ b < a)) ∧ (row gs j)[b]? = some p
theorem keyT (p : Pl) : keyTup (pk p) = .tup [.int p.1, .int p.2] := rfl
def cNeedBij : Con := fun args k _ => ∃ dr gs, Bij dr gs ∧ args = [.fr (drD dr), .fr (gsL gs)] ∧ ∀ l m, k (.fr .non) [l, m]
theorem v_need_bij : ∀ ls kk kx, cNeedBij ls kk kx → t_need_bijection (endsOf [] ls kk) (entry [] 9 ls) := by
  rintro _ kk kx ⟨dr, gs, hB, rfl, h⟩
  simp (maxSteps := 4000000) (implicitDefEqProofs := false) only [RB, r_popAt, entry, entryL, outs, slotL, knownTy, isB, D.tyn, D.isNon, D.flat, D.feq, D.scalar, decide_true, decide_false, reduceIte, reduceCtorEq, Nat.reduceAdd, Nat.reduceSub, Nat.reduceMul, Nat.reduceLeDiff, Nat.reduceEqDiff, Nat.reducePow, Nat.reduceLT, Int.reduceLE, Int.reduceLT, Int.reduceNe, Int.reduceEq, Int.reduceAdd, Int.reduceSub, Int.reduceMul, Int.reduceNeg, Int.reduceToNat, Int.reducePow, String.reduceEq, String.reduceBEq, String.reduceBNe, Int.reduceFMod, Int.reduceFDiv, Int.reduceNegSucc, Int.reduceAbs, t_need_bijection]
  refine forD_ix' (I := fun i e => ∃ ks ds o3 o4 o5 o6 o7 o8, Cnt (i * 2000) (Seen gs i 0) ks ds ∧ e = [some (.fr (drD dr)), some (.fr (gsL gs)), some (.box (.dT ks) (ds.map L.fr)), o3, o4, o5, o6, o7, o8]) ⟨[], [], _, _, _, _, _, _, Cnt.nil.congr (fun q => ⟨fun ⟨j, b, hj, _⟩ => by omega, fun z => z.elim⟩) (Nat.zero_le _), rfl⟩ ?_ ?_
  · rintro i d env hd ⟨ks, ds, o3, o4, o5, o6, o7, o8, hC, rfl⟩ N hN
    rw [List.getElem?_map] at hd
    obtain ⟨r, hr1, rfl⟩ := Option.map_eq_some_iff.mp hd
    have hi : i < gs.length := (List.getElem?_eq_some_iff.mp hr1).1
    rw [getD_row hi] at hr1
    have er := Option.some.inj hr1
    subst er
    have hin : i < dr.length := by rw [← hB.len]; exact hi
    have hrl := hB.row_le i
    have h6 := hB.n6
    simp (maxSteps := 4000000) (implicitDefEqProofs := false) only [RB, r_popAt, entry, entryL, outs, slotL, knownTy, isB, D.tyn, D.isNon, D.flat, D.feq, D.scalar, decide_true, decide_false, reduceIte, reduceCtorEq, Nat.reduceAdd, Nat.reduceSub, Nat.reduceMul, Nat.reduceLeDiff, Nat.reduceEqDiff, Nat.reducePow, Nat.reduceLT, Int.reduceLE, Int.reduceLT, Int.reduceNe, Int.reduceEq, Int.reduceAdd, Int.reduceSub, Int.reduceMul, Int.reduceNeg, Int.reduceToNat, Int.reducePow, String.reduceEq, String.reduceBEq, String.reduceBNe, Int.reduceFMod, Int.reduceFDiv, Int.reduceNegSucc, Int.reduceAbs, t_need_bijection_b2, rowL]
    refine forD_ix' (I := fun a e => ∃ ks ds o4 o5 o6 o7 o8, Cnt (i * 2000 + a) (Seen gs i a) ks ds ∧ e = [some (.fr (drD dr)), some (.fr (gsL gs)), some (.box (.dT ks) (ds.map L.fr)), some (.fr (.box .lst ((row gs i).map plD))), o4, o5, o6, o7, o8]) ⟨ks, ds, _, _, _, _, _, hC, rfl⟩ ?_ ?_
    · rintro a d env hd ⟨ks, ds, o4, o5, o6, o7, o8, hC, rfl⟩ N' hN'
      rw [List.getElem?_map] at hd
      obtain ⟨p, hp, rfl⟩ := Option.map_eq_some_iff.mp hd
      have ha : a < (row gs i).length := (List.getElem?_eq_some_iff.mp hp).1
      have hnew : ¬ Seen gs i a p := by
        rintro ⟨j, b, hj, hq⟩
        have hjn : j < dr.length := by omega
        obtain ⟨e1, e2⟩ := hB.inj j b i a p hjn hin hq hp
        omega
      have hle := hC.le
      have hlk := (hC.look p).2 hnew
      simp (maxSteps := 4000000) (implicitDefEqProofs := false) only [RB, r_popAt, entry, entryL, outs, slotL, knownTy, isB, D.tyn, D.isNon, D.flat, D.feq, D.scalar, decide_true, decide_false, reduceIte, reduceCtorEq, Nat.reduceAdd, Nat.reduceSub, Nat.reduceMul, Nat.reduceLeDiff, Nat.reduceEqDiff, Nat.reducePow, Nat.reduceLT, Int.reduceLE, Int.reduceLT, Int.reduceNe, Int.reduceEq, Int.reduceAdd, Int.reduceSub, Int.reduceMul, Int.reduceNeg, Int.reduceToNat, Int.reducePow, String.reduceEq, String.reduceBEq, String.reduceBNe, Int.reduceFMod, Int.reduceFDiv, Int.reduceNegSucc, Int.reduceAbs, t_need_bijection_b1, plD]
      have hlk' : lookK ks ds [.inl p.1, .inl p.2] = none := hlk
      rw [hlk']
      simp (maxSteps := 4000000) (implicitDefEqProofs := false) only [RB, r_popAt, entry, entryL, outs, slotL, knownTy, isB, D.tyn, D.isNon, D.flat, D.feq, D.scalar, decide_true, decide_false, reduceIte, reduceCtorEq, Nat.reduceAdd, Nat.reduceSub, Nat.reduceMul, Nat.reduceLeDiff, Nat.reduceEqDiff, Nat.reducePow, Nat.reduceLT, Int.reduceLE, Int.reduceLT, Int.reduceNe, Int.reduceEq, Int.reduceAdd, Int.reduceSub, Int.reduceMul, Int.reduceNeg, Int.reduceToNat, Int.reducePow, String.reduceEq, String.reduceBEq, String.reduceBNe, Int.reduceFMod, Int.reduceFDiv, Int.reduceNegSucc, Int.reduceAbs]
      refine ⟨by omega, hN' _ ⟨_, _, _, _, _, _, _, (hC.put (S' := Seen gs i (a + 1)) fun q => ?_), rfl⟩⟩
      constructor
      · rintro ⟨j, b, hj, hq⟩
        by_cases hb : j = i ∧ b = a
        · obtain ⟨e1, e2⟩ := hb
          subst e1; subst e2
          rw [hp] at hq
          exact .inl (Option.some.inj hq).symm
        · exact .inr ⟨j, b, by omega, hq⟩
      · rintro (rfl | ⟨j, b, hj, hq⟩)
        · exact ⟨i, a, by omega, hp⟩
        · exact ⟨j, b, by omega, hq⟩
    · rintro e ⟨ks, ds, o4, o5, o6, o7, o8, hC, rfl⟩
      refine hN _ ⟨ks, ds, _, _, _, _, _, _, hC.congr (fun q => ?_) (by rw [List.length_map]; omega), rfl⟩
      rw [List.length_map]
      constructor
      · rintro ⟨j, b, hj, hq⟩
        by_cases e : j = i
        · subst e
          exact ⟨j, b, .inr ⟨rfl, (List.getElem?_eq_some_iff.mp hq).1⟩, hq⟩
        · exact ⟨j, b, by omega, hq⟩
      · rintro ⟨j, b, hj, hq⟩
        exact ⟨j, b, by omega, hq⟩
  · rintro e ⟨ks, ds, o3, o4, o5, o6, o7, o8, hC, rfl⟩
    have hS : ∀ p, Seen gs (gs.map rowL).length 0 p ↔ ∃ i a : Nat, i < dr.length ∧ (row gs i)[a]? = some p := fun p => by
      rw [List.length_map, hB.len]
      constructor
      · rintro ⟨j, b, hj, hq⟩; exact ⟨j, b, by omega, hq⟩
      · rintro ⟨j, b, hj, hq⟩; exact ⟨j, b, .inl hj, hq⟩
    have hC := (hC.congr (S' := fun p => ∃ i a : Nat, i < dr.length ∧ (row gs i)[a]? = some p) (fun p => (hS p).symm) (Nat.le_refl _))
    simp (maxSteps := 4000000) (implicitDefEqProofs := false) only [RB, r_popAt, entry, entryL, outs, slotL, knownTy, isB, D.tyn, D.isNon, D.flat, D.feq, D.scalar, decide_true, decide_false, reduceIte, reduceCtorEq, Nat.reduceAdd, Nat.reduceSub, Nat.reduceMul, Nat.reduceLeDiff, Nat.reduceEqDiff, Nat.reducePow, Nat.reduceLT, Int.reduceLE, Int.reduceLT, Int.reduceNe, Int.reduceEq, Int.reduceAdd, Int.reduceSub, Int.reduceMul, Int.reduceNeg, Int.reduceToNat, Int.reducePow, String.reduceEq, String.reduceBEq, String.reduceBNe, Int.reduceFMod, Int.reduceFDiv, Int.reduceNegSucc, Int.reduceAbs]
    refine forD_ix' (I := fun _ e => ∃ o3 o4 o5 o6 o7 o8, e = [some (.fr (drD dr)), some (.fr (gsL gs)), some (.box (.dT ks) (ds.map L.fr)), o3, o4, o5, o6, o7, o8]) ⟨_, _, _, _, _, _, rfl⟩ ?_ ?_
    · rintro i d env hd ⟨o3, o4, o5, o6, o7, o8, rfl⟩ N hN
      obtain ⟨r, hr1, rfl⟩ := enum_get hd
      have hi : i < gs.length := (List.getElem?_eq_some_iff.mp hr1).1
      rw [getD_row hi] at hr1
      have er := Option.some.inj hr1
      subst er
      have hin : i < dr.length := by rw [← hB.len]; exact hi
      have hnn := hB.nn i hin
      simp (maxSteps := 4000000) (implicitDefEqProofs := false) only [RB, r_popAt, entry, entryL, outs, slotL, knownTy, isB, D.tyn, D.isNon, D.flat, D.feq, D.scalar, decide_true, decide_false, reduceIte, reduceCtorEq, Nat.reduceAdd, Nat.reduceSub, Nat.reduceMul, Nat.reduceLeDiff, Nat.reduceEqDiff, Nat.reducePow, Nat.reduceLT, Int.reduceLE, Int.reduceLT, Int.reduceNe, Int.reduceEq, Int.reduceAdd, Int.reduceSub, Int.reduceMul, Int.reduceNeg, Int.reduceToNat, Int.reducePow, String.reduceEq, String.reduceBEq, String.reduceBNe, Int.reduceFMod, Int.reduceFDiv, Int.reduceNegSucc, Int.reduceAbs, t_need_bijection_b4, rowL]
      refine atK_get (d := .int (dlt dr i)) (by simp [getD_dlt hin]) (by omega) ?_
      simp (maxSteps := 4000000) (implicitDefEqProofs := false) only [RB, r_popAt, entry, entryL, outs, slotL, knownTy, isB, D.tyn, D.isNon, D.flat, D.feq, D.scalar, decide_true, decide_false, reduceIte, reduceCtorEq, Nat.reduceAdd, Nat.reduceSub, Nat.reduceMul, Nat.reduceLeDiff, Nat.reduceEqDiff, Nat.reducePow, Nat.reduceLT, Int.reduceLE, Int.reduceLT, Int.reduceNe, Int.reduceEq, Int.reduceAdd, Int.reduceSub, Int.reduceMul, Int.reduceNeg, Int.reduceToNat, Int.reducePow, String.reduceEq, String.reduceBEq, String.reduceBNe, Int.reduceFMod, Int.reduceFDiv, Int.reduceNegSucc, Int.reduceAbs]
      refine while_ix' (m := (((row gs i).length : Int) + dlt dr i).toNat) (I := fun m e => ∃ a : Nat, (a : Int) + (m : Int) = ((row gs i).length : Int) + dlt dr i ∧ e = [some (.fr (drD dr)), some (.fr (gsL gs)), some (.box (.dT ks) (ds.map L.fr)), some (.fr (.box .lst ((row gs i).map plD))), o4, some (.fr (.int i)), some (.fr (.int (((row gs i).length : Int) + dlt dr i))), some (.fr (.int (a : Int))), o8]) ⟨0, by omega, rfl⟩ ?_
      rintro m env ⟨a, ha, rfl⟩ N' hN'
      simp (maxSteps := 4000000) (implicitDefEqProofs := false) only [RB, r_popAt, entry, entryL, outs, slotL, knownTy, isB, D.tyn, D.isNon, D.flat, D.feq, D.scalar, decide_true, decide_false, reduceIte, reduceCtorEq, Nat.reduceAdd, Nat.reduceSub, Nat.reduceMul, Nat.reduceLeDiff, Nat.reduceEqDiff, Nat.reducePow, Nat.reduceLT, Int.reduceLE, Int.reduceLT, Int.reduceNe, Int.reduceEq, Int.reduceAdd, Int.reduceSub, Int.reduceMul, Int.reduceNeg, Int.reduceToNat, Int.reducePow, String.reduceEq, String.reduceBEq, String.reduceBNe, Int.reduceFMod, Int.reduceFDiv, Int.reduceNegSucc, Int.reduceAbs]
      split
      · rename_i hlt
        have hlk : lookK ks ds [.inl (i : Int), .inl (a : Int)] = some (.int 1) := (hC.look ((i : Int), (a : Int))).1 (hB.on i a hin hlt)
        simp (maxSteps := 4000000) (implicitDefEqProofs := false) only [RB, r_popAt, entry, entryL, outs, slotL, knownTy, isB, D.tyn, D.isNon, D.flat, D.feq, D.scalar, decide_true, decide_false, reduceIte, reduceCtorEq, Nat.reduceAdd, Nat.reduceSub, Nat.reduceMul, Nat.reduceLeDiff, Nat.reduceEqDiff, Nat.reducePow, Nat.reduceLT, Int.reduceLE, Int.reduceLT, Int.reduceNe, Int.reduceEq, Int.reduceAdd, Int.reduceSub, Int.reduceMul, Int.reduceNeg, Int.reduceToNat, Int.reducePow, String.reduceEq, String.reduceBEq, String.reduceBNe, Int.reduceFMod, Int.reduceFDiv, Int.reduceNegSucc, Int.reduceAbs, t_need_bijection_b3, hlk]
        exact hN' (m - 1) _ (by omega) ⟨a + 1, by omega, by simp⟩
      · rename_i hge
        refine ⟨hC.len, ?_⟩
        refine compD_ix' (I := fun _ acc e => acc = [] ∧ e = [some (.fr (drD dr)), some (.fr (gsL gs)), none, some (.fr (.box .lst ((row gs i).map plD))), none, some (.fr (.int i)), some (.fr (.int (((row gs i).length : Int) + dlt dr i))), some (.fr (.int (a : Int))), o8]) ⟨rfl, rfl⟩ ?_ ?_
        · rintro j d acc env hd ⟨rfl, rfl⟩ M hM
          rw [List.getElem?_map] at hd
          obtain ⟨k, hk, rfl⟩ := Option.map_eq_some_iff.mp hd
          obtain ⟨p, rfl, j1, b1, hj1, hp1⟩ := hC.keys k (List.mem_of_getElem? hk)
          obtain ⟨q0, q1, q2, q3⟩ := hB.ok j1 b1 p hj1 hp1
          simp (maxSteps := 4000000) (implicitDefEqProofs := false) only [RB, r_popAt, entry, entryL, outs, slotL, knownTy, isB, D.tyn, D.isNon, D.flat, D.feq, D.scalar, decide_true, decide_false, reduceIte, reduceCtorEq, Nat.reduceAdd, Nat.reduceSub, Nat.reduceMul, Nat.reduceLeDiff, Nat.reduceEqDiff, Nat.reducePow, Nat.reduceLT, Int.reduceLE, Int.reduceLT, Int.reduceNe, Int.reduceEq, Int.reduceAdd, Int.reduceSub, Int.reduceMul, Int.reduceNeg, Int.reduceToNat, Int.reducePow, String.reduceEq, String.reduceBEq, String.reduceBNe, Int.reduceFMod, Int.reduceFDiv, Int.reduceNegSucc, Int.reduceAbs, keyT]
          by_cases e : p.1 = (i : Int)
          · have e2 : p.1.toNat = i := by omega
            rw [e2] at q3
            rw [if_pos e, if_neg (by omega)]
            exact hM _ _ ⟨rfl, rfl⟩
          · rw [if_neg e]
            exact hM _ _ ⟨rfl, rfl⟩
        · rintro acc env ⟨rfl, rfl⟩
          simp (maxSteps := 4000000) (implicitDefEqProofs := false) only [RB, r_popAt, entry, entryL, outs, slotL, knownTy, isB, D.tyn, D.isNon, D.flat, D.feq, D.scalar, decide_true, decide_false, reduceIte, reduceCtorEq, Nat.reduceAdd, Nat.reduceSub, Nat.reduceMul, Nat.reduceLeDiff, Nat.reduceEqDiff, Nat.reducePow, Nat.reduceLT, Int.reduceLE, Int.reduceLT, Int.reduceNe, Int.reduceEq, Int.reduceAdd, Int.reduceSub, Int.reduceMul, Int.reduceNeg, Int.reduceToNat, Int.reducePow, String.reduceEq, String.reduceBEq, String.reduceBNe, Int.reduceFMod, Int.reduceFDiv, Int.reduceNegSucc, Int.reduceAbs]
          refine ⟨[], rfl, by decide, fun ns' hp _ => ?_⟩
          have en : ns' = [] := List.Perm.eq_nil hp
          subst en
          have c1 : Cmp2 (.box .lst []) (.box .lst []) := ⟨by decide +kernel, by decide +kernel⟩
          have c2 : PyData.eqv (D.box .lst []).py (D.box .lst []).py = true := by decide +kernel
          simp (maxSteps := 4000000) (implicitDefEqProofs := false) only [RB, r_popAt, entry, entryL, outs, slotL, knownTy, isB, D.tyn, D.isNon, D.flat, D.feq, D.scalar, decide_true, decide_false, reduceIte, reduceCtorEq, Nat.reduceAdd, Nat.reduceSub, Nat.reduceMul, Nat.reduceLeDiff, Nat.reduceEqDiff, Nat.reducePow, Nat.reduceLT, Int.reduceLE, Int.reduceLT, Int.reduceNe, Int.reduceEq, Int.reduceAdd, Int.reduceSub, Int.reduceMul, Int.reduceNeg, Int.reduceToNat, Int.reducePow, String.reduceEq, String.reduceBEq, String.reduceBNe, Int.reduceFMod, Int.reduceFDiv, Int.reduceNegSucc, Int.reduceAbs, c1, c2]
          exact hN _ ⟨_, _, _, _, _, _, rfl⟩
    · rintro e ⟨o3, o4, o5, o6, o7, o8, rfl⟩
      simp (maxSteps := 4000000) (implicitDefEqProofs := false) only [RB, r_popAt, entry, entryL, outs, slotL, knownTy, isB, D.tyn, D.isNon, D.flat, D.feq, D.scalar, decide_true, decide_false, reduceIte, reduceCtorEq, Nat.reduceAdd, Nat.reduceSub, Nat.reduceMul, Nat.reduceLeDiff, Nat.reduceEqDiff, Nat.reducePow, Nat.reduceLT, Int.reduceLE, Int.reduceLT, Int.reduceNe, Int.reduceEq, Int.reduceAdd, Int.reduceSub, Int.reduceMul, Int.reduceNeg, Int.reduceToNat, Int.reducePow, String.reduceEq, String.reduceBEq, String.reduceBNe, Int.reduceFMod, Int.reduceFDiv, Int.reduceNegSucc, Int.reduceAbs]
      exact h _ _
/-! ### the class -/
abbrev nmS : List Str := [Str.ofString "steady", Str.ofString "inner", Str.ofString "sources"]
def mapD (C : Addr) (dr : List Int) (gs : List (List Pl)) : D := .box (.obj C nmS) [drT dr, gsT gs, .box (.dT (srcK (srcs gs))) (srcV (srcs gs))]
def mapL (C : Addr) (dr : List Int) (gs : List (List Pl)) : L := .box (.obj C nmS) [.fr (drT dr), .fr (gsT gs), .box (.dT (srcK (srcs gs))) ((srcV (srcs gs)).map L.fr)]
theorem mapL_toD (C : Addr) (dr : List Int) (gs : List (List Pl)) : (mapL C dr gs).toD = mapD C dr gs := by
  simp [mapL, mapD, L.toD, L.toDs, toDs_fr]
def rowB (r : List Pl) : L := .box .lst ((r.map plD).map L.fr)
theorem rowB_toD (r : List Pl) : (rowB r).toD = rowL r := by rw [rowB, rowL, r_toDb, toDs_fr]
theorem toDs_rowB (gs : List (List Pl)) : L.toDs (gs.map rowB) = gs.map rowL := by
  rw [toDs_map, List.map_map]
  apply List.map_congr_left
  intro r _
  exact rowB_toD r
theorem take_next {α : Type} {xs : List α} {i : Nat} {x : α} (h : xs[i]? = some x) : xs.take (i + 1) = xs.take i ++ [x] := by
  rw [List.take_succ, h]; rfl
theorem sum_cast (ns : List Nat) : (ns.map fun (n : Nat) => (n : Int)).sum = ((ns.sum : Nat) : Int) := by
  induction ns with
  | nil => rfl
  | cons n ns ih => simp [ih]
def lenI (r : List Pl) : Int := (r.length : Int)
theorem lens_toDs (gs : List (List Pl)) : L.toDs (gs.map fun r => L.fr (.int (lenI r))) = (gs.map lenI).map D.int := by
  rw [toDs_map, List.map_map, List.map_map]
  apply List.map_congr_left
  intro r _
  exact L.toD.eq_1 _
/-- the sources that are told ahead of the a-th goal of row i -/
def srcP (gs : List (List Pl)) (i a : Nat) : List (Pl × Pl) := ((List.range i).flatMap fun (i : Nat) => (List.range (row gs i).length).map fun (a : Nat) => ((row gs i).getD a (0, 0), ((i : Int), (a : Int)))) ++ (List.range a).map fun (a : Nat) => ((row gs i).getD a (0, 0), ((i : Int), (a : Int)))
theorem srcP_all (gs : List (List Pl)) : srcP gs gs.length 0 = srcs gs := by simp [srcP, srcs]
theorem srcP_next (gs : List (List Pl)) (i : Nat) : srcP gs i (row gs i).length = srcP gs (i + 1) 0 := by simp [srcP, List.range_succ]
theorem srcP_step (gs : List (List Pl)) (i a : Nat) : srcP gs i (a + 1) = srcP gs i a ++ [((row gs i).getD a (0, 0), ((i : Int), (a : Int)))] := by simp [srcP, List.range_succ]
theorem mem_srcP {gs : List (List Pl)} {i a : Nat} {q : Pl × Pl} (h : q ∈ srcP gs i a) (ha : a ≤ (row gs i).length) : ∃ j b : Nat, (j < i ∨ (j = i ∧ b < a)) ∧ (row gs j)[b]? = some q.1 := by
  unfold srcP at h
  rcases List.mem_append.mp h with h | h
  · simp only [List.mem_flatMap, List.mem_range, List.mem_map] at h
    obtain ⟨j, hj, b, hb, rfl⟩ := h
    exact ⟨j, b, .inl hj, by simp [List.getD_eq_getElem?_getD, hb]⟩
  · simp only [List.mem_range, List.mem_map] at h
    obtain ⟨b, hb, rfl⟩ := h
    have : b < (row gs i).length := by omega
    exact ⟨i, b, .inr ⟨rfl, hb⟩, by simp [List.getD_eq_getElem?_getD, this]⟩
theorem srcP_len (gs : List (List Pl)) (h : ∀ i, (row gs i).length ≤ 2000) : ∀ (i a : Nat), (srcP gs i a).length ≤ i * 2000 + a
  | 0, a => by simp [srcP]
  | i + 1, a => by
    have ih := srcP_len gs h i (row gs i).length
    rw [srcP_next] at ih
    have := h i
    have e : (srcP gs (i + 1) a).length = (srcP gs (i + 1) 0).length + a := by simp [srcP]
    omega
theorem memK_iff (k : List Key) : ∀ ks : List (List Key), memK k ks = true ↔ k ∈ ks
  | [] => by simp [memK]
  | k' :: ks => by
    have ih := memK_iff k ks
    simp only [memK, List.mem_cons]
    by_cases e : k' = k
    · simp [e]
    · have e' : ¬ k = k' := fun z => e z.symm
      rw [if_neg e, ih]
      simp [e']
theorem src_put {dr : List Int} {gs : List (List Pl)} (h : Bij dr gs) {i a : Nat} {p : Pl} (hi : i < dr.length) (hp : (row gs i)[a]? = some p) :
    putDK (srcK (srcP gs i a)) (pk p) = srcK (srcP gs i (a + 1)) ∧ putDL (srcK (srcP gs i a)) (pk p) (plD ((i : Int), (a : Int))) (srcV (srcP gs i a)) = srcV (srcP gs i (a + 1)) := by
  have ha : a < (row gs i).length := (List.getElem?_eq_some_iff.mp hp).1
  have eg : (row gs i).getD a (0, 0) = p := by rw [List.getD_eq_getElem?_getD, hp]; rfl
  have nm : ¬ memK (pk p) (srcK (srcP gs i a)) = true := fun z => by
    obtain ⟨q, hq, e⟩ := List.mem_map.mp ((memK_iff _ _).mp z)
    have e := pk_inj e
    obtain ⟨j, b, hj, hb⟩ := mem_srcP hq (by omega)
    rw [e] at hb
    obtain ⟨z1, z2⟩ := h.inj j b i a p (by omega) hi hb hp
    omega
  unfold putDK putDL
  rw [if_neg nm, if_neg nm, srcP_step, eg]
  simp [srcK, srcV]
def Iform (g : D) (dr : List Int) (gs : List (List Pl)) : Prop := g = gsL gs ∨ g = gsT gs ∨ (g = .kt ∧ gs = nones dr.length)
def cInit (C : Addr) : Con := fun args k _ => ∃ dr gs g, Bij dr gs ∧ Iform g dr gs ∧ args = [.box (.obj C []) [], .fr (drD dr), .fr g] ∧ ∀ l m, k (.fr .non) [mapL C dr (least dr gs), l, m]
theorem v_init (C : Addr) : ∀ ls kk kx, cInit C ls kk kx → t_LaneMap_init C cNeedLanes cNeedGoals cNeedBij cLeast (endsOf [0] ls kk) (entry [0] 9 ls) := by
  rintro _ kk kx ⟨dr, gs, g, hB, hg, rfl, h⟩
  have hn1 := hB.n1
  have hn6 := hB.n6
  have hgl := hB.len
  have htot := hB.tot
  have hrl := hB.row_le
  have hS : ((gs.map lenI).sum : Int) = ((gs.map List.length).sum : Nat) := by
    have := sum_cast (gs.map List.length)
    rw [List.map_map] at this
    exact this
  have hne : (gs.map rowB).isEmpty = false := by cases gs with
    | nil => simp at hgl; omega
    | cons => rfl
  rcases hg with rfl | rfl | ⟨rfl, hgs⟩
  case' inl | inr.inl =>
    simp (maxSteps := 4000000) (implicitDefEqProofs := false) only [RB, r_popAt, entry, entryL, outs, slotL, knownTy, isB, D.tyn, D.isNon, D.flat, D.feq, D.scalar, decide_true, decide_false, reduceIte, reduceCtorEq, Nat.reduceAdd, Nat.reduceSub, Nat.reduceMul, Nat.reduceLeDiff, Nat.reduceEqDiff, Nat.reducePow, Nat.reduceLT, Int.reduceLE, Int.reduceLT, Int.reduceNe, Int.reduceEq, Int.reduceAdd, Int.reduceSub, Int.reduceMul, Int.reduceNeg, Int.reduceToNat, Int.reducePow, String.reduceEq, String.reduceBEq, String.reduceBNe, Int.reduceFMod, Int.reduceFDiv, Int.reduceNegSucc, Int.reduceAbs, t_LaneMap_init, cNeedLanes]
    refine ⟨by omega, fun _ => ?_⟩
    rw [if_neg (by simp; omega)]
    refine compD_ix' (I := fun i acc e => acc = (gs.take i).map rowB ∧ e = [_, _, _, none, none, none, none, none, none]) ⟨rfl, rfl⟩ ?_ ?_
    · rintro i d acc env hd ⟨rfl, rfl⟩ M hM
      rw [List.getElem?_map] at hd
      obtain ⟨r, hr1, rfl⟩ := Option.map_eq_some_iff.mp hd
      have hi : i < gs.length := (List.getElem?_eq_some_iff.mp hr1).1
      have hr2 : r.length ≤ 2000 := by
        have := hrl i
        rw [getD_row hi] at hr1
        rw [← Option.some.inj hr1]; exact this
      simp (maxSteps := 4000000) (implicitDefEqProofs := false) only [RB, r_popAt, entry, entryL, outs, slotL, knownTy, isB, D.tyn, D.isNon, D.flat, D.feq, D.scalar, decide_true, decide_false, reduceIte, reduceCtorEq, Nat.reduceAdd, Nat.reduceSub, Nat.reduceMul, Nat.reduceLeDiff, Nat.reduceEqDiff, Nat.reducePow, Nat.reduceLT, Int.reduceLE, Int.reduceLT, Int.reduceNe, Int.reduceEq, Int.reduceAdd, Int.reduceSub, Int.reduceMul, Int.reduceNeg, Int.reduceToNat, Int.reducePow, String.reduceEq, String.reduceBEq, String.reduceBNe, Int.reduceFMod, Int.reduceFDiv, Int.reduceNegSucc, Int.reduceAbs, rowL, rowT]
      refine compD_ix' (I := fun a acc e => acc = ((r.take a).map plD).map L.fr ∧ e = [_, _, _, none, none, _, none, none, none]) ⟨rfl, rfl⟩ ?_ ?_
      · rintro a d acc env hd ⟨rfl, rfl⟩ M' hM'
        rw [List.getElem?_map] at hd
        obtain ⟨p, hp, rfl⟩ := Option.map_eq_some_iff.mp hd
        have ha : a < r.length := (List.getElem?_eq_some_iff.mp hp).1
        simp (maxSteps := 4000000) (implicitDefEqProofs := false) only [RB, r_popAt, entry, entryL, outs, slotL, knownTy, isB, D.tyn, D.isNon, D.flat, D.feq, D.scalar, decide_true, decide_false, reduceIte, reduceCtorEq, Nat.reduceAdd, Nat.reduceSub, Nat.reduceMul, Nat.reduceLeDiff, Nat.reduceEqDiff, Nat.reducePow, Nat.reduceLT, Int.reduceLE, Int.reduceLT, Int.reduceNe, Int.reduceEq, Int.reduceAdd, Int.reduceSub, Int.reduceMul, Int.reduceNeg, Int.reduceToNat, Int.reducePow, String.reduceEq, String.reduceBEq, String.reduceBNe, Int.reduceFMod, Int.reduceFDiv, Int.reduceNegSucc, Int.reduceAbs, plD]
        refine ⟨by rw [List.length_take]; omega, hM' _ _ ⟨?_, rfl⟩⟩
        rw [take_next hp]
        simp [plD]
      · rintro acc env ⟨rfl, rfl⟩
        rw [List.length_map, List.take_length]
        simp (maxSteps := 4000000) (implicitDefEqProofs := false) only [RB, r_popAt, entry, entryL, outs, slotL, knownTy, isB, D.tyn, D.isNon, D.flat, D.feq, D.scalar, decide_true, decide_false, reduceIte, reduceCtorEq, Nat.reduceAdd, Nat.reduceSub, Nat.reduceMul, Nat.reduceLeDiff, Nat.reduceEqDiff, Nat.reducePow, Nat.reduceLT, Int.reduceLE, Int.reduceLT, Int.reduceNe, Int.reduceEq, Int.reduceAdd, Int.reduceSub, Int.reduceMul, Int.reduceNeg, Int.reduceToNat, Int.reducePow, String.reduceEq, String.reduceBEq, String.reduceBNe, Int.reduceFMod, Int.reduceFDiv, Int.reduceNegSucc, Int.reduceAbs]
        refine ⟨by rw [List.length_take]; omega, hM _ _ ⟨?_, rfl⟩⟩
        rw [take_next hr1]
        simp [rowB]
    rintro acc env ⟨rfl, rfl⟩
    rw [List.length_map, List.take_length]
    simp (maxSteps := 4000000) (implicitDefEqProofs := false) only [RB, r_popAt, entry, entryL, outs, slotL, knownTy, isB, D.tyn, D.isNon, D.flat, D.feq, D.scalar, decide_true, decide_false, reduceIte, reduceCtorEq, Nat.reduceAdd, Nat.reduceSub, Nat.reduceMul, Nat.reduceLeDiff, Nat.reduceEqDiff, Nat.reducePow, Nat.reduceLT, Int.reduceLE, Int.reduceLT, Int.reduceNe, Int.reduceEq, Int.reduceAdd, Int.reduceSub, Int.reduceMul, Int.reduceNeg, Int.reduceToNat, Int.reducePow, String.reduceEq, String.reduceBEq, String.reduceBNe, Int.reduceFMod, Int.reduceFDiv, Int.reduceNegSucc, Int.reduceAbs, hne, toDs_rowB]
  case' inr.inr =>
    simp (maxSteps := 4000000) (implicitDefEqProofs := false) only [RB, r_popAt, entry, entryL, outs, slotL, knownTy, isB, D.tyn, D.isNon, D.flat, D.feq, D.scalar, decide_true, decide_false, reduceIte, reduceCtorEq, Nat.reduceAdd, Nat.reduceSub, Nat.reduceMul, Nat.reduceLeDiff, Nat.reduceEqDiff, Nat.reducePow, Nat.reduceLT, Int.reduceLE, Int.reduceLT, Int.reduceNe, Int.reduceEq, Int.reduceAdd, Int.reduceSub, Int.reduceMul, Int.reduceNeg, Int.reduceToNat, Int.reducePow, String.reduceEq, String.reduceBEq, String.reduceBNe, Int.reduceFMod, Int.reduceFDiv, Int.reduceNegSucc, Int.reduceAbs, t_LaneMap_init, cNeedLanes, List.isEmpty_nil]
    refine ⟨by omega, fun _ => ?_⟩
    refine compD_ix' (I := fun i acc e => acc = ((nones dr.length).take i).map rowB ∧ e = [_, _, _, none, none, none, none, none, none]) ⟨rfl, rfl⟩ ?_ ?_
    · rintro i d acc env hd ⟨rfl, rfl⟩ M hM
      have hi : i < dr.length := by have := (List.getElem?_eq_some_iff.mp hd).1; rw [List.length_map] at this; exact this
      simp (maxSteps := 4000000) (implicitDefEqProofs := false) only [RB, r_popAt, entry, entryL, outs, slotL, knownTy, isB, D.tyn, D.isNon, D.flat, D.feq, D.scalar, decide_true, decide_false, reduceIte, reduceCtorEq, Nat.reduceAdd, Nat.reduceSub, Nat.reduceMul, Nat.reduceLeDiff, Nat.reduceEqDiff, Nat.reducePow, Nat.reduceLT, Int.reduceLE, Int.reduceLT, Int.reduceNe, Int.reduceEq, Int.reduceAdd, Int.reduceSub, Int.reduceMul, Int.reduceNeg, Int.reduceToNat, Int.reducePow, String.reduceEq, String.reduceBEq, String.reduceBNe, Int.reduceFMod, Int.reduceFDiv, Int.reduceNegSucc, Int.reduceAbs]
      refine ⟨by rw [List.length_take]; omega, hM _ _ ⟨?_, rfl⟩⟩
      have hr : (nones dr.length)[i]? = some [] := by unfold nones; rw [List.getElem?_replicate, if_pos hi]
      rw [take_next hr]
      simp [rowB]
    rintro acc env ⟨rfl, rfl⟩
    have hnl : (nones dr.length).take dr.length = gs := by rw [hgs, List.take_of_length_le (by simp [nones])]
    rw [List.length_map, hnl]
    simp (maxSteps := 4000000) (implicitDefEqProofs := false) only [RB, r_popAt, entry, entryL, outs, slotL, knownTy, isB, D.tyn, D.isNon, D.flat, D.feq, D.scalar, decide_true, decide_false, reduceIte, reduceCtorEq, Nat.reduceAdd, Nat.reduceSub, Nat.reduceMul, Nat.reduceLeDiff, Nat.reduceEqDiff, Nat.reducePow, Nat.reduceLT, Int.reduceLE, Int.reduceLT, Int.reduceNe, Int.reduceEq, Int.reduceAdd, Int.reduceSub, Int.reduceMul, Int.reduceNeg, Int.reduceToNat, Int.reducePow, String.reduceEq, String.reduceBEq, String.reduceBNe, Int.reduceFMod, Int.reduceFDiv, Int.reduceNegSucc, Int.reduceAbs, hne, toDs_rowB]
  all_goals
    refine compD_ix' (I := fun i acc e => acc = (gs.take i).map (fun r => L.fr (.int (lenI r))) ∧ e = [_, _, _, some (.fr (gsL gs)), none, none, none, none, none]) ⟨rfl, rfl⟩ ?_ ?_
    · rintro i d acc env hd ⟨rfl, rfl⟩ M hM
      rw [List.getElem?_map] at hd
      obtain ⟨r, hr1, rfl⟩ := Option.map_eq_some_iff.mp hd
      have hi : i < gs.length := (List.getElem?_eq_some_iff.mp hr1).1
      simp (maxSteps := 4000000) (implicitDefEqProofs := false) only [RB, r_popAt, entry, entryL, outs, slotL, knownTy, isB, D.tyn, D.isNon, D.flat, D.feq, D.scalar, decide_true, decide_false, reduceIte, reduceCtorEq, Nat.reduceAdd, Nat.reduceSub, Nat.reduceMul, Nat.reduceLeDiff, Nat.reduceEqDiff, Nat.reducePow, Nat.reduceLT, Int.reduceLE, Int.reduceLT, Int.reduceNe, Int.reduceEq, Int.reduceAdd, Int.reduceSub, Int.reduceMul, Int.reduceNeg, Int.reduceToNat, Int.reducePow, String.reduceEq, String.reduceBEq, String.reduceBNe, Int.reduceFMod, Int.reduceFDiv, Int.reduceNegSucc, Int.reduceAbs, rowL]
      refine ⟨by rw [List.length_take]; omega, hM _ _ ⟨?_, rfl⟩⟩
      rw [take_next hr1]
      simp [lenI]
    · rintro acc env ⟨rfl, rfl⟩
      rw [List.length_map, List.take_length]
      simp (maxSteps := 4000000) (implicitDefEqProofs := false) only [RB, r_popAt, entry, entryL, outs, slotL, knownTy, isB, D.tyn, D.isNon, D.flat, D.feq, D.scalar, decide_true, decide_false, reduceIte, reduceCtorEq, Nat.reduceAdd, Nat.reduceSub, Nat.reduceMul, Nat.reduceLeDiff, Nat.reduceEqDiff, Nat.reducePow, Nat.reduceLT, Int.reduceLE, Int.reduceLT, Int.reduceNe, Int.reduceEq, Int.reduceAdd, Int.reduceSub, Int.reduceMul, Int.reduceNeg, Int.reduceToNat, Int.reducePow, String.reduceEq, String.reduceBEq, String.reduceBNe, Int.reduceFMod, Int.reduceFDiv, Int.reduceNegSucc, Int.reduceAbs, lens_toDs]
      refine ⟨gs.map lenI, dInts_map _, ?_⟩
      rw [if_neg (by omega)]
      refine ⟨dr, gs, hB, rfl, fun _ _ => ?_⟩
      simp (maxSteps := 4000000) (implicitDefEqProofs := false) only [RB, r_popAt, entry, entryL, outs, slotL, knownTy, isB, D.tyn, D.isNon, D.flat, D.feq, D.scalar, decide_true, decide_false, reduceIte, reduceCtorEq, Nat.reduceAdd, Nat.reduceSub, Nat.reduceMul, Nat.reduceLeDiff, Nat.reduceEqDiff, Nat.reducePow, Nat.reduceLT, Int.reduceLE, Int.reduceLT, Int.reduceNe, Int.reduceEq, Int.reduceAdd, Int.reduceSub, Int.reduceMul, Int.reduceNeg, Int.reduceToNat, Int.reducePow, String.reduceEq, String.reduceBEq, String.reduceBNe, Int.reduceFMod, Int.reduceFDiv, Int.reduceNegSucc, Int.reduceAbs]
      refine ⟨dr, gs, hB, rfl, fun _ _ => ?_⟩
      simp (maxSteps := 4000000) (implicitDefEqProofs := false) only [RB, r_popAt, entry, entryL, outs, slotL, knownTy, isB, D.tyn, D.isNon, D.flat, D.feq, D.scalar, decide_true, decide_false, reduceIte, reduceCtorEq, Nat.reduceAdd, Nat.reduceSub, Nat.reduceMul, Nat.reduceLeDiff, Nat.reduceEqDiff, Nat.reducePow, Nat.reduceLT, Int.reduceLE, Int.reduceLT, Int.reduceNe, Int.reduceEq, Int.reduceAdd, Int.reduceSub, Int.reduceMul, Int.reduceNeg, Int.reduceToNat, Int.reducePow, String.reduceEq, String.reduceBEq, String.reduceBNe, Int.reduceFMod, Int.reduceFDiv, Int.reduceNegSucc, Int.reduceAbs]
      refine ⟨dr, gs, drT dr, gsL gs, .inr rfl, .inl rfl, rfl, hgl, hn6, fun i => Nat.le_trans (hrl i) (by decide), fun _ _ => ?_⟩
      have hL := hB.least
      simp (maxSteps := 4000000) (implicitDefEqProofs := false) only [RB, r_popAt, entry, entryL, outs, slotL, knownTy, isB, D.tyn, D.isNon, D.flat, D.feq, D.scalar, decide_true, decide_false, reduceIte, reduceCtorEq, Nat.reduceAdd, Nat.reduceSub, Nat.reduceMul, Nat.reduceLeDiff, Nat.reduceEqDiff, Nat.reducePow, Nat.reduceLT, Int.reduceLE, Int.reduceLT, Int.reduceNe, Int.reduceEq, Int.reduceAdd, Int.reduceSub, Int.reduceMul, Int.reduceNeg, Int.reduceToNat, Int.reducePow, String.reduceEq, String.reduceBEq, String.reduceBNe, Int.reduceFMod, Int.reduceFDiv, Int.reduceNegSucc, Int.reduceAbs]
      refine forD_ix' (I := fun i e => ∃ o4 o5 o6 o7 o8, e = [some (.box (.obj C nmS) [.fr (drT dr), .fr (gsT (least dr gs)), .box (.dT (srcK (srcP (least dr gs) i 0))) ((srcV (srcP (least dr gs) i 0)).map L.fr)]), _, _, some (.fr (gsL gs)), o4, o5, o6, o7, o8]) ⟨_, _, _, _, _, rfl⟩ ?_ ?_
      · rintro i d env hd ⟨o4, o5, o6, o7, o8, rfl⟩ N hN
        obtain ⟨r, hr1, rfl⟩ := enum_get hd
        have hi : i < (least dr gs).length := (List.getElem?_eq_some_iff.mp hr1).1
        rw [getD_row hi] at hr1
        have er := Option.some.inj hr1
        subst er
        have hin : i < dr.length := by rw [least_len] at hi; omega
        simp (maxSteps := 4000000) (implicitDefEqProofs := false) only [RB, r_popAt, entry, entryL, outs, slotL, knownTy, isB, D.tyn, D.isNon, D.flat, D.feq, D.scalar, decide_true, decide_false, reduceIte, reduceCtorEq, Nat.reduceAdd, Nat.reduceSub, Nat.reduceMul, Nat.reduceLeDiff, Nat.reduceEqDiff, Nat.reducePow, Nat.reduceLT, Int.reduceLE, Int.reduceLT, Int.reduceNe, Int.reduceEq, Int.reduceAdd, Int.reduceSub, Int.reduceMul, Int.reduceNeg, Int.reduceToNat, Int.reducePow, String.reduceEq, String.reduceBEq, String.reduceBNe, Int.reduceFMod, Int.reduceFDiv, Int.reduceNegSucc, Int.reduceAbs, t_LaneMap_init_b2, rowT]
        refine forD_ix' (I := fun a e => a ≤ (row (least dr gs) i).length ∧ ∃ o5 o6 o7 o8, e = [some (.box (.obj C nmS) [.fr (drT dr), .fr (gsT (least dr gs)), .box (.dT (srcK (srcP (least dr gs) i a))) ((srcV (srcP (least dr gs) i a)).map L.fr)]), _, _, some (.fr (gsL gs)), some (.fr (.int i)), o5, o6, o7, o8]) ⟨Nat.zero_le _, _, _, _, _, rfl⟩ ?_ ?_
        · rintro a d env hd ⟨hle, o5, o6, o7, o8, rfl⟩ N' hN'
          obtain ⟨p, hp, rfl⟩ := enum_get hd
          have ha : a < (row (least dr gs) i).length := (List.getElem?_eq_some_iff.mp hp).1
          obtain ⟨e1, e2⟩ := src_put hL hin hp
          simp (maxSteps := 4000000) (implicitDefEqProofs := false) only [RB, r_popAt, entry, entryL, outs, slotL, knownTy, isB, D.tyn, D.isNon, D.flat, D.feq, D.scalar, decide_true, decide_false, reduceIte, reduceCtorEq, Nat.reduceAdd, Nat.reduceSub, Nat.reduceMul, Nat.reduceLeDiff, Nat.reduceEqDiff, Nat.reducePow, Nat.reduceLT, Int.reduceLE, Int.reduceLT, Int.reduceNe, Int.reduceEq, Int.reduceAdd, Int.reduceSub, Int.reduceMul, Int.reduceNeg, Int.reduceToNat, Int.reducePow, String.reduceEq, String.reduceBEq, String.reduceBNe, Int.reduceFMod, Int.reduceFDiv, Int.reduceNegSucc, Int.reduceAbs, t_LaneMap_init_b1, plD]
          have hlen := srcP_len (least dr gs) hL.row_le i a
          have hri := hL.row_le i
          refine ⟨by unfold srcV; rw [List.length_map]; omega, ?_⟩
          have e1' : putDK (srcK (srcP (least dr gs) i a)) [Sum.inl p.1, Sum.inl p.2] = srcK (srcP (least dr gs) i (a + 1)) := e1
          have e2' : putDL (srcK (srcP (least dr gs) i a)) [Sum.inl p.1, Sum.inl p.2] (D.tup [D.int (i : Int), D.int (a : Int)]) (srcV (srcP (least dr gs) i a)) = srcV (srcP (least dr gs) i (a + 1)) := e2
          rw [e1', e2']
          exact hN' _ ⟨ha, _, _, _, _, rfl⟩
        · rintro e ⟨hle, o5, o6, o7, o8, rfl⟩
          rw [pairsE_len, List.length_map, srcP_next]
          exact hN _ ⟨_, _, _, _, _, rfl⟩
      · rintro e ⟨o4, o5, o6, o7, o8, rfl⟩
        rw [pairsE_len, List.length_map, srcP_all]
        simp (maxSteps := 4000000) (implicitDefEqProofs := false) only [RB, r_popAt, entry, entryL, outs, slotL, knownTy, isB, D.tyn, D.isNon, D.flat, D.feq, D.scalar, decide_true, decide_false, reduceIte, reduceCtorEq, Nat.reduceAdd, Nat.reduceSub, Nat.reduceMul, Nat.reduceLeDiff, Nat.reduceEqDiff, Nat.reducePow, Nat.reduceLT, Int.reduceLE, Int.reduceLT, Int.reduceNe, Int.reduceEq, Int.reduceAdd, Int.reduceSub, Int.reduceMul, Int.reduceNeg, Int.reduceToNat, Int.reducePow, String.reduceEq, String.reduceBEq, String.reduceBNe, Int.reduceFMod, Int.reduceFDiv, Int.reduceNegSucc, Int.reduceAbs]
        exact h _ _
/-! ### methods -/
def cLanes (C : Addr) : Con := fun args k _ => ∃ dr gs, args = [.fr (mapD C dr gs)] ∧ ∀ l, k (.fr (.int dr.length)) [l]
def cDrifts (C : Addr) : Con := fun args k _ => ∃ dr gs, args = [.fr (mapD C dr gs)] ∧ ∀ l, k (.box .lst ((dr.map D.int).map L.fr)) [l]
theorem v_drifts (C : Addr) : ∀ ls kk kx, cDrifts C ls kk kx → t_LaneMap_drifts C (endsOf [] ls kk) (entry [] 1 ls) := by
  rintro _ kk kx ⟨dr, gs, rfl, h⟩
  simp (maxSteps := 4000000) (implicitDefEqProofs := false) only [RB, r_popAt, entry, entryL, outs, slotL, knownTy, isB, D.tyn, D.isNon, D.flat, D.feq, D.scalar, decide_true, decide_false, reduceIte, reduceCtorEq, Nat.reduceAdd, Nat.reduceSub, Nat.reduceMul, Nat.reduceLeDiff, Nat.reduceEqDiff, Nat.reducePow, Nat.reduceLT, Int.reduceLE, Int.reduceLT, Int.reduceNe, Int.reduceEq, Int.reduceAdd, Int.reduceSub, Int.reduceMul, Int.reduceNeg, Int.reduceToNat, Int.reducePow, String.reduceEq, String.reduceBEq, String.reduceBNe, Int.reduceFMod, Int.reduceFDiv, Int.reduceNegSucc, Int.reduceAbs, t_LaneMap_drifts, mapD]
  exact h _
def lensD (gs : List (List Pl)) : List D := (gs.map lenI).map D.int
def cBounds (C : Addr) : Con := fun args k _ => ∃ dr gs, gs.length ≤ 6 ∧ args = [.fr (mapD C dr gs)] ∧ ∀ l, k (.box .lst ((lensD gs).map L.fr)) [l]
theorem v_bounds (C : Addr) : ∀ ls kk kx, cBounds C ls kk kx → t_LaneMap_bounds C (endsOf [] ls kk) (entry [] 2 ls) := by
  rintro _ kk kx ⟨dr, gs, h6, rfl, h⟩
  simp (maxSteps := 4000000) (implicitDefEqProofs := false) only [RB, r_popAt, entry, entryL, outs, slotL, knownTy, isB, D.tyn, D.isNon, D.flat, D.feq, D.scalar, decide_true, decide_false, reduceIte, reduceCtorEq, Nat.reduceAdd, Nat.reduceSub, Nat.reduceMul, Nat.reduceLeDiff, Nat.reduceEqDiff, Nat.reducePow, Nat.reduceLT, Int.reduceLE, Int.reduceLT, Int.reduceNe, Int.reduceEq, Int.reduceAdd, Int.reduceSub, Int.reduceMul, Int.reduceNeg, Int.reduceToNat, Int.reducePow, String.reduceEq, String.reduceBEq, String.reduceBNe, Int.reduceFMod, Int.reduceFDiv, Int.reduceNegSucc, Int.reduceAbs, t_LaneMap_bounds, mapD]
  refine compD_ix' (I := fun i acc e => acc = (lensD (gs.take i)).map L.fr ∧ e = [_, none]) ⟨rfl, rfl⟩ ?_ ?_
  · rintro i d acc env hd ⟨rfl, rfl⟩ M hM
    rw [List.getElem?_map] at hd
    obtain ⟨r, hr1, rfl⟩ := Option.map_eq_some_iff.mp hd
    have hi : i < gs.length := (List.getElem?_eq_some_iff.mp hr1).1
    simp (maxSteps := 4000000) (implicitDefEqProofs := false) only [RB, r_popAt, entry, entryL, outs, slotL, knownTy, isB, D.tyn, D.isNon, D.flat, D.feq, D.scalar, decide_true, decide_false, reduceIte, reduceCtorEq, Nat.reduceAdd, Nat.reduceSub, Nat.reduceMul, Nat.reduceLeDiff, Nat.reduceEqDiff, Nat.reducePow, Nat.reduceLT, Int.reduceLE, Int.reduceLT, Int.reduceNe, Int.reduceEq, Int.reduceAdd, Int.reduceSub, Int.reduceMul, Int.reduceNeg, Int.reduceToNat, Int.reducePow, String.reduceEq, String.reduceBEq, String.reduceBNe, Int.reduceFMod, Int.reduceFDiv, Int.reduceNegSucc, Int.reduceAbs, rowT, lensD]
    refine ⟨by rw [List.length_take]; omega, hM _ _ ⟨?_, rfl⟩⟩
    rw [take_next hr1]
    simp [lensD, lenI]
  · rintro acc env ⟨rfl, rfl⟩
    rw [List.length_map, List.take_length]
    simp (maxSteps := 4000000) (implicitDefEqProofs := false) only [RB, r_popAt, entry, entryL, outs, slotL, knownTy, isB, D.tyn, D.isNon, D.flat, D.feq, D.scalar, decide_true, decide_false, reduceIte, reduceCtorEq, Nat.reduceAdd, Nat.reduceSub, Nat.reduceMul, Nat.reduceLeDiff, Nat.reduceEqDiff, Nat.reducePow, Nat.reduceLT, Int.reduceLE, Int.reduceLT, Int.reduceNe, Int.reduceEq, Int.reduceAdd, Int.reduceSub, Int.reduceMul, Int.reduceNeg, Int.reduceToNat, Int.reducePow, String.reduceEq, String.reduceBEq, String.reduceBNe, Int.reduceFMod, Int.reduceFDiv, Int.reduceNegSucc, Int.reduceAbs]
    exact h _
def cGoals (C : Addr) : Con := fun args k _ => ∃ dr gs, gs.length ≤ 6 ∧ args = [.fr (mapD C dr gs)] ∧ ∀ l, k (.box .lst (gs.map rowB)) [l]
theorem row_at {gs : List (List Pl)} {i : Nat} (h : i < gs.length) : (gs.map rowT)[i]? = some (rowT (row gs i)) := by rw [List.getElem?_map, getD_row h]; rfl
theorem dlt_at {dr : List Int} {i : Nat} (h : i < dr.length) : (dr.map D.int)[i]? = some (.int (dlt dr i)) := by rw [List.getElem?_map, getD_dlt h]; rfl
def cGoal (C : Addr) : Con := fun args k _ => ∃ dr gs p, gs.length = dr.length ∧ IsPl dr.length p ∧ args = [.fr (mapD C dr gs), .fr (plD p)] ∧ ∀ l m, k (.fr (plD (goalOf dr gs p))) [l, m]
theorem v_goal (C : Addr) : ∀ ls kk kx, cGoal C ls kk kx → t_LaneMap_goal C cNeedPlace (endsOf [] ls kk) (entry [] 5 ls) := by
  rintro _ kk kx ⟨dr, gs, ⟨x, y⟩, hl, ⟨p0, p1, p2⟩, rfl, h⟩
  obtain ⟨i, hi⟩ := Int.eq_ofNat_of_zero_le p0
  obtain ⟨a, ha⟩ := Int.eq_ofNat_of_zero_le p2
  have hi : x = (i : Int) := hi
  have ha : y = (a : Int) := ha
  subst hi; subst ha
  have hin : i < dr.length := by have : (i : Int) < dr.length := p1; omega
  simp (maxSteps := 4000000) (implicitDefEqProofs := false) only [RB, r_popAt, entry, entryL, outs, slotL, knownTy, isB, D.tyn, D.isNon, D.flat, D.feq, D.scalar, decide_true, decide_false, reduceIte, reduceCtorEq, Nat.reduceAdd, Nat.reduceSub, Nat.reduceMul, Nat.reduceLeDiff, Nat.reduceEqDiff, Nat.reducePow, Nat.reduceLT, Int.reduceLE, Int.reduceLT, Int.reduceNe, Int.reduceEq, Int.reduceAdd, Int.reduceSub, Int.reduceMul, Int.reduceNeg, Int.reduceToNat, Int.reducePow, String.reduceEq, String.reduceBEq, String.reduceBNe, Int.reduceFMod, Int.reduceFDiv, Int.reduceNegSucc, Int.reduceAbs, t_LaneMap_goal, mapD, plD, cNeedPlace]
  refine ⟨⟨by omega, by omega, by omega⟩, fun _ _ => ?_⟩
  refine atK_get (d := rowT (row gs i)) (by simpa using row_at (by omega)) (by omega) ?_
  simp (maxSteps := 4000000) (implicitDefEqProofs := false) only [RB, r_popAt, entry, entryL, outs, slotL, knownTy, isB, D.tyn, D.isNon, D.flat, D.feq, D.scalar, decide_true, decide_false, reduceIte, reduceCtorEq, Nat.reduceAdd, Nat.reduceSub, Nat.reduceMul, Nat.reduceLeDiff, Nat.reduceEqDiff, Nat.reducePow, Nat.reduceLT, Int.reduceLE, Int.reduceLT, Int.reduceNe, Int.reduceEq, Int.reduceAdd, Int.reduceSub, Int.reduceMul, Int.reduceNeg, Int.reduceToNat, Int.reducePow, String.reduceEq, String.reduceBEq, String.reduceBNe, Int.reduceFMod, Int.reduceFDiv, Int.reduceNegSucc, Int.reduceAbs, rowT]
  split
  · rename_i hlt
    have hlt : a < (row gs i).length := by omega
    refine atK_get (d := plD ((row gs i)[a])) (by simp [hlt]) (by omega) ?_
    simp (maxSteps := 4000000) (implicitDefEqProofs := false) only [RB, r_popAt, entry, entryL, outs, slotL, knownTy, isB, D.tyn, D.isNon, D.flat, D.feq, D.scalar, decide_true, decide_false, reduceIte, reduceCtorEq, Nat.reduceAdd, Nat.reduceSub, Nat.reduceMul, Nat.reduceLeDiff, Nat.reduceEqDiff, Nat.reducePow, Nat.reduceLT, Int.reduceLE, Int.reduceLT, Int.reduceNe, Int.reduceEq, Int.reduceAdd, Int.reduceSub, Int.reduceMul, Int.reduceNeg, Int.reduceToNat, Int.reducePow, String.reduceEq, String.reduceBEq, String.reduceBNe, Int.reduceFMod, Int.reduceFDiv, Int.reduceNegSucc, Int.reduceAbs]
    have e : goalOf dr gs ((i : Int), (a : Int)) = (row gs i)[a] := by unfold goalOf; simp [hlt]
    rw [← e]
    exact h _ _
  · rename_i hge
    refine atK_get (d := .int (dlt dr i)) (by simpa using dlt_at hin) (by omega) ?_
    simp (maxSteps := 4000000) (implicitDefEqProofs := false) only [RB, r_popAt, entry, entryL, outs, slotL, knownTy, isB, D.tyn, D.isNon, D.flat, D.feq, D.scalar, decide_true, decide_false, reduceIte, reduceCtorEq, Nat.reduceAdd, Nat.reduceSub, Nat.reduceMul, Nat.reduceLeDiff, Nat.reduceEqDiff, Nat.reducePow, Nat.reduceLT, Int.reduceLE, Int.reduceLT, Int.reduceNe, Int.reduceEq, Int.reduceAdd, Int.reduceSub, Int.reduceMul, Int.reduceNeg, Int.reduceToNat, Int.reducePow, String.reduceEq, String.reduceBEq, String.reduceBNe, Int.reduceFMod, Int.reduceFDiv, Int.reduceNegSucc, Int.reduceAbs]
    have e : goalOf dr gs ((i : Int), (a : Int)) = ((i : Int), (a : Int) + dlt dr i) := by
      unfold goalOf
      have : (row gs i)[a]? = none := List.getElem?_eq_none_iff.mpr (by omega)
      simp [this]
    have f := h (.fr (mapD C dr gs)) (.fr (plD ((i : Int), (a : Int))))
    rw [e] at f
    exact f
def cSource (C : Addr) : Con := fun args k _ => ∃ dr gs p, gs.length = dr.length ∧ IsPl dr.length p ∧ args = [.fr (mapD C dr gs), .fr (plD p)] ∧ ∀ l m, k (.fr (plD (sourceOf dr gs p))) [l, m]
def cMade (C : Addr) : Con := fun args k _ => ∃ dr gs g, Bij dr gs ∧ Gform g gs ∧ args = [.fr (drD dr), .fr g] ∧ ∀ l m, k (mapL C dr (least dr gs)) [l, m]
theorem least_least (dr : List Int) (gs : List (List Pl)) : least dr (least dr gs) = least dr gs := by
  unfold least
  rw [List.length_map, List.length_range]
  apply List.map_congr_left
  intro i hi
  have e : row ((List.range gs.length).map (leastR dr gs)) i = leastR dr gs i := least_row dr gs i
  have e2 : leastR dr ((List.range gs.length).map (leastR dr gs)) i = (leastR dr gs i).take (trim i (dlt dr i) (leastR dr gs i) (leastR dr gs i).length) := by
    show (row ((List.range gs.length).map (leastR dr gs)) i).take (trim i (dlt dr i) (row ((List.range gs.length).map (leastR dr gs)) i) (row ((List.range gs.length).map (leastR dr gs)) i).length) = _
    rw [e]
  rw [e2]
  have e3 : trim i (dlt dr i) (leastR dr gs i) (leastR dr gs i).length = (leastR dr gs i).length := by
    refine trim_id fun m hm z => ?_
    rw [leastR_len] at hm
    obtain ⟨z1, _⟩ := leastR_get.mp z
    exact trim_last hm z1
  rw [e3, List.take_length]
end FL

namespace FL
open PySem PySem.Spec PyProof.Rows L2 TL
def cSame (C : Addr) : Con := fun args k _ => ∃ dr1 gs1 dr2 gs2, dr1.length = dr2.length ∧ args = [.fr (mapD C dr1 gs1), .fr (mapD C dr2 gs2)] ∧ ∀ l m, k (.fr .non) [l, m]
/-! ### compositions that are the identity -/
def idR (i n : Nat) : List Pl := (List.range n).map fun (a : Nat) => ((i : Int), (a : Int))
theorem idR_get {i n a : Nat} (h : a < n) : (idR i n)[a]? = some ((i : Int), (a : Int)) := by simp [idR, h]
def idG (f : Nat → Nat) (n : Nat) : List (List Pl) := (List.range n).map fun i => idR i (f i)
theorem row_idG {f : Nat → Nat} {n i : Nat} (h : i < n) : row (idG f n) i = idR i (f i) := by simp [row, idG, List.getD_eq_getElem?_getD, h]
theorem least_idG (f : Nat → Nat) (n : Nat) : least (zeros n) (idG f n) = nones n := by
  have h : ∀ i, i < n → leastR (zeros n) (idG f n) i = [] := fun i hi => by
    have e := row_idG (f := f) hi
    unfold leastR
    rw [e, dlt_zeros, trim_all fun a ha => ?_]
    · rfl
    · rw [idR_get (by simpa [idR] using ha)]; simp
  unfold least nones
  have el : (idG f n).length = n := by simp [idG]
  rw [el]
  apply List.ext_getElem?
  intro i
  by_cases hi : i < n
  · simp [hi, h i hi]
  · rw [List.getElem?_eq_none_iff.mpr (by simp; omega), List.getElem?_eq_none_iff.mpr (by simp; omega)]
theorem least_nones (n : Nat) : least (zeros n) (nones n) = nones n := by
  have := least_idG (fun _ => 0) n
  have e : idG (fun _ => 0) n = nones n := by
    unfold idG nones
    apply List.ext_getElem?
    intro i
    by_cases hi : i < n
    · simp [hi, idR]
    · rw [List.getElem?_eq_none_iff.mpr (by simp; omega), List.getElem?_eq_none_iff.mpr (by simp; omega)]
  rw [e] at this
  exact this
theorem bij_nones {n : Nat} (h1 : 1 ≤ n) (h6 : n ≤ 6) : Bij (zeros n) (nones n) := by
  have zl : (zeros n).length = n := by simp [zeros]
  refine ⟨by rw [zl]; exact h1, by rw [zl]; exact h6, by rw [zl]; simp [nones], by simp [nones], fun i => by rw [dlt_zeros]; omega, fun i _ => by rw [row_nones, dlt_zeros]; simp, fun i a p _ hp => ?_, fun j b _ hb => ?_, fun i a j b p _ _ hp _ => ?_⟩
  · rw [row_nones] at hp; simp at hp
  · rw [row_nones, dlt_zeros] at hb; simp at hb; omega
  · rw [row_nones] at hp; simp at hp
structure Pair (dr1 : List Int) (gs1 : List (List Pl)) (dr2 : List Int) (gs2 : List (List Pl)) : Prop where
  b1 : Bij dr1 gs1
  b2 : Bij dr2 gs2
  ln : dr1.length = dr2.length
  ng : ∀ i, dlt dr2 i = - dlt dr1 i
  id : ∀ p, IsPl dr1.length p → goalOf dr2 gs2 (goalOf dr1 gs1 p) = p
def szOf (dr1 : List Int) (gs1 gs2 : List (List Pl)) (i : Nat) : Nat := (max ((row gs1 i).length : Int) ((row gs2 i).length - dlt dr1 i)).toNat
def cTable (C : Addr) : Con := fun args k _ => ∃ dr1 gs1 dr2 gs2, Pair dr1 gs1 dr2 gs2 ∧ args = [.fr (mapD C dr1 gs1), .fr (mapD C dr2 gs2)] ∧ ∀ l m, k (.fr (.tup [drD (zeros dr1.length), gsT (nones dr1.length)])) [l, m]
theorem zip_sum {dr1 dr2 : List Int} (hl : dr1.length = dr2.length) (hn : ∀ i, dlt dr2 i = - dlt dr1 i) {i : Nat} {d : D} (h : (pairsZ (dr1.map D.int) (dr2.map D.int))[i]? = some d) : i < dr1.length ∧ d = .tup [.int (dlt dr1 i), .int (- dlt dr1 i)] := by
  obtain ⟨a, b, ha, hb, e⟩ := pairsZ_get i _ _ d h
  have hi : i < dr1.length := by simpa using (List.getElem?_eq_some_iff.mp ha).1
  rw [dlt_at hi] at ha
  rw [dlt_at (by omega), hn] at hb
  cases ha; cases hb
  exact ⟨hi, e⟩
theorem zeros_take (n i : Nat) : ((List.replicate i (0 : Int)).map D.int).map L.fr ++ [L.fr (.int 0)] = ((List.replicate (i + 1) (0 : Int)).map D.int).map L.fr := by
  rw [List.replicate_succ']; simp
def cCompose (C : Addr) : Con := fun args k _ => ∃ dr1 gs1 dr2 gs2, Pair dr1 gs1 dr2 gs2 ∧ args = [.fr (mapD C dr1 gs1), .fr (mapD C dr2 gs2)] ∧ ∀ l m, k (mapL C (zeros dr1.length) (nones dr1.length)) [l, m]
theorem atF_fr {ds : List D} {y : Int} {d : D} {k : L → Prop} (h : ds[y.toNat]? = some d) (h0 : 0 ≤ y) (hk : k (.fr d)) : atF (ds.map L.fr) y k := by
  have hy : (y.toNat : Int) = y := Int.toNat_of_nonneg h0
  refine ⟨d, ?_, hk⟩
  rw [← hy]
  exact atI_nat (by rw [List.getElem?_map, h]; rfl)
/-! ### the inverse -/
def cInverse (C : Addr) : Con := fun args k _ => ∃ dr gs, Bij dr gs ∧ dr.sum = 0 ∧ args = [.fr (mapD C dr gs)] ∧ ∀ l, k (mapL C (neg dr) (least (neg dr) (invG dr gs))) [l]
theorem neg_take (dr : List Int) {i : Nat} (h : i < dr.length) : ((dr.take (i + 1)).map fun d => L.fr (.int (-d))) = ((dr.take i).map fun d => L.fr (.int (-d))) ++ [L.fr (.int (- dlt dr i))] := by
  rw [take_next (getD_dlt h)]; simp
end FL

namespace FL
open PySem PySem.Spec PyProof.Rows L2 TL
/-! ### the bag -/
def IsBag (l : L) : Prop := ∃ (xs : List Int) (pos held mix cnt : Int), l = .box .lst [.fr (.box .lst (xs.map D.int)), .fr (.int pos), .fr (.int held), .fr (.int mix), .fr (.int cnt)] ∧ 0 ≤ pos ∧ 0 ≤ held ∧ 0 ≤ mix ∧ mix < 2147483629
def cPull : Con := fun args k _ => match args with
  | [b, .fr (.int z)] => IsBag b ∧ (0 < z ∧ z ≤ 1000000000000000000) ∧ ∀ r b' l', IsBag b' → 0 ≤ r → r < z → k (.fr (.int r)) [b', l']
  | _ => False
def cBag : Con := fun args k _ => ∃ ns : List Int, args = [.fr (.ro (ns.map D.int))] ∧ ns.length ≤ 63 ∧ ∀ b l', IsBag b → k b [l']
theorem cutD_map {α β : Type} (f : α → β) (xs : List α) (lo hi : Option Int) : TL.cutD (xs.map f) lo hi = (TL.cutD xs lo hi).map f := by
  unfold TL.cutD
  rw [List.length_map, ← List.map_drop, ← List.map_take]
theorem v_bag : ∀ ls kk kx, cBag ls kk kx → t_law_bag (endsOf [] ls kk) (entry [] 3 ls) := by
  rintro _ kk kx ⟨ns, rfl, hl, h⟩
  simp (maxSteps := 4000000) (implicitDefEqProofs := false) only [RB, r_popAt, entry, entryL, outs, slotL, knownTy, isB, D.tyn, D.isNon, D.flat, D.feq, D.scalar, decide_true, decide_false, reduceIte, reduceCtorEq, Nat.reduceAdd, Nat.reduceSub, Nat.reduceMul, Nat.reduceLeDiff, Nat.reduceEqDiff, Nat.reducePow, Nat.reduceLT, Int.reduceLE, Int.reduceLT, Int.reduceNe, Int.reduceEq, Int.reduceAdd, Int.reduceSub, Int.reduceMul, Int.reduceNeg, Int.reduceToNat, Int.reducePow, String.reduceEq, String.reduceBEq, String.reduceBNe, Int.reduceFMod, Int.reduceFDiv, Int.reduceNegSucc, Int.reduceAbs, t_law_bag]
  refine forD_ix' (I := fun _ e => ∃ (m : Int) (o : Option L), 0 ≤ m ∧ m < 2147483629 ∧ e = [some (.fr (.ro (ns.map D.int))), some (.fr (.int m)), o]) ⟨_, _, by decide, by decide, rfl⟩ ?_ ?_
  · rintro i d env hd ⟨m, o, h0, h1, rfl⟩ N hN
    rw [cutD_map, List.getElem?_map] at hd
    obtain ⟨x, _, rfl⟩ := Option.map_eq_some_iff.mp hd
    simp (maxSteps := 4000000) (implicitDefEqProofs := false) only [RB, r_popAt, entry, entryL, outs, slotL, knownTy, isB, D.tyn, D.isNon, D.flat, D.feq, D.scalar, decide_true, decide_false, reduceIte, reduceCtorEq, Nat.reduceAdd, Nat.reduceSub, Nat.reduceMul, Nat.reduceLeDiff, Nat.reduceEqDiff, Nat.reducePow, Nat.reduceLT, Int.reduceLE, Int.reduceLT, Int.reduceNe, Int.reduceEq, Int.reduceAdd, Int.reduceSub, Int.reduceMul, Int.reduceNeg, Int.reduceToNat, Int.reducePow, String.reduceEq, String.reduceBEq, String.reduceBNe, Int.reduceFMod, Int.reduceFDiv, Int.reduceNegSucc, Int.reduceAbs, t_law_bag_b1]
    exact ⟨.of_right (by decide), hN _ ⟨_, _, fmod_nn _ (by decide), fmod_lt _ (by decide), rfl⟩⟩
  · rintro e ⟨m, o, h0, h1, rfl⟩
    simp (maxSteps := 4000000) (implicitDefEqProofs := false) only [RB, r_popAt, entry, entryL, outs, slotL, knownTy, isB, D.tyn, D.isNon, D.flat, D.feq, D.scalar, decide_true, decide_false, reduceIte, reduceCtorEq, Nat.reduceAdd, Nat.reduceSub, Nat.reduceMul, Nat.reduceLeDiff, Nat.reduceEqDiff, Nat.reducePow, Nat.reduceLT, Int.reduceLE, Int.reduceLT, Int.reduceNe, Int.reduceEq, Int.reduceAdd, Int.reduceSub, Int.reduceMul, Int.reduceNeg, Int.reduceToNat, Int.reducePow, String.reduceEq, String.reduceBEq, String.reduceBNe, Int.reduceFMod, Int.reduceFDiv, Int.reduceNegSucc, Int.reduceAbs]
    refine h _ _ ⟨TL.cutD ns none (some 63), 0, 0, m, 0, ?_, by decide, by decide, h0, h1⟩
    rw [cutD_map]
theorem v_pull_s1 {xs : List Int} {pos held mix cnt z : Int} (h0 : 0 ≤ pos) (h1 : 0 ≤ held) (h2 : 0 ≤ mix) (h3 : mix < 2147483629) (De : DEnds)
    (h : ∀ b o1 o2, IsBag b → De.nx [some b, some (.fr (.int z)), o1, o2, none]) :
    t_law_pull_s1 De [some (.box .lst [.fr (.box .lst (xs.map D.int)), .fr (.int pos), .fr (.int held), .fr (.int mix), .fr (.int cnt)]), some (.fr (.int z)), none, none, none] := by
  obtain ⟨n, r, bk, ct⟩ := De
  have h : ∀ b o1 o2, IsBag b → n [some b, some (.fr (.int z)), o1, o2, none] := h
  simp (maxSteps := 4000000) (implicitDefEqProofs := false) only [RB, r_popAt, entry, entryL, outs, slotL, knownTy, isB, D.tyn, D.isNon, D.flat, D.feq, D.scalar, decide_true, decide_false, reduceIte, reduceCtorEq, Nat.reduceAdd, Nat.reduceSub, Nat.reduceMul, Nat.reduceLeDiff, Nat.reduceEqDiff, Nat.reducePow, Nat.reduceLT, Int.reduceLE, Int.reduceLT, Int.reduceNe, Int.reduceEq, Int.reduceAdd, Int.reduceSub, Int.reduceMul, Int.reduceNeg, Int.reduceToNat, Int.reducePow, String.reduceEq, String.reduceBEq, String.reduceBNe, Int.reduceFMod, Int.reduceFDiv, Int.reduceNegSucc, Int.reduceAbs, t_law_pull_s1]
  have same := h _ none none ⟨xs, pos, held, mix, cnt, rfl, h0, h1, h2, h3⟩
  split
  · split
    · rename_i e1 e2
      refine atK_ints h0 e2 fun x => ?_
      simp (maxSteps := 4000000) (implicitDefEqProofs := false) only [RB, r_popAt, entry, entryL, outs, slotL, knownTy, isB, D.tyn, D.isNon, D.flat, D.feq, D.scalar, decide_true, decide_false, reduceIte, reduceCtorEq, Nat.reduceAdd, Nat.reduceSub, Nat.reduceMul, Nat.reduceLeDiff, Nat.reduceEqDiff, Nat.reducePow, Nat.reduceLT, Int.reduceLE, Int.reduceLT, Int.reduceNe, Int.reduceEq, Int.reduceAdd, Int.reduceSub, Int.reduceMul, Int.reduceNeg, Int.reduceToNat, Int.reducePow, String.reduceEq, String.reduceBEq, String.reduceBNe, Int.reduceFMod, Int.reduceFDiv, Int.reduceNegSucc, Int.reduceAbs]
      split
      · exact h _ _ _ ⟨xs, pos + 1, x, mix, cnt, rfl, by omega, by omega, h2, h3⟩
      · exact ⟨.of_right (by decide), .of_right (by decide), h _ _ _ ⟨xs, pos + 1, held, _, cnt, rfl, by omega, h1, fmod_nn _ (by decide), fmod_lt _ (by decide)⟩⟩
    · exact same
  · exact same
theorem v_pull : ∀ ls kk kx, cPull ls kk kx → t_law_pull (endsOf [0] ls kk) (entry [0] 5 ls) := by
  intro ls kk kx h
  unfold cPull at h
  split at h
  · rename_i b z
    obtain ⟨⟨xs, pos, held, mix, cnt, rfl, h0, h1, h2, h3⟩, ⟨z0, z1⟩, h⟩ := h
    simp (maxSteps := 4000000) (implicitDefEqProofs := false) only [RB, r_popAt, entry, entryL, outs, slotL, knownTy, isB, D.tyn, D.isNon, D.flat, D.feq, D.scalar, decide_true, decide_false, reduceIte, reduceCtorEq, Nat.reduceAdd, Nat.reduceSub, Nat.reduceMul, Nat.reduceLeDiff, Nat.reduceEqDiff, Nat.reducePow, Nat.reduceLT, Int.reduceLE, Int.reduceLT, Int.reduceNe, Int.reduceEq, Int.reduceAdd, Int.reduceSub, Int.reduceMul, Int.reduceNeg, Int.reduceToNat, Int.reducePow, String.reduceEq, String.reduceBEq, String.reduceBNe, Int.reduceFMod, Int.reduceFDiv, Int.reduceNegSucc, Int.reduceAbs, t_law_pull]
    refine v_pull_s1 h0 h1 h2 h3 _ fun b o1 o2 hb => ?_
    obtain ⟨xs, pos, held, mix, cnt, rfl, h0, h1, h2, h3⟩ := hb
    simp (maxSteps := 4000000) (implicitDefEqProofs := false) only [RB, r_popAt, entry, entryL, outs, slotL, knownTy, isB, D.tyn, D.isNon, D.flat, D.feq, D.scalar, decide_true, decide_false, reduceIte, reduceCtorEq, Nat.reduceAdd, Nat.reduceSub, Nat.reduceMul, Nat.reduceLeDiff, Nat.reduceEqDiff, Nat.reducePow, Nat.reduceLT, Int.reduceLE, Int.reduceLT, Int.reduceNe, Int.reduceEq, Int.reduceAdd, Int.reduceSub, Int.reduceMul, Int.reduceNeg, Int.reduceToNat, Int.reducePow, String.reduceEq, String.reduceBEq, String.reduceBNe, Int.reduceFMod, Int.reduceFDiv, Int.reduceNegSucc, Int.reduceAbs]
    have dz : DivOk z := ⟨by omega, .inr ((Nat.log2_lt (by omega)).mpr (Nat.lt_of_lt_of_le (show z.natAbs < 2 ^ 64 by omega) (Nat.pow_le_pow_right (by decide) (by decide))))⟩
    split
    · exact ⟨by omega, dz, h _ _ _ ⟨xs, pos, _, mix, cnt, rfl, h0, fdiv_nn h1 z0, h2, h3⟩ (fmod_nn _ z0) (fmod_lt _ z0)⟩
    · refine ⟨.of_right (intBits_le_64 (by omega) (by omega)), .of_right (by decide), .of_right (by decide), .of_left (by decide), ⟨by decide, .inl (by decide)⟩, by omega, h _ _ _ ⟨xs, pos, held, _, cnt, rfl, h0, h1, fmod_nn _ (by decide), fmod_lt _ (by decide)⟩ (fmod_nn _ z0) (fmod_lt _ z0)⟩
  · exact h.elim
/-! ### data that are alike -/
def Lk : Nat → D → Prop
  | _, .int _ => True
  | _, .str _ => True
  | n + 1, .box .lst ds => ds.length ≤ 5000 ∧ ∀ d ∈ ds, Lk n d
  | n + 1, .tup ds => ds.length ≤ 5000 ∧ ∀ d ∈ ds, Lk n d
  | _, _ => False
def cLike (n : Nat) : Con := fun args k _ => ∃ d, Lk n d ∧ args = [.fr d, .fr d] ∧ ∀ l m, k (.fr (.bl true)) [l, m]
theorem cmp_bb (a b c d : Bool) : Cmp2 (.tup [.bl a, .bl b]) (.tup [.bl c, .bl d]) := by simp [Cmp2, SeqAt.shaped, D.py, D.pys, PyData.canLay0, PyData.canLayAll0, PyData.depth, PyData.depthAll]
theorem eqv_bb (a b : Bool) : PyData.eqv (D.tup [.bl a, .bl b]).py (D.tup [.bl a, .bl b]).py = true := by simp [D.py, D.pys, PyData.eqv, PyData.eqvAll]
theorem v_like0 : ∀ ls kk kx, cLike 0 ls kk kx → t_law_like cNo (endsOf [] ls kk) (entry [] 5 ls) := by
  rintro _ kk kx ⟨d, hd, rfl, h⟩
  unfold Lk at hd
  split at hd
  · simp (maxSteps := 4000000) (implicitDefEqProofs := false) only [RB, r_popAt, entry, entryL, outs, slotL, knownTy, isB, D.tyn, D.isNon, D.flat, D.feq, D.scalar, decide_true, decide_false, reduceIte, reduceCtorEq, Nat.reduceAdd, Nat.reduceSub, Nat.reduceMul, Nat.reduceLeDiff, Nat.reduceEqDiff, Nat.reducePow, Nat.reduceLT, Int.reduceLE, Int.reduceLT, Int.reduceNe, Int.reduceEq, Int.reduceAdd, Int.reduceSub, Int.reduceMul, Int.reduceNeg, Int.reduceToNat, Int.reducePow, String.reduceEq, String.reduceBEq, String.reduceBNe, Int.reduceFMod, Int.reduceFDiv, Int.reduceNegSucc, Int.reduceAbs, t_law_like]
    exact h _ _
  · simp (maxSteps := 4000000) (implicitDefEqProofs := false) only [RB, r_popAt, entry, entryL, outs, slotL, knownTy, isB, D.tyn, D.isNon, D.flat, D.feq, D.scalar, decide_true, decide_false, reduceIte, reduceCtorEq, Nat.reduceAdd, Nat.reduceSub, Nat.reduceMul, Nat.reduceLeDiff, Nat.reduceEqDiff, Nat.reducePow, Nat.reduceLT, Int.reduceLE, Int.reduceLT, Int.reduceNe, Int.reduceEq, Int.reduceAdd, Int.reduceSub, Int.reduceMul, Int.reduceNeg, Int.reduceToNat, Int.reducePow, String.reduceEq, String.reduceBEq, String.reduceBNe, Int.reduceFMod, Int.reduceFDiv, Int.reduceNegSucc, Int.reduceAbs, t_law_like]
    exact h _ _
  · rename_i e; cases e
  · rename_i e; cases e
  · exact hd.elim
theorem v_likeS (n : Nat) : ∀ ls kk kx, cLike (n + 1) ls kk kx → t_law_like (cLike n) (endsOf [] ls kk) (entry [] 5 ls) := by
  rintro _ kk kx ⟨d, hd, rfl, h⟩
  unfold Lk at hd
  split at hd
  · simp (maxSteps := 4000000) (implicitDefEqProofs := false) only [RB, r_popAt, entry, entryL, outs, slotL, knownTy, isB, D.tyn, D.isNon, D.flat, D.feq, D.scalar, decide_true, decide_false, reduceIte, reduceCtorEq, Nat.reduceAdd, Nat.reduceSub, Nat.reduceMul, Nat.reduceLeDiff, Nat.reduceEqDiff, Nat.reducePow, Nat.reduceLT, Int.reduceLE, Int.reduceLT, Int.reduceNe, Int.reduceEq, Int.reduceAdd, Int.reduceSub, Int.reduceMul, Int.reduceNeg, Int.reduceToNat, Int.reducePow, String.reduceEq, String.reduceBEq, String.reduceBNe, Int.reduceFMod, Int.reduceFDiv, Int.reduceNegSucc, Int.reduceAbs, t_law_like]
    exact h _ _
  · simp (maxSteps := 4000000) (implicitDefEqProofs := false) only [RB, r_popAt, entry, entryL, outs, slotL, knownTy, isB, D.tyn, D.isNon, D.flat, D.feq, D.scalar, decide_true, decide_false, reduceIte, reduceCtorEq, Nat.reduceAdd, Nat.reduceSub, Nat.reduceMul, Nat.reduceLeDiff, Nat.reduceEqDiff, Nat.reducePow, Nat.reduceLT, Int.reduceLE, Int.reduceLT, Int.reduceNe, Int.reduceEq, Int.reduceAdd, Int.reduceSub, Int.reduceMul, Int.reduceNeg, Int.reduceToNat, Int.reducePow, String.reduceEq, String.reduceBEq, String.reduceBNe, Int.reduceFMod, Int.reduceFDiv, Int.reduceNegSucc, Int.reduceAbs, t_law_like]
    exact h _ _
  · rename_i m ds e
    cases e
    simp (maxSteps := 4000000) (implicitDefEqProofs := false) only [RB, r_popAt, entry, entryL, outs, slotL, knownTy, isB, D.tyn, D.isNon, D.flat, D.feq, D.scalar, decide_true, decide_false, reduceIte, reduceCtorEq, Nat.reduceAdd, Nat.reduceSub, Nat.reduceMul, Nat.reduceLeDiff, Nat.reduceEqDiff, Nat.reducePow, Nat.reduceLT, Int.reduceLE, Int.reduceLT, Int.reduceNe, Int.reduceEq, Int.reduceAdd, Int.reduceSub, Int.reduceMul, Int.reduceNeg, Int.reduceToNat, Int.reducePow, String.reduceEq, String.reduceBEq, String.reduceBNe, Int.reduceFMod, Int.reduceFDiv, Int.reduceNegSucc, Int.reduceAbs, t_law_like, cmp_bb, eqv_bb]
    refine ⟨by omega, ?_⟩
    refine compD_ix' (I := fun i acc e => acc = List.replicate i (.fr (.bl true)) ∧ e = [some (.fr (.box .lst ds)), some (.fr (.box .lst ds)), some (.box .lst [.fr (.tup [.bl true, .bl false]), .fr (.tup [.bl true, .bl false])]), none, none]) ⟨rfl, rfl⟩ ?_ ?_
    · rintro i d acc env hd' ⟨rfl, rfl⟩ M hM
      obtain ⟨hi, rfl⟩ := rngD_get hd'
      have hi : i < ds.length := by omega
      have e0 : (0 + (i : Int)) = (i : Int) := by omega
      simp (maxSteps := 4000000) (implicitDefEqProofs := false) only [RB, r_popAt, entry, entryL, outs, slotL, knownTy, isB, D.tyn, D.isNon, D.flat, D.feq, D.scalar, decide_true, decide_false, reduceIte, reduceCtorEq, Nat.reduceAdd, Nat.reduceSub, Nat.reduceMul, Nat.reduceLeDiff, Nat.reduceEqDiff, Nat.reducePow, Nat.reduceLT, Int.reduceLE, Int.reduceLT, Int.reduceNe, Int.reduceEq, Int.reduceAdd, Int.reduceSub, Int.reduceMul, Int.reduceNeg, Int.reduceToNat, Int.reducePow, String.reduceEq, String.reduceBEq, String.reduceBNe, Int.reduceFMod, Int.reduceFDiv, Int.reduceNegSucc, Int.reduceAbs, e0]
      refine atK_get (d := ds[i]) (by simp [hi]) (by omega) ?_
      simp (maxSteps := 4000000) (implicitDefEqProofs := false) only [RB, r_popAt, entry, entryL, outs, slotL, knownTy, isB, D.tyn, D.isNon, D.flat, D.feq, D.scalar, decide_true, decide_false, reduceIte, reduceCtorEq, Nat.reduceAdd, Nat.reduceSub, Nat.reduceMul, Nat.reduceLeDiff, Nat.reduceEqDiff, Nat.reducePow, Nat.reduceLT, Int.reduceLE, Int.reduceLT, Int.reduceNe, Int.reduceEq, Int.reduceAdd, Int.reduceSub, Int.reduceMul, Int.reduceNeg, Int.reduceToNat, Int.reducePow, String.reduceEq, String.reduceBEq, String.reduceBNe, Int.reduceFMod, Int.reduceFDiv, Int.reduceNegSucc, Int.reduceAbs, e0]
      refine atK_get (d := ds[i]) (by simp [hi]) (by omega) ?_
      simp (maxSteps := 4000000) (implicitDefEqProofs := false) only [RB, r_popAt, entry, entryL, outs, slotL, knownTy, isB, D.tyn, D.isNon, D.flat, D.feq, D.scalar, decide_true, decide_false, reduceIte, reduceCtorEq, Nat.reduceAdd, Nat.reduceSub, Nat.reduceMul, Nat.reduceLeDiff, Nat.reduceEqDiff, Nat.reducePow, Nat.reduceLT, Int.reduceLE, Int.reduceLT, Int.reduceNe, Int.reduceEq, Int.reduceAdd, Int.reduceSub, Int.reduceMul, Int.reduceNeg, Int.reduceToNat, Int.reducePow, String.reduceEq, String.reduceBEq, String.reduceBNe, Int.reduceFMod, Int.reduceFDiv, Int.reduceNegSucc, Int.reduceAbs]
      refine ⟨_, hd.2 _ (List.getElem_mem hi), rfl, fun _ _ => ?_⟩
      simp (maxSteps := 4000000) (implicitDefEqProofs := false) only [RB, r_popAt, entry, entryL, outs, slotL, knownTy, isB, D.tyn, D.isNon, D.flat, D.feq, D.scalar, decide_true, decide_false, reduceIte, reduceCtorEq, Nat.reduceAdd, Nat.reduceSub, Nat.reduceMul, Nat.reduceLeDiff, Nat.reduceEqDiff, Nat.reducePow, Nat.reduceLT, Int.reduceLE, Int.reduceLT, Int.reduceNe, Int.reduceEq, Int.reduceAdd, Int.reduceSub, Int.reduceMul, Int.reduceNeg, Int.reduceToNat, Int.reducePow, String.reduceEq, String.reduceBEq, String.reduceBNe, Int.reduceFMod, Int.reduceFDiv, Int.reduceNegSucc, Int.reduceAbs]
      refine ⟨by rw [List.length_replicate]; omega, hM _ _ ⟨by rw [List.replicate_succ'], rfl⟩⟩
    · rintro acc env ⟨rfl, rfl⟩
      rw [rngD_len]
      have e : ∀ n : Nat, L.toDs (List.replicate n (.fr (.bl true))) = (List.replicate n true).map D.bl := fun n => by
        rw [toDs_map]; simp [L.toD]
      simp (maxSteps := 4000000) (implicitDefEqProofs := false) only [RB, r_popAt, entry, entryL, outs, slotL, knownTy, isB, D.tyn, D.isNon, D.flat, D.feq, D.scalar, decide_true, decide_false, reduceIte, reduceCtorEq, Nat.reduceAdd, Nat.reduceSub, Nat.reduceMul, Nat.reduceLeDiff, Nat.reduceEqDiff, Nat.reducePow, Nat.reduceLT, Int.reduceLE, Int.reduceLT, Int.reduceNe, Int.reduceEq, Int.reduceAdd, Int.reduceSub, Int.reduceMul, Int.reduceNeg, Int.reduceToNat, Int.reducePow, String.reduceEq, String.reduceBEq, String.reduceBNe, Int.reduceFMod, Int.reduceFDiv, Int.reduceNegSucc, Int.reduceAbs, e]
      refine ⟨_, dBools_map _, ?_⟩
      have e2 : ∀ n : Nat, (List.replicate n true).all id = true := fun n => by simp
      simp (maxSteps := 4000000) (implicitDefEqProofs := false) only [RB, r_popAt, entry, entryL, outs, slotL, knownTy, isB, D.tyn, D.isNon, D.flat, D.feq, D.scalar, decide_true, decide_false, reduceIte, reduceCtorEq, Nat.reduceAdd, Nat.reduceSub, Nat.reduceMul, Nat.reduceLeDiff, Nat.reduceEqDiff, Nat.reducePow, Nat.reduceLT, Int.reduceLE, Int.reduceLT, Int.reduceNe, Int.reduceEq, Int.reduceAdd, Int.reduceSub, Int.reduceMul, Int.reduceNeg, Int.reduceToNat, Int.reducePow, String.reduceEq, String.reduceBEq, String.reduceBNe, Int.reduceFMod, Int.reduceFDiv, Int.reduceNegSucc, Int.reduceAbs, e2]
      exact h _ _
  · rename_i m ds e
    cases e
    simp (maxSteps := 4000000) (implicitDefEqProofs := false) only [RB, r_popAt, entry, entryL, outs, slotL, knownTy, isB, D.tyn, D.isNon, D.flat, D.feq, D.scalar, decide_true, decide_false, reduceIte, reduceCtorEq, Nat.reduceAdd, Nat.reduceSub, Nat.reduceMul, Nat.reduceLeDiff, Nat.reduceEqDiff, Nat.reducePow, Nat.reduceLT, Int.reduceLE, Int.reduceLT, Int.reduceNe, Int.reduceEq, Int.reduceAdd, Int.reduceSub, Int.reduceMul, Int.reduceNeg, Int.reduceToNat, Int.reducePow, String.reduceEq, String.reduceBEq, String.reduceBNe, Int.reduceFMod, Int.reduceFDiv, Int.reduceNegSucc, Int.reduceAbs, t_law_like, cmp_bb, eqv_bb]
    refine ⟨by omega, ?_⟩
    refine compD_ix' (I := fun i acc e => acc = List.replicate i (.fr (.bl true)) ∧ e = [some (.fr (.tup ds)), some (.fr (.tup ds)), some (.box .lst [.fr (.tup [.bl false, .bl true]), .fr (.tup [.bl false, .bl true])]), none, none]) ⟨rfl, rfl⟩ ?_ ?_
    · rintro i d acc env hd' ⟨rfl, rfl⟩ M hM
      obtain ⟨hi, rfl⟩ := rngD_get hd'
      have hi : i < ds.length := by omega
      have e0 : (0 + (i : Int)) = (i : Int) := by omega
      simp (maxSteps := 4000000) (implicitDefEqProofs := false) only [RB, r_popAt, entry, entryL, outs, slotL, knownTy, isB, D.tyn, D.isNon, D.flat, D.feq, D.scalar, decide_true, decide_false, reduceIte, reduceCtorEq, Nat.reduceAdd, Nat.reduceSub, Nat.reduceMul, Nat.reduceLeDiff, Nat.reduceEqDiff, Nat.reducePow, Nat.reduceLT, Int.reduceLE, Int.reduceLT, Int.reduceNe, Int.reduceEq, Int.reduceAdd, Int.reduceSub, Int.reduceMul, Int.reduceNeg, Int.reduceToNat, Int.reducePow, String.reduceEq, String.reduceBEq, String.reduceBNe, Int.reduceFMod, Int.reduceFDiv, Int.reduceNegSucc, Int.reduceAbs, e0]
      refine atK_get (d := ds[i]) (by simp [hi]) (by omega) ?_
      simp (maxSteps := 4000000) (implicitDefEqProofs := false) only [RB, r_popAt, entry, entryL, outs, slotL, knownTy, isB, D.tyn, D.isNon, D.flat, D.feq, D.scalar, decide_true, decide_false, reduceIte, reduceCtorEq, Nat.reduceAdd, Nat.reduceSub, Nat.reduceMul, Nat.reduceLeDiff, Nat.reduceEqDiff, Nat.reducePow, Nat.reduceLT, Int.reduceLE, Int.reduceLT, Int.reduceNe, Int.reduceEq, Int.reduceAdd, Int.reduceSub, Int.reduceMul, Int.reduceNeg, Int.reduceToNat, Int.reducePow, String.reduceEq, String.reduceBEq, String.reduceBNe, Int.reduceFMod, Int.reduceFDiv, Int.reduceNegSucc, Int.reduceAbs, e0]
      refine atK_get (d := ds[i]) (by simp [hi]) (by omega) ?_
      simp (maxSteps := 4000000) (implicitDefEqProofs := false) only [RB, r_popAt, entry, entryL, outs, slotL, knownTy, isB, D.tyn, D.isNon, D.flat, D.feq, D.scalar, decide_true, decide_false, reduceIte, reduceCtorEq, Nat.reduceAdd, Nat.reduceSub, Nat.reduceMul, Nat.reduceLeDiff, Nat.reduceEqDiff, Nat.reducePow, Nat.reduceLT, Int.reduceLE, Int.reduceLT, Int.reduceNe, Int.reduceEq, Int.reduceAdd, Int.reduceSub, Int.reduceMul, Int.reduceNeg, Int.reduceToNat, Int.reducePow, String.reduceEq, String.reduceBEq, String.reduceBNe, Int.reduceFMod, Int.reduceFDiv, Int.reduceNegSucc, Int.reduceAbs]
      refine ⟨_, hd.2 _ (List.getElem_mem hi), rfl, fun _ _ => ?_⟩
      simp (maxSteps := 4000000) (implicitDefEqProofs := false) only [RB, r_popAt, entry, entryL, outs, slotL, knownTy, isB, D.tyn, D.isNon, D.flat, D.feq, D.scalar, decide_true, decide_false, reduceIte, reduceCtorEq, Nat.reduceAdd, Nat.reduceSub, Nat.reduceMul, Nat.reduceLeDiff, Nat.reduceEqDiff, Nat.reducePow, Nat.reduceLT, Int.reduceLE, Int.reduceLT, Int.reduceNe, Int.reduceEq, Int.reduceAdd, Int.reduceSub, Int.reduceMul, Int.reduceNeg, Int.reduceToNat, Int.reducePow, String.reduceEq, String.reduceBEq, String.reduceBNe, Int.reduceFMod, Int.reduceFDiv, Int.reduceNegSucc, Int.reduceAbs]
      refine ⟨by rw [List.length_replicate]; omega, hM _ _ ⟨by rw [List.replicate_succ'], rfl⟩⟩
    · rintro acc env ⟨rfl, rfl⟩
      rw [rngD_len]
      have e : ∀ n : Nat, L.toDs (List.replicate n (.fr (.bl true))) = (List.replicate n true).map D.bl := fun n => by
        rw [toDs_map]; simp [L.toD]
      simp (maxSteps := 4000000) (implicitDefEqProofs := false) only [RB, r_popAt, entry, entryL, outs, slotL, knownTy, isB, D.tyn, D.isNon, D.flat, D.feq, D.scalar, decide_true, decide_false, reduceIte, reduceCtorEq, Nat.reduceAdd, Nat.reduceSub, Nat.reduceMul, Nat.reduceLeDiff, Nat.reduceEqDiff, Nat.reducePow, Nat.reduceLT, Int.reduceLE, Int.reduceLT, Int.reduceNe, Int.reduceEq, Int.reduceAdd, Int.reduceSub, Int.reduceMul, Int.reduceNeg, Int.reduceToNat, Int.reducePow, String.reduceEq, String.reduceBEq, String.reduceBNe, Int.reduceFMod, Int.reduceFDiv, Int.reduceNegSucc, Int.reduceAbs, e]
      refine ⟨_, dBools_map _, ?_⟩
      have e2 : ∀ n : Nat, (List.replicate n true).all id = true := fun n => by simp
      simp (maxSteps := 4000000) (implicitDefEqProofs := false) only [RB, r_popAt, entry, entryL, outs, slotL, knownTy, isB, D.tyn, D.isNon, D.flat, D.feq, D.scalar, decide_true, decide_false, reduceIte, reduceCtorEq, Nat.reduceAdd, Nat.reduceSub, Nat.reduceMul, Nat.reduceLeDiff, Nat.reduceEqDiff, Nat.reducePow, Nat.reduceLT, Int.reduceLE, Int.reduceLT, Int.reduceNe, Int.reduceEq, Int.reduceAdd, Int.reduceSub, Int.reduceMul, Int.reduceNeg, Int.reduceToNat, Int.reducePow, String.reduceEq, String.reduceBEq, String.reduceBNe, Int.reduceFMod, Int.reduceFDiv, Int.reduceNegSucc, Int.reduceAbs, e2]
      exact h _ _
  · exact hd.elim
/-! ### drifts -/
structure DrOk (dr : List Int) : Prop where
  sum : dr.sum = 0
  lo : ∀ i, -6 ≤ dlt dr i
  hi : ∀ i, dlt dr i ≤ 6
theorem set_sum : ∀ (dr : List Int) (i : Nat) (x : Int), i < dr.length → (dr.set i x).sum = dr.sum - dlt dr i + x
  | [], _, _, h => by simp at h
  | d :: ds, 0, x, _ => by simp [dlt]; omega
  | d :: ds, i + 1, x, h => by
    have ih := set_sum ds i x (by simpa using h)
    have e : dlt (d :: ds) (i + 1) = dlt ds i := by simp [dlt]
    simp only [List.set_cons_succ, List.sum_cons, ih, e]
    omega
theorem set_dlt (dr : List Int) (i j : Nat) (x : Int) (h : i < dr.length) : dlt (dr.set i x) j = if i = j then x else dlt dr j := by
  unfold dlt
  rw [List.getD_eq_getElem?_getD, List.getD_eq_getElem?_getD, List.getElem?_set]
  by_cases e : i = j
  · subst e; simp [h]
  · rw [if_neg e, if_neg e]
theorem put_fr {ds : List D} {y : Int} {d : D} {k : List L → Prop} (h0 : 0 ≤ y) (h1 : y < ds.length) (hk : k ((ds.set y.toNat d).map L.fr)) : TL.putK (ds.map L.fr) y (.fr d) k := by
  have hy : (y.toNat : Int) = y := Int.toNat_of_nonneg h0
  refine ⟨y.toNat, ?_, ?_⟩
  · rw [← hy]; exact ixN_of (by rw [List.length_map]; omega)
  · have : (ds.map L.fr).set y.toNat (.fr d) = (ds.set y.toNat d).map L.fr := by rw [List.map_set]
    rw [this]; exact hk
theorem rep_zero (n : Nat) : (List.replicate n [D.int 0]).flatten.map L.fr = ((zeros n).map D.int).map L.fr := by
  induction n with
  | zero => rfl
  | succ n ih =>
    unfold zeros at ih ⊢
    rw [List.replicate_succ, List.replicate_succ, List.flatten_cons, List.map_append, ih]; rfl
def cDr : Con := fun args k _ => match args with
  | [b, .fr (.int w), .fr (.int s)] => IsBag b ∧ (1 ≤ w ∧ w ≤ 6) ∧ (0 ≤ s ∧ s ≤ 100) ∧ ∀ dr b' l1 l2, IsBag b' → (dr.length : Int) = w → DrOk dr → k (.box .lst ((dr.map D.int).map L.fr)) [b', l1, l2]
  | _ => False
theorem v_dr : ∀ ls kk kx, cDr ls kk kx → t_law_drifts cPull (endsOf [0] ls kk) (entry [0] 7 ls) := by
  intro ls kk kx h
  unfold cDr at h
  split at h
  · rename_i b w s
    obtain ⟨hb, ⟨w1, w6⟩, ⟨s0, s1⟩, h⟩ := h
    obtain ⟨n, rfl⟩ := Int.eq_ofNat_of_zero_le (show 0 ≤ w by omega)
    simp (maxSteps := 4000000) (implicitDefEqProofs := false) only [RB, r_popAt, entry, entryL, outs, slotL, knownTy, isB, D.tyn, D.isNon, D.flat, D.feq, D.scalar, decide_true, decide_false, reduceIte, reduceCtorEq, Nat.reduceAdd, Nat.reduceSub, Nat.reduceMul, Nat.reduceLeDiff, Nat.reduceEqDiff, Nat.reducePow, Nat.reduceLT, Int.reduceLE, Int.reduceLT, Int.reduceNe, Int.reduceEq, Int.reduceAdd, Int.reduceSub, Int.reduceMul, Int.reduceNeg, Int.reduceToNat, Int.reducePow, String.reduceEq, String.reduceBEq, String.reduceBNe, Int.reduceFMod, Int.reduceFDiv, Int.reduceNegSucc, Int.reduceAbs, t_law_drifts, cPull]
    refine ⟨⟨by omega, by omega, by rw [sizeLine_eq]; simp only [List.length_cons, List.length_nil]; omega⟩, hb, by omega, fun r b1 _ hb1 r0 r1 => ?_⟩
    rw [Int.toNat_natCast, rep_zero]
    refine ⟨by omega, ?_⟩
    refine forD_ix' (I := fun _ e => ∃ b dr o4 o5 o6, IsBag b ∧ dr.length = n ∧ DrOk dr ∧ e = [some b, _, _, some (.box .lst ((dr.map D.int).map L.fr)), o4, o5, o6]) ⟨b1, zeros n, _, _, _, hb1, by simp [zeros], ⟨by simp [zeros], fun i => by rw [dlt_zeros]; decide, fun i => by rw [dlt_zeros]; decide⟩, rfl⟩ ?_ ?_
    · rintro i d env hd ⟨b, dr, o4, o5, o6, hb, hl, hD, rfl⟩ N hN
      obtain ⟨hi, rfl⟩ := rngD_get hd
      simp (maxSteps := 4000000) (implicitDefEqProofs := false) only [RB, r_popAt, entry, entryL, outs, slotL, knownTy, isB, D.tyn, D.isNon, D.flat, D.feq, D.scalar, decide_true, decide_false, reduceIte, reduceCtorEq, Nat.reduceAdd, Nat.reduceSub, Nat.reduceMul, Nat.reduceLeDiff, Nat.reduceEqDiff, Nat.reducePow, Nat.reduceLT, Int.reduceLE, Int.reduceLT, Int.reduceNe, Int.reduceEq, Int.reduceAdd, Int.reduceSub, Int.reduceMul, Int.reduceNeg, Int.reduceToNat, Int.reducePow, String.reduceEq, String.reduceBEq, String.reduceBNe, Int.reduceFMod, Int.reduceFDiv, Int.reduceNegSucc, Int.reduceAbs, t_law_drifts_b1, cPull]
      refine ⟨hb, by omega, fun x b1 _ hb1 x0 x1 => ⟨hb1, by omega, fun y b2 _ hb2 y0 y1 => ?_⟩⟩
      obtain ⟨i1, rfl⟩ := Int.eq_ofNat_of_zero_le x0
      obtain ⟨j1, rfl⟩ := Int.eq_ofNat_of_zero_le y0
      have hi1 : i1 < dr.length := by omega
      have hj1 : j1 < dr.length := by omega
      refine atF_fr (d := .int (dlt dr i1)) (by simpa using dlt_at hi1) (by omega) ?_
      simp (maxSteps := 4000000) (implicitDefEqProofs := false) only [RB, r_popAt, entry, entryL, outs, slotL, knownTy, isB, D.tyn, D.isNon, D.flat, D.feq, D.scalar, decide_true, decide_false, reduceIte, reduceCtorEq, Nat.reduceAdd, Nat.reduceSub, Nat.reduceMul, Nat.reduceLeDiff, Nat.reduceEqDiff, Nat.reducePow, Nat.reduceLT, Int.reduceLE, Int.reduceLT, Int.reduceNe, Int.reduceEq, Int.reduceAdd, Int.reduceSub, Int.reduceMul, Int.reduceNeg, Int.reduceToNat, Int.reducePow, String.reduceEq, String.reduceBEq, String.reduceBNe, Int.reduceFMod, Int.reduceFDiv, Int.reduceNegSucc, Int.reduceAbs]
      have same : N [some b2, some (.fr (.int n)), some (.fr (.int s)), some (.box .lst ((dr.map D.int).map L.fr)), some (.fr (.int (0 + i))), some (.fr (.int i1)), some (.fr (.int j1))] := hN _ ⟨_, _, _, _, _, hb2, hl, hD, rfl⟩
      split
      · rename_i h1
        refine atF_fr (d := .int (dlt dr j1)) (by simpa using dlt_at hj1) (by omega) ?_
        simp (maxSteps := 4000000) (implicitDefEqProofs := false) only [RB, r_popAt, entry, entryL, outs, slotL, knownTy, isB, D.tyn, D.isNon, D.flat, D.feq, D.scalar, decide_true, decide_false, reduceIte, reduceCtorEq, Nat.reduceAdd, Nat.reduceSub, Nat.reduceMul, Nat.reduceLeDiff, Nat.reduceEqDiff, Nat.reducePow, Nat.reduceLT, Int.reduceLE, Int.reduceLT, Int.reduceNe, Int.reduceEq, Int.reduceAdd, Int.reduceSub, Int.reduceMul, Int.reduceNeg, Int.reduceToNat, Int.reducePow, String.reduceEq, String.reduceBEq, String.reduceBNe, Int.reduceFMod, Int.reduceFDiv, Int.reduceNegSucc, Int.reduceAbs]
        split
        · rename_i h2
          refine atF_fr (d := .int (dlt dr i1)) (by simpa using dlt_at hi1) (by omega) ?_
          simp (maxSteps := 4000000) (implicitDefEqProofs := false) only [RB, r_popAt, entry, entryL, outs, slotL, knownTy, isB, D.tyn, D.isNon, D.flat, D.feq, D.scalar, decide_true, decide_false, reduceIte, reduceCtorEq, Nat.reduceAdd, Nat.reduceSub, Nat.reduceMul, Nat.reduceLeDiff, Nat.reduceEqDiff, Nat.reducePow, Nat.reduceLT, Int.reduceLE, Int.reduceLT, Int.reduceNe, Int.reduceEq, Int.reduceAdd, Int.reduceSub, Int.reduceMul, Int.reduceNeg, Int.reduceToNat, Int.reducePow, String.reduceEq, String.reduceBEq, String.reduceBNe, Int.reduceFMod, Int.reduceFDiv, Int.reduceNegSucc, Int.reduceAbs]
          refine put_fr (by omega) (by rw [List.length_map]; omega) ?_
          simp (maxSteps := 4000000) (implicitDefEqProofs := false) only [RB, r_popAt, entry, entryL, outs, slotL, knownTy, isB, D.tyn, D.isNon, D.flat, D.feq, D.scalar, decide_true, decide_false, reduceIte, reduceCtorEq, Nat.reduceAdd, Nat.reduceSub, Nat.reduceMul, Nat.reduceLeDiff, Nat.reduceEqDiff, Nat.reducePow, Nat.reduceLT, Int.reduceLE, Int.reduceLT, Int.reduceNe, Int.reduceEq, Int.reduceAdd, Int.reduceSub, Int.reduceMul, Int.reduceNeg, Int.reduceToNat, Int.reducePow, String.reduceEq, String.reduceBEq, String.reduceBNe, Int.reduceFMod, Int.reduceFDiv, Int.reduceNegSucc, Int.reduceAbs]
          have es : (dr.map D.int).set (i1 : Int).toNat (.int (dlt dr i1 - 1)) = (dr.set i1 (dlt dr i1 - 1)).map D.int := by simp [List.map_set]
          rw [es]
          have hl2 : (dr.set i1 (dlt dr i1 - 1)).length = n := by rw [List.length_set]; exact hl
          refine atF_fr (d := .int (dlt (dr.set i1 (dlt dr i1 - 1)) j1)) (by simpa using dlt_at (show j1 < (dr.set i1 (dlt dr i1 - 1)).length by omega)) (by omega) ?_
          simp (maxSteps := 4000000) (implicitDefEqProofs := false) only [RB, r_popAt, entry, entryL, outs, slotL, knownTy, isB, D.tyn, D.isNon, D.flat, D.feq, D.scalar, decide_true, decide_false, reduceIte, reduceCtorEq, Nat.reduceAdd, Nat.reduceSub, Nat.reduceMul, Nat.reduceLeDiff, Nat.reduceEqDiff, Nat.reducePow, Nat.reduceLT, Int.reduceLE, Int.reduceLT, Int.reduceNe, Int.reduceEq, Int.reduceAdd, Int.reduceSub, Int.reduceMul, Int.reduceNeg, Int.reduceToNat, Int.reducePow, String.reduceEq, String.reduceBEq, String.reduceBNe, Int.reduceFMod, Int.reduceFDiv, Int.reduceNegSucc, Int.reduceAbs]
          refine put_fr (by omega) (by rw [List.length_map, hl2]; exact y1) ?_
          simp (maxSteps := 4000000) (implicitDefEqProofs := false) only [RB, r_popAt, entry, entryL, outs, slotL, knownTy, isB, D.tyn, D.isNon, D.flat, D.feq, D.scalar, decide_true, decide_false, reduceIte, reduceCtorEq, Nat.reduceAdd, Nat.reduceSub, Nat.reduceMul, Nat.reduceLeDiff, Nat.reduceEqDiff, Nat.reducePow, Nat.reduceLT, Int.reduceLE, Int.reduceLT, Int.reduceNe, Int.reduceEq, Int.reduceAdd, Int.reduceSub, Int.reduceMul, Int.reduceNeg, Int.reduceToNat, Int.reducePow, String.reduceEq, String.reduceBEq, String.reduceBNe, Int.reduceFMod, Int.reduceFDiv, Int.reduceNegSucc, Int.reduceAbs]
          have es2 : ((dr.set i1 (dlt dr i1 - 1)).map D.int).set (j1 : Int).toNat (.int (dlt (dr.set i1 (dlt dr i1 - 1)) j1 + 1)) = ((dr.set i1 (dlt dr i1 - 1)).set j1 (dlt (dr.set i1 (dlt dr i1 - 1)) j1 + 1)).map D.int := by simp [List.map_set]
          rw [es2]
          refine hN _ ⟨_, _, _, _, _, hb2, by rw [List.length_set]; exact hl2, ⟨?_, fun k => ?_, fun k => ?_⟩, rfl⟩
          · rw [set_sum _ _ _ (by omega), set_sum _ _ _ hi1, hD.sum]; omega
          · have := hD.lo k; have := hD.lo j1; have := hD.lo i1
            rw [set_dlt _ _ _ _ (by omega), set_dlt _ _ _ _ hi1, set_dlt _ _ _ _ hi1]
            split <;> split <;> first | omega | (split <;> omega)
          · have := hD.hi k; have := hD.hi j1; have := hD.hi i1
            rw [set_dlt _ _ _ _ (by omega), set_dlt _ _ _ _ hi1, set_dlt _ _ _ _ hi1]
            split <;> split <;> first | omega | (split <;> omega)
        · exact same
      · exact same
    · rintro e ⟨b, dr, o4, o5, o6, hb, hl, hD, rfl⟩
      simp (maxSteps := 4000000) (implicitDefEqProofs := false) only [RB, r_popAt, entry, entryL, outs, slotL, knownTy, isB, D.tyn, D.isNon, D.flat, D.feq, D.scalar, decide_true, decide_false, reduceIte, reduceCtorEq, Nat.reduceAdd, Nat.reduceSub, Nat.reduceMul, Nat.reduceLeDiff, Nat.reduceEqDiff, Nat.reducePow, Nat.reduceLT, Int.reduceLE, Int.reduceLT, Int.reduceNe, Int.reduceEq, Int.reduceAdd, Int.reduceSub, Int.reduceMul, Int.reduceNeg, Int.reduceToNat, Int.reducePow, String.reduceEq, String.reduceBEq, String.reduceBNe, Int.reduceFMod, Int.reduceFDiv, Int.reduceNegSucc, Int.reduceAbs]
      exact h _ _ _ _ hb (by omega) hD
  · exact h.elim
end FL

namespace FL
open PySem PySem.Spec PyProof.Rows L2 TL
/-! ### goals that are dealt out -/
def sz (ss : List Int) (i : Nat) : Int := ss.getD i 0
def fsz (dr ss : List Int) (i : Nat) : Nat := (sz ss i + dlt dr i).toNat
def freesN (dr ss : List Int) (n : Nat) : List Pl := (List.range n).flatMap fun j => idR j (fsz dr ss j)
def frees (dr ss : List Int) : List Pl := freesN dr ss dr.length
theorem freesN_s (dr ss : List Int) (n : Nat) : freesN dr ss (n + 1) = freesN dr ss n ++ idR n (fsz dr ss n) := by simp [freesN, List.range_succ]
structure SzOk (dr ss : List Int) : Prop where
  len : ss.length = dr.length
  ok : ∀ i, i < dr.length → 0 ≤ sz ss i ∧ sz ss i ≤ 106 ∧ 0 ≤ sz ss i + dlt dr i
theorem mem_frees {dr ss : List Int} {p : Pl} : p ∈ frees dr ss ↔ ∃ j b : Nat, j < dr.length ∧ b < fsz dr ss j ∧ p = ((j : Int), (b : Int)) := by
  unfold frees freesN idR
  simp only [List.mem_flatMap, List.mem_range, List.mem_map]
  constructor
  · rintro ⟨j, hj, b, hb, rfl⟩; exact ⟨j, b, hj, hb, rfl⟩
  · rintro ⟨j, b, hj, hb, rfl⟩; exact ⟨j, hj, b, hb, rfl⟩
theorem idR_nodup (i n : Nat) : (idR i n).Nodup := by
  unfold idR List.Nodup
  rw [List.pairwise_map]
  refine List.Pairwise.imp ?_ (List.nodup_range (n := n))
  intro a b h e
  have := congrArg Prod.snd e
  simp at this
  exact h (by omega)
theorem frees_nodup (dr ss : List Int) : (frees dr ss).Nodup := by
  unfold frees freesN List.Nodup
  rw [List.pairwise_flatMap]
  refine ⟨fun a _ => idR_nodup _ _, List.Pairwise.imp ?_ (List.nodup_range (n := dr.length))⟩
  intro a b h x hx y hy e
  unfold idR at hx hy
  obtain ⟨c, _, rfl⟩ := List.mem_map.mp hx
  obtain ⟨d, _, e2⟩ := List.mem_map.mp hy
  rw [← e] at e2
  have := congrArg Prod.fst e2
  simp at this
  exact h (by omega)
theorem flat_inj : ∀ {gs : List (List Pl)}, gs.flatten.Nodup → ∀ {i a j b : Nat} {p : Pl}, (row gs i)[a]? = some p → (row gs j)[b]? = some p → i = j ∧ a = b := by
  intro gs h i a j b p h1 h2
  unfold List.Nodup at h
  rw [List.pairwise_flatten] at h
  obtain ⟨hn, hd⟩ := h
  have bnd : ∀ {i a : Nat}, (row gs i)[a]? = some p → i < gs.length := fun {i a} h => by
    by_cases hi : i < gs.length
    · exact hi
    · rw [row_out (by omega)] at h; simp at h
  have hi := bnd h1
  have hj := bnd h2
  have gi : gs[i] = row gs i := by have := getD_row hi; rw [List.getElem?_eq_getElem hi] at this; exact Option.some.inj this
  have gj : gs[j] = row gs j := by have := getD_row hj; rw [List.getElem?_eq_getElem hj] at this; exact Option.some.inj this
  have key := List.pairwise_iff_getElem.mp hd
  have m1 : p ∈ row gs i := List.mem_of_getElem? h1
  have m2 : p ∈ row gs j := List.mem_of_getElem? h2
  have hij : i = j := by
    rcases Nat.lt_trichotomy i j with z | z | z
    · exact absurd rfl (key i j hi hj z p (by rw [gi]; exact m1) p (by rw [gj]; exact m2))
    · exact z
    · exact absurd rfl (key j i hj hi z p (by rw [gj]; exact m2) p (by rw [gi]; exact m1))
  subst hij
  refine ⟨rfl, ?_⟩
  have nd := hn gs[i] (List.getElem_mem hi)
  rw [gi] at nd
  obtain ⟨ha, ea⟩ := List.getElem?_eq_some_iff.mp h1
  obtain ⟨hb, eb⟩ := List.getElem?_eq_some_iff.mp h2
  have k2 := List.pairwise_iff_getElem.mp nd
  rcases Nat.lt_trichotomy a b with z | z | z
  · exact absurd (ea.trans eb.symm) (k2 a b ha hb z)
  · exact z
  · exact absurd (eb.trans ea.symm) (k2 b a hb ha z)
theorem mem_flat {gs : List (List Pl)} {p : Pl} : p ∈ gs.flatten ↔ ∃ i a : Nat, i < gs.length ∧ (row gs i)[a]? = some p := by
  rw [List.mem_flatten]
  constructor
  · rintro ⟨r, hr, hp⟩
    obtain ⟨i, hi, rfl⟩ := List.getElem_of_mem hr
    obtain ⟨a, ha, e⟩ := List.getElem_of_mem hp
    have := getD_row hi
    rw [List.getElem?_eq_getElem hi] at this
    have e2 := Option.some.inj this
    refine ⟨i, a, hi, ?_⟩
    rw [← e2, List.getElem?_eq_getElem ha, e]
  · rintro ⟨i, a, hi, h⟩
    exact ⟨row gs i, List.mem_of_getElem? (getD_row hi), List.mem_of_getElem? h⟩
structure Dealt (dr ss : List Int) (gs : List (List Pl)) (found fr : List Pl) : Prop where
  gl : ∀ i, i < gs.length → ((row gs i).length : Int) = sz ss i
  le : gs.length ≤ dr.length
  pm : (gs.flatten ++ found ++ fr).Perm (frees dr ss)
theorem take_sum (dr : List Int) {n : Nat} (h : n < dr.length) : (dr.take (n + 1)).sum = (dr.take n).sum + dlt dr n := by
  rw [List.take_succ, getD_dlt h, List.sum_append]; simp
theorem freesN_len {dr ss : List Int} (h : SzOk dr ss) : ∀ n, n ≤ dr.length → ((freesN dr ss n).length : Int) = (ss.take n).sum + (dr.take n).sum
  | 0, _ => by simp [freesN]
  | n + 1, hn => by
    have ih := freesN_len h n (by omega)
    have := h.ok n (by omega)
    have hl := h.len
    rw [freesN_s, List.length_append, take_sum ss (by omega), take_sum dr (by omega)]
    have e1 : (idR n (fsz dr ss n)).length = fsz dr ss n := by simp [idR]
    have e2 : dlt ss n = sz ss n := rfl
    rw [e1, e2]
    unfold fsz
    omega
theorem frees_len {dr ss : List Int} (h : SzOk dr ss) (h0 : dr.sum = 0) : ((frees dr ss).length : Int) = ss.sum := by
  have := freesN_len h dr.length (Nat.le_refl _)
  rw [List.take_length, ← h.len, List.take_length, h0] at this
  unfold frees
  rw [← h.len]
  omega
theorem flat_len : ∀ {gs : List (List Pl)} {ss : List Int}, (∀ i, i < gs.length → ((row gs i).length : Int) = sz ss i) → gs.length ≤ ss.length → (gs.flatten.length : Int) = (ss.take gs.length).sum := by
  intro gs ss h hl
  induction gs generalizing ss with
  | nil => simp
  | cons g gs ih =>
    cases ss with
    | nil => simp at hl
    | cons s ss =>
      have h0 := h 0 (by simp)
      have ih := ih (ss := ss) (fun i hi => by have := h (i + 1) (by simpa using hi); simpa [row, sz] using this) (by simpa using hl)
      have e0 : (g.length : Int) = s := by simpa [row, sz] using h0
      simp only [List.flatten_cons, List.length_append, List.length_cons, List.take_succ_cons, List.sum_cons]
      omega
theorem sum_take_le {ss : List Int} (h : ∀ i, i < ss.length → 0 ≤ dlt ss i) : ∀ n, n ≤ ss.length → (ss.take n).sum ≤ ss.sum := by
  intro n hn
  have : ∀ m, n + m ≤ ss.length → (ss.take n).sum ≤ (ss.take (n + m)).sum := by
    intro m
    induction m with
    | zero => intro _; exact Int.le_refl _
    | succ m ih =>
      intro hm
      have := ih (by omega)
      have := h (n + m) (by omega)
      rw [← Nat.add_assoc, take_sum ss (by omega)]
      omega
  have := this (ss.length - n) (by omega)
  rw [show n + (ss.length - n) = ss.length by omega, List.take_length] at this
  exact this
theorem Dealt.len {dr ss : List Int} {gs : List (List Pl)} {found fr : List Pl} (hS : SzOk dr ss) (h0 : dr.sum = 0) (h : Dealt dr ss gs found fr) : ((ss.take gs.length).sum : Int) + found.length + fr.length = ss.sum := by
  have e := h.pm.length_eq
  have e2 := frees_len hS h0
  have e3 := flat_len h.gl (by rw [hS.len]; exact h.le)
  simp only [List.length_append] at e
  omega
/-- there is still a free place -/
theorem Dealt.some {dr ss : List Int} {gs : List (List Pl)} {found fr : List Pl} (hS : SzOk dr ss) (h0 : dr.sum = 0) (h6 : dr.length ≤ 6) (h : Dealt dr ss gs found fr) (hg : gs.length < dr.length) (hf : (found.length : Int) < sz ss gs.length) : 0 < fr.length ∧ fr.length ≤ 1000 - found.length := by
  have e := h.len hS h0
  have hl := hS.len
  have nn : ∀ i, i < ss.length → 0 ≤ dlt ss i := fun i hi => (hS.ok i (by omega)).1
  have l1 := sum_take_le nn (gs.length + 1) (by omega)
  rw [take_sum ss (by omega)] at l1
  have e2 : dlt ss gs.length = sz ss gs.length := rfl
  rw [e2] at l1
  refine ⟨by omega, ?_⟩
  have l2 : ∀ n, n ≤ dr.length → (ss.take n).sum ≤ 106 * n := by
    intro n
    induction n with
    | zero => intro _; simp
    | succ n ih =>
      intro hn
      have := ih (by omega)
      have h2 := (hS.ok n (by omega)).2.1
      rw [take_sum ss (by omega)]
      have e3 : dlt ss n = sz ss n := rfl
      rw [e3]
      omega
  have nn2 : 0 ≤ (ss.take gs.length).sum := by
    have : ∀ n, n ≤ dr.length → 0 ≤ (ss.take n).sum := by
      intro n
      induction n with
      | zero => intro _; simp
      | succ n ih =>
        intro hn
        have := ih (by omega)
        have h2 := (hS.ok n (by omega)).1
        rw [take_sum ss (by omega)]
        have e3 : dlt ss n = sz ss n := rfl
        rw [e3]
        omega
    exact this _ h.le
  have l3 := l2 dr.length (Nat.le_refl _)
  rw [← hl, List.take_length] at l3
  omega
theorem erase_perm {α : Type} : ∀ (l : List α) (y : Nat) (h : y < l.length), ([l[y]] ++ l.eraseIdx y).Perm l
  | a :: l, 0, _ => by simp
  | a :: l, y + 1, h => by
    have ih := erase_perm l y (by simpa using h)
    simp only [List.getElem_cons_succ, List.eraseIdx_cons_succ, List.singleton_append] at ih ⊢
    exact (List.Perm.swap a _ _).trans (ih.cons a)
theorem Dealt.pop {dr ss : List Int} {gs : List (List Pl)} {found fr : List Pl} (h : Dealt dr ss gs found fr) {y : Nat} (hy : y < fr.length) : Dealt dr ss gs (found ++ [fr[y]]) (fr.eraseIdx y) := by
  refine ⟨h.gl, h.le, ?_⟩
  refine List.Perm.trans ?_ h.pm
  rw [List.append_assoc, List.append_assoc, List.append_assoc]
  refine List.Perm.append_left _ (List.Perm.append_left _ ?_)
  exact erase_perm fr y hy
theorem row_app {gs : List (List Pl)} {r : List Pl} {i : Nat} : row (gs ++ [r]) i = if i < gs.length then row gs i else if i = gs.length then r else [] := by
  unfold row
  rw [List.getD_eq_getElem?_getD, List.getD_eq_getElem?_getD, List.getElem?_append]
  split
  · rfl
  · split
    · rename_i h e; subst e; simp
    · rename_i h1 h2
      have : (i - gs.length) ≠ 0 := by omega
      obtain ⟨k, hk⟩ := Nat.exists_eq_succ_of_ne_zero this
      rw [hk]; simp
theorem Dealt.next {dr ss : List Int} {gs : List (List Pl)} {found fr : List Pl} (h : Dealt dr ss gs found fr) (hg : gs.length < dr.length) (hf : (found.length : Int) = sz ss gs.length) : Dealt dr ss (gs ++ [found]) [] fr := by
  refine ⟨fun i hi => ?_, by simp; omega, ?_⟩
  · rw [row_app]
    rw [List.length_append] at hi
    split
    · exact h.gl i (by assumption)
    · have : i = gs.length := by simp at hi; omega
      rw [if_pos this, this]; exact hf
  · have := h.pm
    simpa using this
theorem Dealt.zero {dr ss : List Int} : Dealt dr ss [] [] (frees dr ss) := ⟨fun i hi => by simp at hi, by simp, by simp⟩
theorem Dealt.done {dr ss : List Int} {gs : List (List Pl)} {fr : List Pl} (hD : DrOk dr) (hS : SzOk dr ss) (h1 : 1 ≤ dr.length) (h6 : dr.length ≤ 6) (hg : gs.length = dr.length) (h : Dealt dr ss gs [] fr) : Bij dr gs := by
  have e := h.len hS hD.sum
  have hl := hS.len
  have ef : fr = [] := by
    rw [hg, ← hl, List.take_length] at e
    exact List.length_eq_zero_iff.mp (by simp at e; omega)
  subst ef
  have pm := h.pm
  rw [List.append_nil, List.append_nil] at pm
  have nd : gs.flatten.Nodup := (List.Perm.nodup_iff pm).mpr (frees_nodup dr ss)
  have rl : ∀ i, i < dr.length → ((row gs i).length : Int) = sz ss i := fun i hi => h.gl i (by omega)
  refine ⟨h1, h6, hg, ?_, fun i => ⟨by have := hD.lo i; omega, by have := hD.hi i; omega⟩, fun i hi => ?_, fun i a p hi hp => ?_, fun j b hj hb => ?_, fun i a j b p hi hj hp hq => flat_inj nd hp hq⟩
  · rw [map_len_range]
    have : ∀ n, n ≤ gs.length → ((List.range n).map fun i => (row gs i).length).sum ≤ n * 106 := by
      intro n
      induction n with
      | zero => intro _; simp
      | succ n ih =>
        intro hn
        have := ih (by omega)
        have q := rl n (by omega)
        have q2 := (hS.ok n (by omega)).2.1
        rw [List.range_succ, List.map_append, List.sum_append]
        simp
        omega
    have := this gs.length (Nat.le_refl _)
    omega
  · rw [rl i hi]; exact (hS.ok i hi).2.2
  · have m : p ∈ frees dr ss := (List.Perm.mem_iff pm).mp (mem_flat.mpr ⟨i, a, by omega, hp⟩)
    obtain ⟨j, b, hj, hb, rfl⟩ := mem_frees.mp m
    refine ⟨by show (0 : Int) ≤ j; omega, by show (j : Int) < _; omega, by show (0 : Int) ≤ b; omega, ?_⟩
    show (b : Int) < ((row gs (Int.toNat (j : Int))).length : Int) + dlt dr (Int.toNat (j : Int))
    rw [Int.toNat_natCast, rl j hj]
    have := hS.ok j hj
    unfold fsz at hb
    omega
  · have m : ((j : Int), (b : Int)) ∈ frees dr ss := mem_frees.mpr ⟨j, b, hj, by rw [rl j hj] at hb; unfold fsz; omega, rfl⟩
    obtain ⟨i, a, hi, hp⟩ := mem_flat.mp ((List.Perm.mem_iff pm).mpr m)
    exact ⟨i, a, by omega, hp⟩
end FL

namespace FL
open PySem PySem.Spec PyProof.Rows L2 TL
def cDeal : Con := fun args k _ => ∃ b dr m, args = [b, .fr (drD dr), .fr (.int m)] ∧ IsBag b ∧ DrOk dr ∧ 1 ≤ dr.length ∧ dr.length ≤ 6 ∧ 0 ≤ m ∧ m ≤ 100 ∧ ∀ gs b' l1 l2, IsBag b' → Bij dr gs → k (.fr (.tup [drD dr, gsL gs])) [b', l1, l2]
theorem erase_map {α β : Type} (f : α → β) : ∀ (l : List α) (y : Nat), (l.map f).eraseIdx y = (l.eraseIdx y).map f
  | [], y => rfl
  | a :: l, 0 => rfl
  | a :: l, y + 1 => by simp only [List.map_cons, List.eraseIdx_cons_succ, erase_map f l y]
theorem pop_fr {fr : List Pl} {y : Int} {K : L → L → Prop} (h0 : 0 ≤ y) (h1 : y < fr.length) (hf : fr.length ≤ 1000) (hK : K (.fr (plD fr[y.toNat])) (.box .lst (((fr.eraseIdx y.toNat).map plD).map L.fr))) : mPopAt (.box .lst ((fr.map plD).map L.fr)) [.fr (.int y)] K := by
  rw [r_popAt]
  have hy : (y.toNat : Int) = y := Int.toNat_of_nonneg h0
  have hlt : y.toNat < fr.length := by omega
  refine ⟨⟨by omega, by omega⟩, y.toNat, .fr (plD fr[y.toNat]), ?_, ?_, ?_⟩
  · rw [← hy]
    exact ixN_of (by rw [List.length_map, List.length_map]; omega)
  · simp [hlt]
  · have : ((fr.map plD).map L.fr).eraseIdx y.toNat = ((fr.eraseIdx y.toNat).map plD).map L.fr := by
      rw [erase_map, erase_map]
    rw [this]; exact hK
theorem v_deal : ∀ ls kk kx, cDeal ls kk kx → t_law_deal cPull (endsOf [0] ls kk) (entry [0] 12 ls) := by
  rintro _ kk kx ⟨b0, dr, m, rfl, hb0, hD, h1, h6, m0, m1, h⟩
  simp (maxSteps := 4000000) (implicitDefEqProofs := false) only [RB, r_popAt, entry, entryL, outs, slotL, knownTy, isB, D.tyn, D.isNon, D.flat, D.feq, D.scalar, decide_true, decide_false, reduceIte, reduceCtorEq, Nat.reduceAdd, Nat.reduceSub, Nat.reduceMul, Nat.reduceLeDiff, Nat.reduceEqDiff, Nat.reducePow, Nat.reduceLT, Int.reduceLE, Int.reduceLT, Int.reduceNe, Int.reduceEq, Int.reduceAdd, Int.reduceSub, Int.reduceMul, Int.reduceNeg, Int.reduceToNat, Int.reducePow, String.reduceEq, String.reduceBEq, String.reduceBNe, Int.reduceFMod, Int.reduceFDiv, Int.reduceNegSucc, Int.reduceAbs, t_law_deal]
  refine compD_ix' (I := fun i acc e => ∃ b ss, IsBag b ∧ ss.length = i ∧ (∀ j, j < i → 0 ≤ sz ss j ∧ sz ss j ≤ 106 ∧ 0 ≤ sz ss j + dlt dr j) ∧ acc = (ss.map D.int).map L.fr ∧ e = [some b, some (.fr (drD dr)), some (.fr (.int m)), none, none, none, none, none, none, none, none, none]) ⟨b0, [], hb0, rfl, fun j hj => by omega, rfl, rfl⟩ ?_ ?_
  · rintro i d acc env hd ⟨b, ss, hb, hl, hs, rfl, rfl⟩ M hM
    rw [List.getElem?_map] at hd
    obtain ⟨x, hx, rfl⟩ := Option.map_eq_some_iff.mp hd
    have hi : i < dr.length := (List.getElem?_eq_some_iff.mp hx).1
    rw [getD_dlt hi] at hx
    have ex := Option.some.inj hx
    subst ex
    have d0 := hD.lo i
    have d1 := hD.hi i
    simp (maxSteps := 4000000) (implicitDefEqProofs := false) only [RB, r_popAt, entry, entryL, outs, slotL, knownTy, isB, D.tyn, D.isNon, D.flat, D.feq, D.scalar, decide_true, decide_false, reduceIte, reduceCtorEq, Nat.reduceAdd, Nat.reduceSub, Nat.reduceMul, Nat.reduceLeDiff, Nat.reduceEqDiff, Nat.reducePow, Nat.reduceLT, Int.reduceLE, Int.reduceLT, Int.reduceNe, Int.reduceEq, Int.reduceAdd, Int.reduceSub, Int.reduceMul, Int.reduceNeg, Int.reduceToNat, Int.reducePow, String.reduceEq, String.reduceBEq, String.reduceBNe, Int.reduceFMod, Int.reduceFDiv, Int.reduceNegSucc, Int.reduceAbs, cPull]
    refine ⟨hb, by omega, fun r b1 _ hb1 r0 r1 => ?_⟩
    refine ⟨by omega, hM _ _ ⟨b1, ss ++ [(if 0 - dlt dr i > 0 then 0 - dlt dr i else 0) + r], hb1, by simp [hl], fun j hj => ?_, by simp, rfl⟩⟩
    by_cases hj2 : j < i
    · have : sz (ss ++ [(if 0 - dlt dr i > 0 then 0 - dlt dr i else 0) + r]) j = sz ss j := by
        unfold sz; rw [List.getD_eq_getElem?_getD, List.getElem?_append_left (by omega), ← List.getD_eq_getElem?_getD]
      rw [this]; exact hs j hj2
    · have hj3 : j = i := by omega
      subst hj3
      have : sz (ss ++ [(if 0 - dlt dr j > 0 then 0 - dlt dr j else 0) + r]) j = (if 0 - dlt dr j > 0 then 0 - dlt dr j else 0) + r := by
        unfold sz; rw [List.getD_eq_getElem?_getD, List.getElem?_append_right (by omega), hl]; simp
      rw [this]
      split <;> omega
  · rintro acc env ⟨b, ss, hb, hl, hs, rfl, rfl⟩
    rw [List.length_map] at hl hs
    have hS : SzOk dr ss := ⟨hl, hs⟩
    simp (maxSteps := 4000000) (implicitDefEqProofs := false) only [RB, r_popAt, entry, entryL, outs, slotL, knownTy, isB, D.tyn, D.isNon, D.flat, D.feq, D.scalar, decide_true, decide_false, reduceIte, reduceCtorEq, Nat.reduceAdd, Nat.reduceSub, Nat.reduceMul, Nat.reduceLeDiff, Nat.reduceEqDiff, Nat.reducePow, Nat.reduceLT, Int.reduceLE, Int.reduceLT, Int.reduceNe, Int.reduceEq, Int.reduceAdd, Int.reduceSub, Int.reduceMul, Int.reduceNeg, Int.reduceToNat, Int.reducePow, String.reduceEq, String.reduceBEq, String.reduceBNe, Int.reduceFMod, Int.reduceFDiv, Int.reduceNegSucc, Int.reduceAbs]
    refine ⟨by omega, ?_⟩
    refine forD_ix' (I := fun i e => i ≤ dr.length ∧ ∃ o5 o10, e = [some b, some (.fr (drD dr)), some (.fr (.int m)), some (.box .lst ((ss.map D.int).map L.fr)), some (.box .lst (((freesN dr ss i).map plD).map L.fr)), o5, none, none, none, none, o10, none]) ⟨Nat.zero_le _, _, _, rfl⟩ ?_ ?_
    · rintro i d env hd ⟨hle, o5, o10, rfl⟩ N hN
      obtain ⟨hi, rfl⟩ := rngD_get hd
      have hi : i < dr.length := by omega
      have e0 : (0 + (i : Int)) = (i : Int) := by omega
      obtain ⟨s0, s1, s2⟩ := hS.ok i hi
      have d1 := hD.hi i
      have es : (sz ss i + dlt dr i).toNat = fsz dr ss i := rfl
      simp (maxSteps := 4000000) (implicitDefEqProofs := false) only [RB, r_popAt, entry, entryL, outs, slotL, knownTy, isB, D.tyn, D.isNon, D.flat, D.feq, D.scalar, decide_true, decide_false, reduceIte, reduceCtorEq, Nat.reduceAdd, Nat.reduceSub, Nat.reduceMul, Nat.reduceLeDiff, Nat.reduceEqDiff, Nat.reducePow, Nat.reduceLT, Int.reduceLE, Int.reduceLT, Int.reduceNe, Int.reduceEq, Int.reduceAdd, Int.reduceSub, Int.reduceMul, Int.reduceNeg, Int.reduceToNat, Int.reducePow, String.reduceEq, String.reduceBEq, String.reduceBNe, Int.reduceFMod, Int.reduceFDiv, Int.reduceNegSucc, Int.reduceAbs, t_law_deal_b1, e0]
      refine atF_fr (d := .int (sz ss i)) (by rw [Int.toNat_natCast]; exact dlt_at (dr := ss) (show i < ss.length by omega)) (by omega) ?_
      simp (maxSteps := 4000000) (implicitDefEqProofs := false) only [RB, r_popAt, entry, entryL, outs, slotL, knownTy, isB, D.tyn, D.isNon, D.flat, D.feq, D.scalar, decide_true, decide_false, reduceIte, reduceCtorEq, Nat.reduceAdd, Nat.reduceSub, Nat.reduceMul, Nat.reduceLeDiff, Nat.reduceEqDiff, Nat.reducePow, Nat.reduceLT, Int.reduceLE, Int.reduceLT, Int.reduceNe, Int.reduceEq, Int.reduceAdd, Int.reduceSub, Int.reduceMul, Int.reduceNeg, Int.reduceToNat, Int.reducePow, String.reduceEq, String.reduceBEq, String.reduceBNe, Int.reduceFMod, Int.reduceFDiv, Int.reduceNegSucc, Int.reduceAbs]
      refine atK_get (d := .int (dlt dr i)) (by simpa using dlt_at hi) (by omega) ?_
      simp (maxSteps := 4000000) (implicitDefEqProofs := false) only [RB, r_popAt, entry, entryL, outs, slotL, knownTy, isB, D.tyn, D.isNon, D.flat, D.feq, D.scalar, decide_true, decide_false, reduceIte, reduceCtorEq, Nat.reduceAdd, Nat.reduceSub, Nat.reduceMul, Nat.reduceLeDiff, Nat.reduceEqDiff, Nat.reducePow, Nat.reduceLT, Int.reduceLE, Int.reduceLT, Int.reduceNe, Int.reduceEq, Int.reduceAdd, Int.reduceSub, Int.reduceMul, Int.reduceNeg, Int.reduceToNat, Int.reducePow, String.reduceEq, String.reduceBEq, String.reduceBNe, Int.reduceFMod, Int.reduceFDiv, Int.reduceNegSucc, Int.reduceAbs, es]
      refine ⟨by omega, ?_⟩
      refine compD_ix' (I := fun a acc e => acc = (((idR i (fsz dr ss i)).take a).map plD).map L.fr ∧ e = [some b, some (.fr (drD dr)), some (.fr (.int m)), some (.box .lst ((ss.map D.int).map L.fr)), some (.fr (.box .lst ((freesN dr ss i).map plD))), some (.fr (.int i)), none, none, none, none, none, none]) ⟨rfl, rfl⟩ ?_ ?_
      · rintro a d acc env hd ⟨rfl, rfl⟩ M hM
        obtain ⟨ha, rfl⟩ := rngD_get hd
        have e0 : (0 + (a : Int)) = (a : Int) := by omega
        have hf : fsz dr ss i ≤ 112 := by unfold fsz; omega
        simp (maxSteps := 4000000) (implicitDefEqProofs := false) only [RB, r_popAt, entry, entryL, outs, slotL, knownTy, isB, D.tyn, D.isNon, D.flat, D.feq, D.scalar, decide_true, decide_false, reduceIte, reduceCtorEq, Nat.reduceAdd, Nat.reduceSub, Nat.reduceMul, Nat.reduceLeDiff, Nat.reduceEqDiff, Nat.reducePow, Nat.reduceLT, Int.reduceLE, Int.reduceLT, Int.reduceNe, Int.reduceEq, Int.reduceAdd, Int.reduceSub, Int.reduceMul, Int.reduceNeg, Int.reduceToNat, Int.reducePow, String.reduceEq, String.reduceBEq, String.reduceBNe, Int.reduceFMod, Int.reduceFDiv, Int.reduceNegSucc, Int.reduceAbs, e0]
        refine ⟨by rw [List.length_take]; omega, hM _ _ ⟨?_, rfl⟩⟩
        rw [take_next (idR_get ha)]
        simp [plD]
      · rintro acc env ⟨rfl, rfl⟩
        rw [rngD_len]
        have el : (idR i (fsz dr ss i)).take (fsz dr ss i) = idR i (fsz dr ss i) := List.take_of_length_le (by simp [idR])
        rw [el]
        simp (maxSteps := 4000000) (implicitDefEqProofs := false) only [RB, r_popAt, entry, entryL, outs, slotL, knownTy, isB, D.tyn, D.isNon, D.flat, D.feq, D.scalar, decide_true, decide_false, reduceIte, reduceCtorEq, Nat.reduceAdd, Nat.reduceSub, Nat.reduceMul, Nat.reduceLeDiff, Nat.reduceEqDiff, Nat.reducePow, Nat.reduceLT, Int.reduceLE, Int.reduceLT, Int.reduceNe, Int.reduceEq, Int.reduceAdd, Int.reduceSub, Int.reduceMul, Int.reduceNeg, Int.reduceToNat, Int.reducePow, String.reduceEq, String.reduceBEq, String.reduceBNe, Int.reduceFMod, Int.reduceFDiv, Int.reduceNegSucc, Int.reduceAbs]
        have hfl := freesN_len hS i (by omega)
        have hfl2 := freesN_len hS (i + 1) (by omega)
        rw [freesN_s, List.length_append] at hfl2
        have hb1 : ∀ n, n ≤ dr.length → (ss.take n).sum + (dr.take n).sum ≤ 112 * n := by
          intro n
          induction n with
          | zero => intro _; simp
          | succ n ih =>
            intro hn
            have := ih (by omega)
            have h2 := hS.ok n (by omega)
            have h3 := hD.hi n
            rw [take_sum ss (by omega), take_sum dr (by omega)]
            have e3 : dlt ss n = sz ss n := rfl
            rw [e3]
            omega
        have hb2 := hb1 (i + 1) (by omega)
        refine ⟨by omega, ?_⟩
        have ea : ((freesN dr ss i).map plD ++ (idR i (fsz dr ss i)).map plD) = (freesN dr ss (i + 1)).map plD := by rw [freesN_s, List.map_append]
        rw [ea]
        exact hN _ ⟨by omega, _, _, rfl⟩
    · rintro e ⟨_, o5, o10, rfl⟩
      rw [rngD_len]
      simp (maxSteps := 4000000) (implicitDefEqProofs := false) only [RB, r_popAt, entry, entryL, outs, slotL, knownTy, isB, D.tyn, D.isNon, D.flat, D.feq, D.scalar, decide_true, decide_false, reduceIte, reduceCtorEq, Nat.reduceAdd, Nat.reduceSub, Nat.reduceMul, Nat.reduceLeDiff, Nat.reduceEqDiff, Nat.reducePow, Nat.reduceLT, Int.reduceLE, Int.reduceLT, Int.reduceNe, Int.reduceEq, Int.reduceAdd, Int.reduceSub, Int.reduceMul, Int.reduceNeg, Int.reduceToNat, Int.reducePow, String.reduceEq, String.reduceBEq, String.reduceBNe, Int.reduceFMod, Int.reduceFDiv, Int.reduceNegSucc, Int.reduceAbs, cPull]
      refine ⟨hb, fun r b1 _ hb1 r0 r1 => ?_⟩
      rw [Int.toNat_natCast]
      have en : freesN dr ss dr.length = frees dr ss := rfl
      rw [en]
      refine forD_ix' (I := fun i e => ∃ b gs fr o8 o9 o10, IsBag b ∧ gs.length = i ∧ Dealt dr ss gs [] fr ∧ e = [some b, some (.fr (drD dr)), some (.fr (.int m)), some (.fr (.box .lst (ss.map D.int))), some (.box .lst ((fr.map plD).map L.fr)), o5, some (.fr (.bl (decide (r = 0)))), some (.box .lst ((gs.map rowL).map L.fr)), o8, o9, o10, none]) ⟨b1, [], _, _, _, _, hb1, rfl, Dealt.zero, rfl⟩ ?_ ?_
      · rintro i d env hd ⟨b, gs, fr, o8, o9, o10, hb, rfl, hDe, rfl⟩ N hN
        rw [List.getElem?_map] at hd
        obtain ⟨x, hx, rfl⟩ := Option.map_eq_some_iff.mp hd
        have hi : gs.length < ss.length := (List.getElem?_eq_some_iff.mp hx).1
        rw [getD_dlt hi] at hx
        have ex := Option.some.inj hx
        subst ex
        have hi2 : gs.length < dr.length := by omega
        obtain ⟨s0, s1, s2⟩ := hS.ok _ hi2
        have ez : dlt ss gs.length = sz ss gs.length := rfl
        rw [ez]
        simp (maxSteps := 4000000) (implicitDefEqProofs := false) only [RB, r_popAt, entry, entryL, outs, slotL, knownTy, isB, D.tyn, D.isNon, D.flat, D.feq, D.scalar, decide_true, decide_false, reduceIte, reduceCtorEq, Nat.reduceAdd, Nat.reduceSub, Nat.reduceMul, Nat.reduceLeDiff, Nat.reduceEqDiff, Nat.reducePow, Nat.reduceLT, Int.reduceLE, Int.reduceLT, Int.reduceNe, Int.reduceEq, Int.reduceAdd, Int.reduceSub, Int.reduceMul, Int.reduceNeg, Int.reduceToNat, Int.reducePow, String.reduceEq, String.reduceBEq, String.reduceBNe, Int.reduceFMod, Int.reduceFDiv, Int.reduceNegSucc, Int.reduceAbs, t_law_deal_b3]
        refine ⟨by omega, ?_⟩
        refine forD_ix' (I := fun a e => ∃ b found fr o10, IsBag b ∧ found.length = a ∧ Dealt dr ss gs found fr ∧ e = [some b, some (.fr (drD dr)), some (.fr (.int m)), some (.fr (.box .lst (ss.map D.int))), some (.box .lst ((fr.map plD).map L.fr)), o5, some (.fr (.bl (decide (r = 0)))), some (.box .lst ((gs.map rowL).map L.fr)), some (.fr (.int (sz ss gs.length))), some (.box .lst ((found.map plD).map L.fr)), o10, none]) ⟨b, [], fr, _, hb, rfl, hDe, rfl⟩ ?_ ?_
        · rintro a d env hd ⟨b, found, fr, o10, hb, rfl, hDe, rfl⟩ N' hN'
          obtain ⟨ha, rfl⟩ := rngD_get hd
          obtain ⟨f0, f1⟩ := hDe.some hS hD.sum h6 hi2 (by omega)
          have step : ∀ (y : Int) (b : L) (o10 : Option L), IsBag b → (hy0 : 0 ≤ y) → (hy1 : y < fr.length) → N' [some b, some (.fr (drD dr)), some (.fr (.int m)), some (.fr (.box .lst (ss.map D.int))), some (.box .lst (((fr.eraseIdx y.toNat).map plD).map L.fr)), o5, some (.fr (.bl (decide (r = 0)))), some (.box .lst ((gs.map rowL).map L.fr)), some (.fr (.int (sz ss gs.length))), some (.box .lst ((found.map plD).map L.fr ++ [.fr (plD (fr[y.toNat]'(by omega)))])), o10, none] := fun y b o10 hb hy0 hy1 => by
            have f := hN' _ ⟨b, _, _, o10, hb, by rw [List.length_append]; rfl, hDe.pop (show y.toNat < fr.length by omega), rfl⟩
            rw [List.map_append, List.map_append] at f
            exact f
          simp (maxSteps := 4000000) (implicitDefEqProofs := false) only [RB, entry, entryL, outs, slotL, knownTy, isB, D.tyn, D.isNon, D.flat, D.feq, D.scalar, decide_true, decide_false, reduceIte, reduceCtorEq, Nat.reduceAdd, Nat.reduceSub, Nat.reduceMul, Nat.reduceLeDiff, Nat.reduceEqDiff, Nat.reducePow, Nat.reduceLT, Int.reduceLE, Int.reduceLT, Int.reduceNe, Int.reduceEq, Int.reduceAdd, Int.reduceSub, Int.reduceMul, Int.reduceNeg, Int.reduceToNat, Int.reducePow, String.reduceEq, String.reduceBEq, String.reduceBNe, Int.reduceFMod, Int.reduceFDiv, Int.reduceNegSucc, Int.reduceAbs, t_law_deal_b2, cPull]
          split
          · refine pop_fr (by omega) (by omega) (by omega) ?_
            simp (maxSteps := 4000000) (implicitDefEqProofs := false) only [RB, r_popAt, entry, entryL, outs, slotL, knownTy, isB, D.tyn, D.isNon, D.flat, D.feq, D.scalar, decide_true, decide_false, reduceIte, reduceCtorEq, Nat.reduceAdd, Nat.reduceSub, Nat.reduceMul, Nat.reduceLeDiff, Nat.reduceEqDiff, Nat.reducePow, Nat.reduceLT, Int.reduceLE, Int.reduceLT, Int.reduceNe, Int.reduceEq, Int.reduceAdd, Int.reduceSub, Int.reduceMul, Int.reduceNeg, Int.reduceToNat, Int.reducePow, String.reduceEq, String.reduceBEq, String.reduceBNe, Int.reduceFMod, Int.reduceFDiv, Int.reduceNegSucc, Int.reduceAbs]
            exact ⟨by omega, step 0 _ _ hb (by omega) (by omega)⟩
          · refine ⟨hb, by omega, fun r b1 _ hb1 r0 r1 => ?_⟩
            refine pop_fr (by omega) (by omega) (by omega) ?_
            simp (maxSteps := 4000000) (implicitDefEqProofs := false) only [RB, r_popAt, entry, entryL, outs, slotL, knownTy, isB, D.tyn, D.isNon, D.flat, D.feq, D.scalar, decide_true, decide_false, reduceIte, reduceCtorEq, Nat.reduceAdd, Nat.reduceSub, Nat.reduceMul, Nat.reduceLeDiff, Nat.reduceEqDiff, Nat.reducePow, Nat.reduceLT, Int.reduceLE, Int.reduceLT, Int.reduceNe, Int.reduceEq, Int.reduceAdd, Int.reduceSub, Int.reduceMul, Int.reduceNeg, Int.reduceToNat, Int.reducePow, String.reduceEq, String.reduceBEq, String.reduceBNe, Int.reduceFMod, Int.reduceFDiv, Int.reduceNegSucc, Int.reduceAbs]
            exact ⟨by omega, step r _ _ hb1 (by omega) (by omega)⟩
        · rintro e ⟨b, found, fr, o10, hb, hfl, hDe, rfl⟩
          rw [rngD_len] at hfl
          simp (maxSteps := 4000000) (implicitDefEqProofs := false) only [RB, r_popAt, entry, entryL, outs, slotL, knownTy, isB, D.tyn, D.isNon, D.flat, D.feq, D.scalar, decide_true, decide_false, reduceIte, reduceCtorEq, Nat.reduceAdd, Nat.reduceSub, Nat.reduceMul, Nat.reduceLeDiff, Nat.reduceEqDiff, Nat.reducePow, Nat.reduceLT, Int.reduceLE, Int.reduceLT, Int.reduceNe, Int.reduceEq, Int.reduceAdd, Int.reduceSub, Int.reduceMul, Int.reduceNeg, Int.reduceToNat, Int.reducePow, String.reduceEq, String.reduceBEq, String.reduceBNe, Int.reduceFMod, Int.reduceFDiv, Int.reduceNegSucc, Int.reduceAbs]
          have f := hN _ ⟨b, gs ++ [found], fr, some (.fr (.int (sz ss gs.length))), some (.fr (.box .lst (found.map plD))), o10, hb, by simp, hDe.next hi2 (by omega), rfl⟩
          rw [List.map_append, List.map_append] at f
          exact ⟨by omega, f⟩
      · rintro e ⟨b, gs, fr, o8, o9, o10, hb, hg, hDe, rfl⟩
        rw [List.length_map] at hg
        simp (maxSteps := 4000000) (implicitDefEqProofs := false) only [RB, r_popAt, entry, entryL, outs, slotL, knownTy, isB, D.tyn, D.isNon, D.flat, D.feq, D.scalar, decide_true, decide_false, reduceIte, reduceCtorEq, Nat.reduceAdd, Nat.reduceSub, Nat.reduceMul, Nat.reduceLeDiff, Nat.reduceEqDiff, Nat.reducePow, Nat.reduceLT, Int.reduceLE, Int.reduceLT, Int.reduceNe, Int.reduceEq, Int.reduceAdd, Int.reduceSub, Int.reduceMul, Int.reduceNeg, Int.reduceToNat, Int.reducePow, String.reduceEq, String.reduceBEq, String.reduceBNe, Int.reduceFMod, Int.reduceFDiv, Int.reduceNegSucc, Int.reduceAbs]
        exact h gs _ _ _ hb (hDe.done hD hS h1 h6 (by omega))
end FL

namespace FL
open PySem PySem.Spec PyProof.Rows L2 TL
/-! ### the law's own least table -/
def cLawLeast : Con := fun args k _ => ∃ dr gs, args = [.fr (.tup [drD dr, gsL gs])] ∧ gs.length = dr.length ∧ dr.length ≤ 6 ∧ (∀ i, (row gs i).length ≤ 5000) ∧ ∀ l, k (.fr (.tup [drD dr, gsL (least dr gs)])) [l]
theorem gs_at {gs : List (List Pl)} {i : Nat} (h : i < gs.length) : (gs.map rowL)[i]? = some (rowL (row gs i)) := by rw [List.getElem?_map, getD_row h]; rfl
theorem v_lawleast : ∀ ls kk kx, cLawLeast ls kk kx → t_law_least (endsOf [] ls kk) (entry [] 4 ls) := by
  rintro _ kk kx ⟨dr, gs, rfl, hl, h6, hr, h⟩
  simp (maxSteps := 4000000) (implicitDefEqProofs := false) only [RB, r_popAt, entry, entryL, outs, slotL, knownTy, isB, D.tyn, D.isNon, D.flat, D.feq, D.scalar, decide_true, decide_false, reduceIte, reduceCtorEq, Nat.reduceAdd, Nat.reduceSub, Nat.reduceMul, Nat.reduceLeDiff, Nat.reduceEqDiff, Nat.reducePow, Nat.reduceLT, Int.reduceLE, Int.reduceLT, Int.reduceNe, Int.reduceEq, Int.reduceAdd, Int.reduceSub, Int.reduceMul, Int.reduceNeg, Int.reduceToNat, Int.reducePow, String.reduceEq, String.reduceBEq, String.reduceBNe, Int.reduceFMod, Int.reduceFDiv, Int.reduceNegSucc, Int.reduceAbs, t_law_least]
  refine ⟨by omega, ?_⟩
  refine forD_ix' (I := fun i e => i ≤ gs.length ∧ ∃ o2 o3, e = [some (.fr (.tup [drD dr, gsL gs])), some (.box .lst (((List.range i).map (leastR dr gs)).map rowB)), o2, o3]) ⟨Nat.zero_le _, _, _, rfl⟩ ?_ ?_
  · rintro i d env hd ⟨hle, o2, o3, rfl⟩ N hN
    obtain ⟨hi, rfl⟩ := rngD_get hd
    have hi : i < gs.length := by omega
    have e0 : (0 + (i : Int)) = (i : Int) := by omega
    have hri := hr i
    simp (maxSteps := 4000000) (implicitDefEqProofs := false) only [RB, r_popAt, entry, entryL, outs, slotL, knownTy, isB, D.tyn, D.isNon, D.flat, D.feq, D.scalar, decide_true, decide_false, reduceIte, reduceCtorEq, Nat.reduceAdd, Nat.reduceSub, Nat.reduceMul, Nat.reduceLeDiff, Nat.reduceEqDiff, Nat.reducePow, Nat.reduceLT, Int.reduceLE, Int.reduceLT, Int.reduceNe, Int.reduceEq, Int.reduceAdd, Int.reduceSub, Int.reduceMul, Int.reduceNeg, Int.reduceToNat, Int.reducePow, String.reduceEq, String.reduceBEq, String.reduceBNe, Int.reduceFMod, Int.reduceFDiv, Int.reduceNegSucc, Int.reduceAbs, t_law_least_b2, e0]
    refine atK_get (d := rowL (row gs i)) (by simpa using gs_at hi) (by omega) ?_
    simp (maxSteps := 4000000) (implicitDefEqProofs := false) only [RB, r_popAt, entry, entryL, outs, slotL, knownTy, isB, D.tyn, D.isNon, D.flat, D.feq, D.scalar, decide_true, decide_false, reduceIte, reduceCtorEq, Nat.reduceAdd, Nat.reduceSub, Nat.reduceMul, Nat.reduceLeDiff, Nat.reduceEqDiff, Nat.reducePow, Nat.reduceLT, Int.reduceLE, Int.reduceLT, Int.reduceNe, Int.reduceEq, Int.reduceAdd, Int.reduceSub, Int.reduceMul, Int.reduceNeg, Int.reduceToNat, Int.reducePow, String.reduceEq, String.reduceBEq, String.reduceBNe, Int.reduceFMod, Int.reduceFDiv, Int.reduceNegSucc, Int.reduceAbs, rowL]
    refine while_ix' (m := (row gs i).length) (I := fun m e => m ≤ (row gs i).length ∧ trim i (dlt dr i) (row gs i) (row gs i).length = trim i (dlt dr i) (row gs i) m ∧ e = [some (.fr (.tup [drD dr, gsL gs])), some (.box .lst (((List.range i).map (leastR dr gs)).map rowB)), some (.fr (.int i)), some (.fr (.int m))]) ⟨Nat.le_refl _, rfl, rfl⟩ ?_
    rintro m env ⟨hm, ht, rfl⟩ N' hN'
    simp (maxSteps := 4000000) (implicitDefEqProofs := false) only [RB, r_popAt, entry, entryL, outs, slotL, knownTy, isB, D.tyn, D.isNon, D.flat, D.feq, D.scalar, decide_true, decide_false, reduceIte, reduceCtorEq, Nat.reduceAdd, Nat.reduceSub, Nat.reduceMul, Nat.reduceLeDiff, Nat.reduceEqDiff, Nat.reducePow, Nat.reduceLT, Int.reduceLE, Int.reduceLT, Int.reduceNe, Int.reduceEq, Int.reduceAdd, Int.reduceSub, Int.reduceMul, Int.reduceNeg, Int.reduceToNat, Int.reducePow, String.reduceEq, String.reduceBEq, String.reduceBNe, Int.reduceFMod, Int.reduceFDiv, Int.reduceNegSucc, Int.reduceAbs]
    have fin : ∀ o2 o3, N [some (.fr (.tup [drD dr, gsL gs])), some (.box .lst (((List.range i).map (leastR dr gs)).map rowB ++ [rowB (leastR dr gs i)])), o2, o3] := fun o2 o3 => by
      have f := hN _ ⟨by omega, o2, o3, rfl⟩
      rw [List.range_succ, List.map_append, List.map_append] at f
      exact f
    have elast : trim i (dlt dr i) (row gs i) m = m → rowB ((row gs i).take m) = rowB (leastR dr gs i) := fun z => by unfold leastR; rw [ht, z]
    split
    · rename_i hpos
      cases m with
      | zero => simp at hpos
      | succ m =>
        have hlt : m < (row gs i).length := by omega
        have em : ((m + 1 : Nat) : Int) - 1 = (m : Int) := by omega
        refine atK_get (d := rowL (row gs i)) (by simpa using gs_at hi) (by omega) ?_
        simp (maxSteps := 4000000) (implicitDefEqProofs := false) only [RB, r_popAt, entry, entryL, outs, slotL, knownTy, isB, D.tyn, D.isNon, D.flat, D.feq, D.scalar, decide_true, decide_false, reduceIte, reduceCtorEq, Nat.reduceAdd, Nat.reduceSub, Nat.reduceMul, Nat.reduceLeDiff, Nat.reduceEqDiff, Nat.reducePow, Nat.reduceLT, Int.reduceLE, Int.reduceLT, Int.reduceNe, Int.reduceEq, Int.reduceAdd, Int.reduceSub, Int.reduceMul, Int.reduceNeg, Int.reduceToNat, Int.reducePow, String.reduceEq, String.reduceBEq, String.reduceBNe, Int.reduceFMod, Int.reduceFDiv, Int.reduceNegSucc, Int.reduceAbs, rowL, em]
        refine atK_get (d := plD ((row gs i)[m])) (by simp [hlt]) (by omega) ?_
        simp (maxSteps := 4000000) (implicitDefEqProofs := false) only [RB, r_popAt, entry, entryL, outs, slotL, knownTy, isB, D.tyn, D.isNon, D.flat, D.feq, D.scalar, decide_true, decide_false, reduceIte, reduceCtorEq, Nat.reduceAdd, Nat.reduceSub, Nat.reduceMul, Nat.reduceLeDiff, Nat.reduceEqDiff, Nat.reducePow, Nat.reduceLT, Int.reduceLE, Int.reduceLT, Int.reduceNe, Int.reduceEq, Int.reduceAdd, Int.reduceSub, Int.reduceMul, Int.reduceNeg, Int.reduceToNat, Int.reducePow, String.reduceEq, String.reduceBEq, String.reduceBNe, Int.reduceFMod, Int.reduceFDiv, Int.reduceNegSucc, Int.reduceAbs, plD]
        refine atK_get (d := .int (dlt dr i)) (by simp [getD_dlt (show i < dr.length by omega)]) (by omega) ?_
        simp (maxSteps := 4000000) (implicitDefEqProofs := false) only [RB, r_popAt, entry, entryL, outs, slotL, knownTy, isB, D.tyn, D.isNon, D.flat, D.feq, D.scalar, decide_true, decide_false, reduceIte, reduceCtorEq, Nat.reduceAdd, Nat.reduceSub, Nat.reduceMul, Nat.reduceLeDiff, Nat.reduceEqDiff, Nat.reducePow, Nat.reduceLT, Int.reduceLE, Int.reduceLT, Int.reduceNe, Int.reduceEq, Int.reduceAdd, Int.reduceSub, Int.reduceMul, Int.reduceNeg, Int.reduceToNat, Int.reducePow, String.reduceEq, String.reduceBEq, String.reduceBNe, Int.reduceFMod, Int.reduceFDiv, Int.reduceNegSucc, Int.reduceAbs, cmp_pp, eqv_pp, em]
        by_cases hc : ((row gs i)[m]).1 = (i : Int) ∧ ((row gs i)[m]).2 = (m : Int) + dlt dr i
        · have ec : (row gs i)[m]? = some ((i : Int), (m : Int) + dlt dr i) := by
            rw [List.getElem?_eq_getElem hlt]
            exact congrArg some (Prod.ext hc.1 hc.2)
          rw [if_pos (by simp [hc.1, hc.2])]
          simp (maxSteps := 4000000) (implicitDefEqProofs := false) only [RB, r_popAt, entry, entryL, outs, slotL, knownTy, isB, D.tyn, D.isNon, D.flat, D.feq, D.scalar, decide_true, decide_false, reduceIte, reduceCtorEq, Nat.reduceAdd, Nat.reduceSub, Nat.reduceMul, Nat.reduceLeDiff, Nat.reduceEqDiff, Nat.reducePow, Nat.reduceLT, Int.reduceLE, Int.reduceLT, Int.reduceNe, Int.reduceEq, Int.reduceAdd, Int.reduceSub, Int.reduceMul, Int.reduceNeg, Int.reduceToNat, Int.reducePow, String.reduceEq, String.reduceBEq, String.reduceBNe, Int.reduceFMod, Int.reduceFDiv, Int.reduceNegSucc, Int.reduceAbs, t_law_least_b1, em]
          refine hN' m _ (by omega) ⟨by omega, ?_, rfl⟩
          rw [ht]
          conv => lhs; unfold trim
          rw [if_pos ec]
        · have ec : (row gs i)[m]? ≠ some ((i : Int), (m : Int) + dlt dr i) := fun z => by
            rw [List.getElem?_eq_getElem hlt] at z
            have z := Option.some.inj z
            exact hc ⟨congrArg Prod.fst z, congrArg Prod.snd z⟩
          have tm : trim i (dlt dr i) (row gs i) (m + 1) = m + 1 := by unfold trim; rw [if_neg ec]
          rw [if_neg (by simpa using hc)]
          refine atK_get (d := rowL (row gs i)) (by simpa using gs_at hi) (by omega) ?_
          simp (maxSteps := 4000000) (implicitDefEqProofs := false) only [RB, r_popAt, entry, entryL, outs, slotL, knownTy, isB, D.tyn, D.isNon, D.flat, D.feq, D.scalar, decide_true, decide_false, reduceIte, reduceCtorEq, Nat.reduceAdd, Nat.reduceSub, Nat.reduceMul, Nat.reduceLeDiff, Nat.reduceEqDiff, Nat.reducePow, Nat.reduceLT, Int.reduceLE, Int.reduceLT, Int.reduceNe, Int.reduceEq, Int.reduceAdd, Int.reduceSub, Int.reduceMul, Int.reduceNeg, Int.reduceToNat, Int.reducePow, String.reduceEq, String.reduceBEq, String.reduceBNe, Int.reduceFMod, Int.reduceFDiv, Int.reduceNegSucc, Int.reduceAbs, rowL]
          rw [cut_take _ _ hm]
          have et : L.box .lst ((((row gs i).take (m + 1)).map plD).map L.fr) = rowB (leastR dr gs i) := elast tm
          rw [et]
          exact ⟨by rw [List.length_range]; omega, fin _ _⟩
    · rename_i hpos
      have hm0 : m = 0 := by omega
      subst hm0
      simp (maxSteps := 4000000) (implicitDefEqProofs := false) only [RB, r_popAt, entry, entryL, outs, slotL, knownTy, isB, D.tyn, D.isNon, D.flat, D.feq, D.scalar, decide_true, decide_false, reduceIte, reduceCtorEq, Nat.reduceAdd, Nat.reduceSub, Nat.reduceMul, Nat.reduceLeDiff, Nat.reduceEqDiff, Nat.reducePow, Nat.reduceLT, Int.reduceLE, Int.reduceLT, Int.reduceNe, Int.reduceEq, Int.reduceAdd, Int.reduceSub, Int.reduceMul, Int.reduceNeg, Int.reduceToNat, Int.reducePow, String.reduceEq, String.reduceBEq, String.reduceBNe, Int.reduceFMod, Int.reduceFDiv, Int.reduceNegSucc, Int.reduceAbs]
      refine atK_get (d := rowL (row gs i)) (by simpa using gs_at hi) (by omega) ?_
      simp (maxSteps := 4000000) (implicitDefEqProofs := false) only [RB, r_popAt, entry, entryL, outs, slotL, knownTy, isB, D.tyn, D.isNon, D.flat, D.feq, D.scalar, decide_true, decide_false, reduceIte, reduceCtorEq, Nat.reduceAdd, Nat.reduceSub, Nat.reduceMul, Nat.reduceLeDiff, Nat.reduceEqDiff, Nat.reducePow, Nat.reduceLT, Int.reduceLE, Int.reduceLT, Int.reduceNe, Int.reduceEq, Int.reduceAdd, Int.reduceSub, Int.reduceMul, Int.reduceNeg, Int.reduceToNat, Int.reducePow, String.reduceEq, String.reduceBEq, String.reduceBNe, Int.reduceFMod, Int.reduceFDiv, Int.reduceNegSucc, Int.reduceAbs, rowL]
      rw [show TL.cutD ((row gs i).map plD) none (some (0 : Int)) = ((row gs i).take 0).map plD from cut_take _ 0 (Nat.zero_le _)]
      have et : L.box .lst ((((row gs i).take 0).map plD).map L.fr) = rowB (leastR dr gs i) := elast rfl
      rw [et]
      exact ⟨by rw [List.length_range]; omega, fin _ _⟩
  · rintro e ⟨_, o2, o3, rfl⟩
    have el : (rngD 0 (dr.length : Int).toNat).length = gs.length := by rw [rngD_len]; omega
    rw [el]
    simp (maxSteps := 4000000) (implicitDefEqProofs := false) only [RB, r_popAt, entry, entryL, outs, slotL, knownTy, isB, D.tyn, D.isNon, D.flat, D.feq, D.scalar, decide_true, decide_false, reduceIte, reduceCtorEq, Nat.reduceAdd, Nat.reduceSub, Nat.reduceMul, Nat.reduceLeDiff, Nat.reduceEqDiff, Nat.reducePow, Nat.reduceLT, Int.reduceLE, Int.reduceLT, Int.reduceNe, Int.reduceEq, Int.reduceAdd, Int.reduceSub, Int.reduceMul, Int.reduceNeg, Int.reduceToNat, Int.reducePow, String.reduceEq, String.reduceBEq, String.reduceBNe, Int.reduceFMod, Int.reduceFDiv, Int.reduceNegSucc, Int.reduceAbs, toDs_rowB]
    exact h _
/-! ### any table -/
structure Tab (dr : List Int) (gs : List (List Pl)) : Prop where
  bij : Bij dr gs
  sum : dr.sum = 0
  lst : least dr gs = gs
def cAny : Con := fun args k _ => match args with
  | [b, .fr (.int w), .fr (.int s), .fr (.int m)] => IsBag b ∧ (1 ≤ w ∧ w ≤ 6) ∧ (0 ≤ s ∧ s ≤ 100) ∧ (0 ≤ m ∧ m ≤ 100) ∧ ∀ dr gs b' l1 l2 l3, IsBag b' → (dr.length : Int) = w → Tab dr gs → k (.fr (.tup [drD dr, gsL gs])) [b', l1, l2, l3]
  | _ => False
theorem Bij.row5 {dr : List Int} {gs : List (List Pl)} (h : Bij dr gs) (i : Nat) : (row gs i).length ≤ 5000 := Nat.le_trans (h.row_le i) (by decide)
theorem v_any : ∀ ls kk kx, cAny ls kk kx → t_law_any cDr cDeal cLawLeast (endsOf [0] ls kk) (entry [0] 4 ls) := by
  intro ls kk kx h
  unfold cAny at h
  split at h
  · rename_i b w s m
    obtain ⟨hb, ⟨w1, w6⟩, ⟨s0, s1⟩, ⟨m0, m1⟩, h⟩ := h
    simp (maxSteps := 4000000) (implicitDefEqProofs := false) only [RB, r_popAt, entry, entryL, outs, slotL, knownTy, isB, D.tyn, D.isNon, D.flat, D.feq, D.scalar, decide_true, decide_false, reduceIte, reduceCtorEq, Nat.reduceAdd, Nat.reduceSub, Nat.reduceMul, Nat.reduceLeDiff, Nat.reduceEqDiff, Nat.reducePow, Nat.reduceLT, Int.reduceLE, Int.reduceLT, Int.reduceNe, Int.reduceEq, Int.reduceAdd, Int.reduceSub, Int.reduceMul, Int.reduceNeg, Int.reduceToNat, Int.reducePow, String.reduceEq, String.reduceBEq, String.reduceBNe, Int.reduceFMod, Int.reduceFDiv, Int.reduceNegSucc, Int.reduceAbs, t_law_any, cDr]
    refine ⟨hb, ⟨w1, w6⟩, ⟨s0, s1⟩, fun dr b1 _ _ hb1 hl hD => ?_⟩
    refine ⟨b1, dr, m, rfl, hb1, hD, by omega, by omega, m0, m1, fun gs b2 _ _ hb2 hB => ?_⟩
    simp (maxSteps := 4000000) (implicitDefEqProofs := false) only [RB, r_popAt, entry, entryL, outs, slotL, knownTy, isB, D.tyn, D.isNon, D.flat, D.feq, D.scalar, decide_true, decide_false, reduceIte, reduceCtorEq, Nat.reduceAdd, Nat.reduceSub, Nat.reduceMul, Nat.reduceLeDiff, Nat.reduceEqDiff, Nat.reducePow, Nat.reduceLT, Int.reduceLE, Int.reduceLT, Int.reduceNe, Int.reduceEq, Int.reduceAdd, Int.reduceSub, Int.reduceMul, Int.reduceNeg, Int.reduceToNat, Int.reducePow, String.reduceEq, String.reduceBEq, String.reduceBNe, Int.reduceFMod, Int.reduceFDiv, Int.reduceNegSucc, Int.reduceAbs]
    refine ⟨dr, gs, rfl, hB.len, hB.n6, hB.row5, fun _ => ?_⟩
    simp (maxSteps := 4000000) (implicitDefEqProofs := false) only [RB, r_popAt, entry, entryL, outs, slotL, knownTy, isB, D.tyn, D.isNon, D.flat, D.feq, D.scalar, decide_true, decide_false, reduceIte, reduceCtorEq, Nat.reduceAdd, Nat.reduceSub, Nat.reduceMul, Nat.reduceLeDiff, Nat.reduceEqDiff, Nat.reducePow, Nat.reduceLT, Int.reduceLE, Int.reduceLT, Int.reduceNe, Int.reduceEq, Int.reduceAdd, Int.reduceSub, Int.reduceMul, Int.reduceNeg, Int.reduceToNat, Int.reducePow, String.reduceEq, String.reduceBEq, String.reduceBNe, Int.reduceFMod, Int.reduceFDiv, Int.reduceNegSucc, Int.reduceAbs]
    exact h _ _ _ _ _ _ hb2 hl ⟨hB.least, hD.sum, least_least _ _⟩
  · exact h.elim
/-! ### made, judged -/
def cLawMade (C : Addr) : Con := fun args k _ => ∃ dr gs, args = [.fr (.tup [drD dr, gsL gs])] ∧ Bij dr gs ∧ ∀ l, k (mapL C dr (least dr gs)) [l]
theorem v_lawmade (C : Addr) : ∀ ls kk kx, cLawMade C ls kk kx → t_law_made C (cInit C) (endsOf [] ls kk) (entry [] 2 ls) := by
  rintro _ kk kx ⟨dr, gs, rfl, hB, h⟩
  simp (maxSteps := 4000000) (implicitDefEqProofs := false) only [RB, r_popAt, entry, entryL, outs, slotL, knownTy, isB, D.tyn, D.isNon, D.flat, D.feq, D.scalar, decide_true, decide_false, reduceIte, reduceCtorEq, Nat.reduceAdd, Nat.reduceSub, Nat.reduceMul, Nat.reduceLeDiff, Nat.reduceEqDiff, Nat.reducePow, Nat.reduceLT, Int.reduceLE, Int.reduceLT, Int.reduceNe, Int.reduceEq, Int.reduceAdd, Int.reduceSub, Int.reduceMul, Int.reduceNeg, Int.reduceToNat, Int.reducePow, String.reduceEq, String.reduceBEq, String.reduceBNe, Int.reduceFMod, Int.reduceFDiv, Int.reduceNegSucc, Int.reduceAbs, t_law_made]
  refine compD_ix' (I := fun i acc e => acc = (gs.take i).map rowB ∧ e = [some (.fr (.tup [drD dr, gsL gs])), none]) ⟨rfl, rfl⟩ ?_ ?_
  · rintro i d acc env hd ⟨rfl, rfl⟩ M hM
    rw [List.getElem?_map] at hd
    obtain ⟨r, hr1, rfl⟩ := Option.map_eq_some_iff.mp hd
    have hi : i < gs.length := (List.getElem?_eq_some_iff.mp hr1).1
    have := hB.len
    have := hB.n6
    simp (maxSteps := 4000000) (implicitDefEqProofs := false) only [RB, r_popAt, entry, entryL, outs, slotL, knownTy, isB, D.tyn, D.isNon, D.flat, D.feq, D.scalar, decide_true, decide_false, reduceIte, reduceCtorEq, Nat.reduceAdd, Nat.reduceSub, Nat.reduceMul, Nat.reduceLeDiff, Nat.reduceEqDiff, Nat.reducePow, Nat.reduceLT, Int.reduceLE, Int.reduceLT, Int.reduceNe, Int.reduceEq, Int.reduceAdd, Int.reduceSub, Int.reduceMul, Int.reduceNeg, Int.reduceToNat, Int.reducePow, String.reduceEq, String.reduceBEq, String.reduceBNe, Int.reduceFMod, Int.reduceFDiv, Int.reduceNegSucc, Int.reduceAbs, rowL]
    refine ⟨by rw [List.length_take]; omega, hM _ _ ⟨?_, rfl⟩⟩
    rw [take_next hr1]
    simp [rowB]
  · rintro acc env ⟨rfl, rfl⟩
    rw [List.length_map, List.take_length]
    simp (maxSteps := 4000000) (implicitDefEqProofs := false) only [RB, r_popAt, entry, entryL, outs, slotL, knownTy, isB, D.tyn, D.isNon, D.flat, D.feq, D.scalar, decide_true, decide_false, reduceIte, reduceCtorEq, Nat.reduceAdd, Nat.reduceSub, Nat.reduceMul, Nat.reduceLeDiff, Nat.reduceEqDiff, Nat.reducePow, Nat.reduceLT, Int.reduceLE, Int.reduceLT, Int.reduceNe, Int.reduceEq, Int.reduceAdd, Int.reduceSub, Int.reduceMul, Int.reduceNeg, Int.reduceToNat, Int.reducePow, String.reduceEq, String.reduceBEq, String.reduceBNe, Int.reduceFMod, Int.reduceFDiv, Int.reduceNegSucc, Int.reduceAbs, toDs_rowB]
    refine ⟨dr, gs, gsL gs, hB, .inl rfl, rfl, fun _ _ => ?_⟩
    simp (maxSteps := 4000000) (implicitDefEqProofs := false) only [RB, r_popAt, entry, entryL, outs, slotL, knownTy, isB, D.tyn, D.isNon, D.flat, D.feq, D.scalar, decide_true, decide_false, reduceIte, reduceCtorEq, Nat.reduceAdd, Nat.reduceSub, Nat.reduceMul, Nat.reduceLeDiff, Nat.reduceEqDiff, Nat.reducePow, Nat.reduceLT, Int.reduceLE, Int.reduceLT, Int.reduceNe, Int.reduceEq, Int.reduceAdd, Int.reduceSub, Int.reduceMul, Int.reduceNeg, Int.reduceToNat, Int.reducePow, String.reduceEq, String.reduceBEq, String.reduceBNe, Int.reduceFMod, Int.reduceFDiv, Int.reduceNegSucc, Int.reduceAbs]
    exact h _
theorem lk_tab (dr : List Int) (gs : List (List Pl)) (h6 : dr.length ≤ 6) (hl : gs.length = dr.length) (hr : ∀ i, (row gs i).length ≤ 5000) : Lk 4 (.box .lst [drD dr, gsL gs]) := by
  unfold Lk
  refine ⟨by simp, fun d hd => ?_⟩
  simp only [List.mem_cons, List.not_mem_nil, or_false] at hd
  rcases hd with rfl | rfl
  · unfold Lk
    refine ⟨by simp; omega, fun d hd => ?_⟩
    obtain ⟨x, _, rfl⟩ := List.mem_map.mp hd
    simp [Lk]
  · unfold Lk
    refine ⟨by simp; omega, fun d hd => ?_⟩
    obtain ⟨r, hr1, rfl⟩ := List.mem_map.mp hd
    unfold rowL Lk
    refine ⟨?_, fun d hd => ?_⟩
    · obtain ⟨i, hi, rfl⟩ := List.getElem_of_mem hr1
      have := getD_row hi
      rw [List.getElem?_eq_getElem hi] at this
      rw [List.length_map, Option.some.inj this]; exact hr i
    · obtain ⟨p, _, rfl⟩ := List.mem_map.mp hd
      unfold plD Lk
      refine ⟨by simp, fun d hd => ?_⟩
      simp only [List.mem_cons, List.not_mem_nil, or_false] at hd
      rcases hd with rfl | rfl <;> simp [Lk]
def cIsMap (C : Addr) : Con := fun args k _ => ∃ dr gs, args = [.fr (mapD C dr gs), .fr (.tup [drD dr, gsL gs])] ∧ gs.length = dr.length ∧ dr.length ≤ 6 ∧ (∀ i, (row gs i).length ≤ 5000) ∧ ∀ l m, k (.fr (.bl true)) [l, m]
/-! ### the table that stays -/
def cStill : Con := fun args k _ => ∃ n : Nat, args = [.fr (.int n)] ∧ 1 ≤ n ∧ n ≤ 6 ∧ ∀ l, k (.fr (.tup [drD (zeros n), gsL (nones n)])) [l]
end FL

namespace FL
open PySem PySem.Spec PyProof.Rows L2 TL
/-! ### roads and cycles of the program -/
theorem atF_last {xs : List L} {d : D} {k : L → Prop} (hk : k (.fr d)) : atF (xs ++ [.fr d]) (-1) k := by
  refine ⟨d, ?_, hk⟩
  unfold atI ixN
  simp
  rw [if_pos (by omega)]
  have e2 : (-1 + ((xs.length : Int) + 1)).toNat = xs.length := by omega
  simp [e2]
theorem rowB_s (ps : List Pl) (p : Pl) : rowB (ps ++ [p]) = .box .lst ((ps.map plD).map L.fr ++ [.fr (plD p)]) := by simp [rowB]
theorem len_at {gs : List (List Pl)} {i : Nat} (h : i < gs.length) : (lensD gs)[i]? = some (.int (lenI (row gs i))) := by
  unfold lensD
  rw [List.getElem?_map, List.getElem?_map, getD_row h]; rfl
theorem gPl {q : Pl} {gs : DGs} {e : Ev} {n : Ev → Prop} : dgTup 2 gs (.fr (plD q)) e n = gs [.fr (.int q.1), .fr (.int q.2)] e n := by unfold plD; simp [dgTup, L.toD]
theorem pl_fold (q : Pl) : D.tup [D.int q.1, D.int q.2] = plD q := rfl
theorem eqPl {p q : Pl} {k : L → Prop} : opEq (plD p) (plD q) k = k (.fr (.bl (decide (p = q)))) := by
  have e : decide (p = q) = (decide (p.1 = q.1) && decide (p.2 = q.2)) := by
    rw [← Bool.decide_and]; exact decide_eq_decide.mpr Prod.ext_iff
  show (Cmp2 (D.tup [.int p.1, .int p.2]) (D.tup [.int q.1, .int q.2]) ∧ k (.fr (.bl (PyData.eqv (D.tup [.int p.1, .int p.2]).py (D.tup [.int q.1, .int q.2]).py)))) = _
  rw [cmp_pp, eqv_pp, ← e, true_and]
theorem nePl {p q : Pl} {k : L → Prop} : opNe (plD p) (plD q) k = k (.fr (.bl (!decide (p = q)))) := by
  have e : decide (p = q) = (decide (p.1 = q.1) && decide (p.2 = q.2)) := by
    rw [← Bool.decide_and]; exact decide_eq_decide.mpr Prod.ext_iff
  show (Cmp2 (D.tup [.int p.1, .int p.2]) (D.tup [.int q.1, .int q.2]) ∧ k (.fr (.bl (!PyData.eqv (D.tup [.int p.1, .int p.2]).py (D.tup [.int q.1, .int q.2]).py)))) = _
  rw [cmp_pp, eqv_pp, ← e, true_and]
def cRoadFrom (C : Addr) : Con := fun args k _ => ∃ dr gs e, Bij dr gs ∧ Ent dr gs e ∧ args = [.fr (mapD C dr gs), .fr (plD e)] ∧ ∀ l m, k (rowB (road dr gs e)) [l, m]
theorem v_road_from (C : Addr) : ∀ ls kk kx, cRoadFrom C ls kk kx → t_road_from C (cBounds C) (cDrifts C) (cGoal C) (endsOf [] ls kk) (entry [] 7 ls) := by
  rintro _ kk kx ⟨dr, gs, e, hB, he, rfl, h⟩
  have hn6 := hB.n6
  have hl := hB.len
  obtain ⟨r1, r2, r3, r4⟩ := he.roadN hB
  have hpl := he.1
  simp (maxSteps := 4000000) (implicitDefEqProofs := false) only [RB, r_popAt, entry, entryL, outs, slotL, knownTy, isB, D.tyn, D.isNon, D.flat, D.feq, D.scalar, decide_true, decide_false, reduceIte, reduceCtorEq, Nat.reduceAdd, Nat.reduceSub, Nat.reduceMul, Nat.reduceLeDiff, Nat.reduceEqDiff, Nat.reducePow, Nat.reduceLT, Int.reduceLE, Int.reduceLT, Int.reduceNe, Int.reduceEq, Int.reduceAdd, Int.reduceSub, Int.reduceMul, Int.reduceNeg, Int.reduceToNat, Int.reducePow, String.reduceEq, String.reduceBEq, String.reduceBNe, Int.reduceFMod, Int.reduceFDiv, Int.reduceNegSucc, Int.reduceAbs, t_road_from, mapD]
  refine ⟨dr, gs, rfl, fun _ => ?_⟩
  simp (maxSteps := 4000000) (implicitDefEqProofs := false) only [RB, r_popAt, entry, entryL, outs, slotL, knownTy, isB, D.tyn, D.isNon, D.flat, D.feq, D.scalar, decide_true, decide_false, reduceIte, reduceCtorEq, Nat.reduceAdd, Nat.reduceSub, Nat.reduceMul, Nat.reduceLeDiff, Nat.reduceEqDiff, Nat.reducePow, Nat.reduceLT, Int.reduceLE, Int.reduceLT, Int.reduceNe, Int.reduceEq, Int.reduceAdd, Int.reduceSub, Int.reduceMul, Int.reduceNeg, Int.reduceToNat, Int.reducePow, String.reduceEq, String.reduceBEq, String.reduceBNe, Int.reduceFMod, Int.reduceFDiv, Int.reduceNegSucc, Int.reduceAbs]
  refine ⟨dr, gs, by omega, rfl, fun _ => ?_⟩
  simp (maxSteps := 4000000) (implicitDefEqProofs := false) only [RB, r_popAt, entry, entryL, outs, slotL, knownTy, isB, D.tyn, D.isNon, D.flat, D.feq, D.scalar, decide_true, decide_false, reduceIte, reduceCtorEq, Nat.reduceAdd, Nat.reduceSub, Nat.reduceMul, Nat.reduceLeDiff, Nat.reduceEqDiff, Nat.reducePow, Nat.reduceLT, Int.reduceLE, Int.reduceLT, Int.reduceNe, Int.reduceEq, Int.reduceAdd, Int.reduceSub, Int.reduceMul, Int.reduceNeg, Int.reduceToNat, Int.reducePow, String.reduceEq, String.reduceBEq, String.reduceBNe, Int.reduceFMod, Int.reduceFDiv, Int.reduceNegSucc, Int.reduceAbs]
  refine while_ix' (m := roadN dr gs e) (I := fun m e' => ∃ n o5 o6, n + m = roadN dr gs e ∧ 1 ≤ m ∧ e' = [some (.fr (mapD C dr gs)), some (.fr (plD e)), some (.box .lst ((dr.map D.int).map L.fr)), some (.box .lst ((lensD gs).map L.fr)), some (rowB (walkP dr gs e (n + 1))), o5, o6]) ⟨0, _, _, by omega, r1, rfl⟩ ?_
  rintro m e' ⟨n, o5, o6, hnm, hm, rfl⟩ N hN
  have hq := hB.it_pl hpl (n + 1)
  obtain ⟨q0, q1, q2⟩ := hq
  have hin : (it dr gs (n + 1) e).1.toNat < dr.length := by omega
  have ef : L.box .lst (((walkP dr gs e n).map plD).map L.fr ++ [L.fr (plD (it dr gs n e))] ++ [L.fr (plD (it dr gs (n + 1) e))]) = rowB (walkP dr gs e (n + 1 + 1)) := by
    rw [walkP_s, walkP_s]; simp [rowB]
  have ho : outB dr gs (it dr gs (n + 1) e) = true ↔ n + 1 = roadN dr gs e := by
    constructor
    · intro o
      apply Classical.byContradiction
      intro hne
      exact out_not_inn o (r4 (n + 1) (by omega) (by omega))
    · intro o; rw [o]; exact r3
  have hwl := walkP_len (dr := dr) (gs := gs) e n
  rw [walkP_s, rowB_s]
  simp (maxSteps := 4000000) (implicitDefEqProofs := false) only [RB, r_popAt, entry, entryL, outs, slotL, knownTy, isB, D.tyn, D.isNon, D.flat, D.feq, D.scalar, decide_true, decide_false, reduceIte, reduceCtorEq, Nat.reduceAdd, Nat.reduceSub, Nat.reduceMul, Nat.reduceLeDiff, Nat.reduceEqDiff, Nat.reducePow, Nat.reduceLT, Int.reduceLE, Int.reduceLT, Int.reduceNe, Int.reduceEq, Int.reduceAdd, Int.reduceSub, Int.reduceMul, Int.reduceNeg, Int.reduceToNat, Int.reducePow, String.reduceEq, String.reduceBEq, String.reduceBNe, Int.reduceFMod, Int.reduceFDiv, Int.reduceNegSucc, Int.reduceAbs, t_road_from_b1, mapD]
  refine atF_last ?_
  simp (maxSteps := 4000000) (implicitDefEqProofs := false) only [RB, r_popAt, entry, entryL, outs, slotL, knownTy, isB, D.tyn, D.isNon, D.flat, D.feq, D.scalar, decide_true, decide_false, reduceIte, reduceCtorEq, Nat.reduceAdd, Nat.reduceSub, Nat.reduceMul, Nat.reduceLeDiff, Nat.reduceEqDiff, Nat.reducePow, Nat.reduceLT, Int.reduceLE, Int.reduceLT, Int.reduceNe, Int.reduceEq, Int.reduceAdd, Int.reduceSub, Int.reduceMul, Int.reduceNeg, Int.reduceToNat, Int.reducePow, String.reduceEq, String.reduceBEq, String.reduceBNe, Int.reduceFMod, Int.reduceFDiv, Int.reduceNegSucc, Int.reduceAbs]
  refine ⟨dr, gs, it dr gs n e, hl, hB.it_pl hpl n, rfl, fun _ _ => ?_⟩
  have eg : goalOf dr gs (it dr gs n e) = it dr gs (n + 1) e := rfl
  rw [eg]
  generalize it dr gs (n + 1) e = q at *
  simp (maxSteps := 4000000) (implicitDefEqProofs := false) only [RB, r_popAt, entry, entryL, outs, slotL, knownTy, isB, D.tyn, D.isNon, D.flat, D.feq, D.scalar, decide_true, decide_false, reduceIte, reduceCtorEq, Nat.reduceAdd, Nat.reduceSub, Nat.reduceMul, Nat.reduceLeDiff, Nat.reduceEqDiff, Nat.reducePow, Nat.reduceLT, Int.reduceLE, Int.reduceLT, Int.reduceNe, Int.reduceEq, Int.reduceAdd, Int.reduceSub, Int.reduceMul, Int.reduceNeg, Int.reduceToNat, Int.reducePow, String.reduceEq, String.reduceBEq, String.reduceBNe, Int.reduceFMod, Int.reduceFDiv, Int.reduceNegSucc, Int.reduceAbs, gPl, pl_fold]
  rw [hwl, ef]
  refine ⟨by omega, ?_⟩
  refine atF_fr (d := .int (dlt dr q.1.toNat)) (by simpa using dlt_at hin) q0 ?_
  unfold outB at ho
  have go : ¬ n + 1 = roadN dr gs e → N [some (.fr (mapD C dr gs)), some (.fr (plD e)), some (.box .lst ((dr.map D.int).map L.fr)), some (.box .lst ((lensD gs).map L.fr)), some (rowB (walkP dr gs e (n + 1 + 1))), some (.fr (.int q.1)), some (.fr (.int q.2))] := fun hne =>
    hN (m - 1) _ (by omega) ⟨n + 1, _, _, by omega, by omega, rfl⟩
  by_cases hd : dlt dr q.1.toNat > 0
  · simp (maxSteps := 4000000) (implicitDefEqProofs := false) only [RB, r_popAt, entry, entryL, outs, slotL, knownTy, isB, D.tyn, D.isNon, D.flat, D.feq, D.scalar, decide_true, decide_false, reduceIte, reduceCtorEq, Nat.reduceAdd, Nat.reduceSub, Nat.reduceMul, Nat.reduceLeDiff, Nat.reduceEqDiff, Nat.reducePow, Nat.reduceLT, Int.reduceLE, Int.reduceLT, Int.reduceNe, Int.reduceEq, Int.reduceAdd, Int.reduceSub, Int.reduceMul, Int.reduceNeg, Int.reduceToNat, Int.reducePow, String.reduceEq, String.reduceBEq, String.reduceBNe, Int.reduceFMod, Int.reduceFDiv, Int.reduceNegSucc, Int.reduceAbs, hd]
    refine atF_fr (d := .int (lenI (row gs q.1.toNat))) (by simpa using len_at (by omega)) q0 ?_
    simp (maxSteps := 4000000) (implicitDefEqProofs := false) only [RB, r_popAt, entry, entryL, outs, slotL, knownTy, isB, D.tyn, D.isNon, D.flat, D.feq, D.scalar, decide_true, decide_false, reduceIte, reduceCtorEq, Nat.reduceAdd, Nat.reduceSub, Nat.reduceMul, Nat.reduceLeDiff, Nat.reduceEqDiff, Nat.reducePow, Nat.reduceLT, Int.reduceLE, Int.reduceLT, Int.reduceNe, Int.reduceEq, Int.reduceAdd, Int.reduceSub, Int.reduceMul, Int.reduceNeg, Int.reduceToNat, Int.reducePow, String.reduceEq, String.reduceBEq, String.reduceBNe, Int.reduceFMod, Int.reduceFDiv, Int.reduceNegSucc, Int.reduceAbs, lenI]
    by_cases hb : ((row gs q.1.toNat).length : Int) ≤ q.2
    · rw [if_pos hb, ho.mp (by rw [decide_eq_true (by omega), decide_eq_true hb]; rfl)]
      exact h _ _
    · rw [if_neg hb]
      refine go fun hh => ?_
      have := ho.mpr hh
      rw [decide_eq_false hb, Bool.and_false] at this
      cases this
  · simp (maxSteps := 4000000) (implicitDefEqProofs := false) only [RB, r_popAt, entry, entryL, outs, slotL, knownTy, isB, D.tyn, D.isNon, D.flat, D.feq, D.scalar, decide_true, decide_false, reduceIte, reduceCtorEq, Nat.reduceAdd, Nat.reduceSub, Nat.reduceMul, Nat.reduceLeDiff, Nat.reduceEqDiff, Nat.reducePow, Nat.reduceLT, Int.reduceLE, Int.reduceLT, Int.reduceNe, Int.reduceEq, Int.reduceAdd, Int.reduceSub, Int.reduceMul, Int.reduceNeg, Int.reduceToNat, Int.reducePow, String.reduceEq, String.reduceBEq, String.reduceBNe, Int.reduceFMod, Int.reduceFDiv, Int.reduceNegSucc, Int.reduceAbs, hd]
    refine go fun hh => ?_
    have := ho.mpr hh
    rw [decide_eq_false (by omega), Bool.false_and] at this
    cases this
def CycAt (dr : List Int) (gs : List (List Pl)) (p : Pl) : Prop := Inn gs p ∧ ¬ OnRoad dr gs p
def cCycleFrom (C : Addr) : Con := fun args k _ => ∃ dr gs p, Bij dr gs ∧ dr.sum = 0 ∧ CycAt dr gs p ∧ args = [.fr (mapD C dr gs), .fr (plD p)] ∧ ∀ l m, k (rowB (cyc dr gs p)) [l, m]
theorem v_cycle_from (C : Addr) : ∀ ls kk kx, cCycleFrom C ls kk kx → t_cycle_from C (cGoal C) (endsOf [] ls kk) (entry [] 4 ls) := by
  rintro _ kk kx ⟨dr, gs, p, hB, hs, ⟨hp, hr⟩, rfl, h⟩
  have hl := hB.len
  have hpl := Inn.pl hB hp
  obtain ⟨c1, c2, c3, c4, c5⟩ := hp.cycN hB hs hr
  simp (maxSteps := 4000000) (implicitDefEqProofs := false) only [RB, r_popAt, entry, entryL, outs, slotL, knownTy, isB, D.tyn, D.isNon, D.flat, D.feq, D.scalar, decide_true, decide_false, reduceIte, reduceCtorEq, Nat.reduceAdd, Nat.reduceSub, Nat.reduceMul, Nat.reduceLeDiff, Nat.reduceEqDiff, Nat.reducePow, Nat.reduceLT, Int.reduceLE, Int.reduceLT, Int.reduceNe, Int.reduceEq, Int.reduceAdd, Int.reduceSub, Int.reduceMul, Int.reduceNeg, Int.reduceToNat, Int.reducePow, String.reduceEq, String.reduceBEq, String.reduceBNe, Int.reduceFMod, Int.reduceFDiv, Int.reduceNegSucc, Int.reduceAbs, t_cycle_from, mapD]
  refine ⟨dr, gs, p, hl, hpl, rfl, fun _ _ => ?_⟩
  simp (maxSteps := 4000000) (implicitDefEqProofs := false) only [RB, r_popAt, entry, entryL, outs, slotL, knownTy, isB, D.tyn, D.isNon, D.flat, D.feq, D.scalar, decide_true, decide_false, reduceIte, reduceCtorEq, Nat.reduceAdd, Nat.reduceSub, Nat.reduceMul, Nat.reduceLeDiff, Nat.reduceEqDiff, Nat.reducePow, Nat.reduceLT, Int.reduceLE, Int.reduceLT, Int.reduceNe, Int.reduceEq, Int.reduceAdd, Int.reduceSub, Int.reduceMul, Int.reduceNeg, Int.reduceToNat, Int.reducePow, String.reduceEq, String.reduceBEq, String.reduceBNe, Int.reduceFMod, Int.reduceFDiv, Int.reduceNegSucc, Int.reduceAbs]
  refine while_ix' (m := cycN dr gs p) (I := fun m e' => ∃ n, n + m = cycN dr gs p ∧ 1 ≤ m ∧ e' = [some (.fr (mapD C dr gs)), some (.fr (plD p)), some (rowB (walkP dr gs p (n + 1))), some (.fr (plD (it dr gs (n + 1) p)))]) ⟨0, by omega, c1, rfl⟩ ?_
  rintro m e' ⟨n, hnm, hm, rfl⟩ N hN
  have ef : L.box .lst (((walkP dr gs p (n + 1)).map plD).map L.fr ++ [L.fr (plD (it dr gs (n + 1) p))]) = rowB (walkP dr gs p (n + 1 + 1)) := by
    rw [walkP_s p (n + 1)]; simp [rowB]
  have hwl := walkP_len (dr := dr) (gs := gs) p (n + 1)
  have ho : it dr gs (n + 1) p = p ↔ n + 1 = cycN dr gs p := by
    constructor
    · intro o
      apply Classical.byContradiction
      intro hne
      exact c4 (n + 1) (by omega) (by omega) o
    · intro o; rw [o]; exact c3
  simp (maxSteps := 4000000) (implicitDefEqProofs := false) only [RB, r_popAt, entry, entryL, outs, slotL, knownTy, isB, D.tyn, D.isNon, D.flat, D.feq, D.scalar, decide_true, decide_false, reduceIte, reduceCtorEq, Nat.reduceAdd, Nat.reduceSub, Nat.reduceMul, Nat.reduceLeDiff, Nat.reduceEqDiff, Nat.reducePow, Nat.reduceLT, Int.reduceLE, Int.reduceLT, Int.reduceNe, Int.reduceEq, Int.reduceAdd, Int.reduceSub, Int.reduceMul, Int.reduceNeg, Int.reduceToNat, Int.reducePow, String.reduceEq, String.reduceBEq, String.reduceBNe, Int.reduceFMod, Int.reduceFDiv, Int.reduceNegSucc, Int.reduceAbs, nePl]
  by_cases hd : it dr gs (n + 1) p = p
  · simp (maxSteps := 4000000) (implicitDefEqProofs := false) only [RB, r_popAt, entry, entryL, outs, slotL, knownTy, isB, D.tyn, D.isNon, D.flat, D.feq, D.scalar, decide_true, decide_false, reduceIte, reduceCtorEq, Nat.reduceAdd, Nat.reduceSub, Nat.reduceMul, Nat.reduceLeDiff, Nat.reduceEqDiff, Nat.reducePow, Nat.reduceLT, Int.reduceLE, Int.reduceLT, Int.reduceNe, Int.reduceEq, Int.reduceAdd, Int.reduceSub, Int.reduceMul, Int.reduceNeg, Int.reduceToNat, Int.reducePow, String.reduceEq, String.reduceBEq, String.reduceBNe, Int.reduceFMod, Int.reduceFDiv, Int.reduceNegSucc, Int.reduceAbs, hd]
    rw [ho.mp hd]
    exact h _ _
  · simp (maxSteps := 4000000) (implicitDefEqProofs := false) only [RB, r_popAt, entry, entryL, outs, slotL, knownTy, isB, D.tyn, D.isNon, D.flat, D.feq, D.scalar, decide_true, decide_false, reduceIte, reduceCtorEq, Nat.reduceAdd, Nat.reduceSub, Nat.reduceMul, Nat.reduceLeDiff, Nat.reduceEqDiff, Nat.reducePow, Nat.reduceLT, Int.reduceLE, Int.reduceLT, Int.reduceNe, Int.reduceEq, Int.reduceAdd, Int.reduceSub, Int.reduceMul, Int.reduceNeg, Int.reduceToNat, Int.reducePow, String.reduceEq, String.reduceBEq, String.reduceBNe, Int.reduceFMod, Int.reduceFDiv, Int.reduceNegSucc, Int.reduceAbs, hd, t_cycle_from_b1, rowB, mapD]
    rw [hwl, ef]
    refine ⟨by omega, dr, gs, it dr gs (n + 1) p, hl, hB.it_pl hpl _, rfl, fun _ _ => ?_⟩
    simp (maxSteps := 4000000) (implicitDefEqProofs := false) only [RB, r_popAt, entry, entryL, outs, slotL, knownTy, isB, D.tyn, D.isNon, D.flat, D.feq, D.scalar, decide_true, decide_false, reduceIte, reduceCtorEq, Nat.reduceAdd, Nat.reduceSub, Nat.reduceMul, Nat.reduceLeDiff, Nat.reduceEqDiff, Nat.reducePow, Nat.reduceLT, Int.reduceLE, Int.reduceLT, Int.reduceNe, Int.reduceEq, Int.reduceAdd, Int.reduceSub, Int.reduceMul, Int.reduceNeg, Int.reduceToNat, Int.reducePow, String.reduceEq, String.reduceBEq, String.reduceBNe, Int.reduceFMod, Int.reduceFDiv, Int.reduceNegSucc, Int.reduceAbs]
    have : ¬ n + 1 = cycN dr gs p := fun z => hd (ho.mpr z)
    exact hN (m - 1) _ (by omega) ⟨n + 1, by omega, by omega, rfl⟩
end FL

namespace FL
open PySem PySem.Spec PyProof.Rows L2 TL
/-! ### the object of orbits -/
abbrev onS : List Str := [Str.ofString "base", Str.ofString "steady", Str.ofString "limits", Str.ofString "roads", Str.ofString "cycles", Str.ofString "fixed", Str.ofString "seats"]
abbrev KV := List (List Key) × List D
def orbL (C : Addr) (b s l : D) (r c f : L) (kv : KV) : L := .box (.obj C onS) [.fr b, .fr s, .fr l, r, c, f, .box (.dT kv.1) (kv.2.map L.fr)]
theorem fdAt_ne {a f : Str} {ns : List Str} {l : L} {ls : List L} {k : List (List Key) → List D → Prop} (h : f ≠ a) : fdAt (a :: ns) (l :: ls) f k = fdAt ns ls f k := by
  unfold fdAt
  simp [fldL, h]
theorem toDs_length (ls : List L) : (L.toDs ls).length = ls.length := by rw [toDs_map, List.length_map]
theorem pk_fold (p : Pl) : [Sum.inl p.1, Sum.inl p.2] = pk p := rfl
theorem putDK_len (ks : List (List Key)) (k : List Key) (d : D) (ds : List D) (h : ks.length = ds.length) : (putDK ks k).length = (putDL ks k d ds).length := by
  unfold putDK putDL
  by_cases e : memK k ks = true
  · rw [if_pos e, if_pos e, replK_len _ _ _ _ h]; exact h
  · rw [if_neg e, if_neg e]; simp [h]
def putP (kv : KV) (p : Pl) (d : D) : KV := (putDK kv.1 (pk p), putDL kv.1 (pk p) d kv.2)
def seatN (kind : Str) (num : Nat) (ps : List Pl) (kv : KV) : Nat → KV
  | 0 => kv
  | n + 1 => putP (seatN kind num ps kv n) (ps.getD n (0, 0)) (.tup [.str kind, .int num, .int n])
theorem putP_len {kv : KV} {p : Pl} {d : D} (h : kv.1.length = kv.2.length) : (putP kv p d).1.length = (putP kv p d).2.length ∧ (putP kv p d).2.length ≤ kv.2.length + 1 :=
  ⟨putDK_len _ _ _ _ h, putDL_le _ _ _ _ h⟩
theorem seatN_len {kind : Str} {num : Nat} {ps : List Pl} {kv : KV} (h : kv.1.length = kv.2.length) : ∀ n, (seatN kind num ps kv n).1.length = (seatN kind num ps kv n).2.length ∧ (seatN kind num ps kv n).2.length ≤ kv.2.length + n
  | 0 => ⟨h, Nat.le_refl _⟩
  | n + 1 => by
    obtain ⟨a, b⟩ := seatN_len h n
    obtain ⟨c, d⟩ := putP_len (p := ps.getD n (0, 0)) (d := .tup [.str kind, .int num, .int n]) a
    exact ⟨c, by show (putP _ _ _).2.length ≤ _; omega⟩
def cSeat (C : Addr) : Con := fun args k _ => ∃ b s l r c f kv kind os ps, args = [orbL C b s l r c f kv, .fr (.str kind), .box .lst os, .fr (rowL ps)] ∧ kv.1.length = kv.2.length ∧ kv.2.length + ps.length ≤ 16000000 ∧ os.length ≤ 100000 ∧ ∀ l1 l2, k (.fr .non) [orbL C b s l r c f (seatN kind os.length ps kv ps.length), l1, .box .lst (os ++ [.fr (rowL ps)]), l2]
theorem v_seat (C : Addr) : ∀ ls kk kx, cSeat C ls kk kx → t_Orbits_seat C (endsOf [0, 2] ls kk) (entry [0, 2] 6 ls) := by
  rintro _ kk kx ⟨b, s, l, r, c, f, kv, kind, os, ps, rfl, hl, hb, ho, h⟩
  simp (maxSteps := 4000000) (implicitDefEqProofs := false) only [RB, r_popAt, entry, entryL, outs, slotL, knownTy, isB, D.tyn, D.isNon, D.flat, D.feq, D.scalar, decide_true, decide_false, reduceIte, reduceCtorEq, Nat.reduceAdd, Nat.reduceSub, Nat.reduceMul, Nat.reduceLeDiff, Nat.reduceEqDiff, Nat.reducePow, Nat.reduceLT, Int.reduceLE, Int.reduceLT, Int.reduceNe, Int.reduceEq, Int.reduceAdd, Int.reduceSub, Int.reduceMul, Int.reduceNeg, Int.reduceToNat, Int.reducePow, String.reduceEq, String.reduceBEq, String.reduceBNe, Int.reduceFMod, Int.reduceFDiv, Int.reduceNegSucc, Int.reduceAbs, t_Orbits_seat, rowL]
  refine forD_ix' (I := fun i e => i ≤ ps.length ∧ ∃ o4 o5, e = [some (orbL C b s l r c f (seatN kind os.length ps kv i)), some (.fr (.str kind)), some (.box .lst os), some (.fr (rowL ps)), o4, o5]) ⟨Nat.zero_le _, _, _, rfl⟩ ?_ ?_
  · rintro i d env hd ⟨hi, o4, o5, rfl⟩ N hN
    obtain ⟨p, hp, rfl⟩ := enum_get hd
    have hi2 : i < ps.length := (List.getElem?_eq_some_iff.mp hp).1
    obtain ⟨a1, a2⟩ := seatN_len (kind := kind) (num := os.length) (ps := ps) hl i
    simp (maxSteps := 4000000) (implicitDefEqProofs := false) only [RB, r_popAt, entry, entryL, outs, slotL, knownTy, isB, D.tyn, D.isNon, D.flat, D.feq, D.scalar, decide_true, decide_false, reduceIte, reduceCtorEq, Nat.reduceAdd, Nat.reduceSub, Nat.reduceMul, Nat.reduceLeDiff, Nat.reduceEqDiff, Nat.reducePow, Nat.reduceLT, Int.reduceLE, Int.reduceLT, Int.reduceNe, Int.reduceEq, Int.reduceAdd, Int.reduceSub, Int.reduceMul, Int.reduceNeg, Int.reduceToNat, Int.reducePow, String.reduceEq, String.reduceBEq, String.reduceBNe, Int.reduceFMod, Int.reduceFDiv, Int.reduceNegSucc, Int.reduceAbs, t_Orbits_seat_b1, orbL, plD, fdAt_ne, toDs_length]
    refine ⟨by omega, ?_⟩
    have eS : seatN kind os.length ps kv (i + 1) = putP (seatN kind os.length ps kv i) p (.tup [.str kind, .int os.length, .int i]) := by
      show putP _ (ps.getD i (0, 0)) _ = _
      rw [List.getD_eq_getElem?_getD, hp]; rfl
    refine hN _ ⟨hi2, some (.fr (.int i)), some (.fr (plD p)), ?_⟩
    rw [eS]
    rfl
  · rintro e ⟨hi, o4, o5, rfl⟩
    rw [pairsE_len, List.length_map]
    simp (maxSteps := 4000000) (implicitDefEqProofs := false) only [RB, r_popAt, entry, entryL, outs, slotL, knownTy, isB, D.tyn, D.isNon, D.flat, D.feq, D.scalar, decide_true, decide_false, reduceIte, reduceCtorEq, Nat.reduceAdd, Nat.reduceSub, Nat.reduceMul, Nat.reduceLeDiff, Nat.reduceEqDiff, Nat.reducePow, Nat.reduceLT, Int.reduceLE, Int.reduceLT, Int.reduceNe, Int.reduceEq, Int.reduceAdd, Int.reduceSub, Int.reduceMul, Int.reduceNeg, Int.reduceToNat, Int.reducePow, String.reduceEq, String.reduceBEq, String.reduceBNe, Int.reduceFMod, Int.reduceFDiv, Int.reduceNegSucc, Int.reduceAbs, rowL]
    refine ⟨by omega, ?_⟩
    exact h _ _
/-! #### all that it holds -/
structure OS where
  roads : List (List Pl)
  rings : List (List Pl)
  fixs : List Pl
  kv : KV
def rwsL (rs : List (List Pl)) : L := .box .lst ((rs.map rowL).map L.fr)
def OS.toL (C : Addr) (b s l : D) (st : OS) : L := orbL C b s l (rwsL st.roads) (rwsL st.rings) (rowB st.fixs) st.kv
def hd (ps : List Pl) : Pl := ps.getD 0 (0, 0)
def strD (x : String) : D := .str (Str.ofString x)
def spotF (p : Pl) : D := .tup [.str (Str.ofString "fixed"), .int p.1, .int p.2]
def sitC (st : OS) (ps : List Pl) : OS := if ps.length = 1 then ⟨st.roads, st.rings, st.fixs ++ [hd ps], putP st.kv (hd ps) (spotF (hd ps))⟩ else ⟨st.roads, st.rings ++ [ps], st.fixs, seatN (Str.ofString "cycle") st.rings.length ps st.kv ps.length⟩
theorem lfAt_ne {a f : Str} {ns : List Str} {l : L} {ls : List L} {k : List L → Prop} (h : f ≠ a) : lfAt (a :: ns) (l :: ls) f k = lfAt ns ls f k := by
  unfold lfAt
  simp [fldL, h]
def cSit (C : Addr) : Con := fun args k _ => ∃ b s l st ps, args = [OS.toL C b s l st, .fr (rowL ps)] ∧ 1 ≤ ps.length ∧ st.kv.1.length = st.kv.2.length ∧ st.kv.2.length + ps.length ≤ 16000000 ∧ st.rings.length ≤ 100000 ∧ st.fixs.length ≤ 100000 ∧ ∀ l1, k (.fr .non) [OS.toL C b s l (sitC st ps), l1]
theorem v_sit (C : Addr) : ∀ ls kk kx, cSit C ls kk kx → t_Orbits_sit C (cSeat C) (endsOf [0] ls kk) (entry [0] 2 ls) := by
  rintro _ kk kx ⟨b, s, l, st, ps, rfl, h1, hl, hb, hr, hf, h⟩
  have h0 : (ps.map plD)[(0 : Int).toNat]? = some (plD (hd ps)) := by
    unfold hd
    cases ps with
    | nil => simp at h1
    | cons p ps => rfl
  by_cases e1 : ps.length = 1
  · simp (maxSteps := 4000000) (implicitDefEqProofs := false) only [RB, r_popAt, entry, entryL, outs, slotL, knownTy, isB, D.tyn, D.isNon, D.flat, D.feq, D.scalar, decide_true, decide_false, reduceIte, reduceCtorEq, Nat.reduceAdd, Nat.reduceSub, Nat.reduceMul, Nat.reduceLeDiff, Nat.reduceEqDiff, Nat.reducePow, Nat.reduceLT, Int.reduceLE, Int.reduceLT, Int.reduceNe, Int.reduceEq, Int.reduceAdd, Int.reduceSub, Int.reduceMul, Int.reduceNeg, Int.reduceToNat, Int.reducePow, String.reduceEq, String.reduceBEq, String.reduceBNe, Int.reduceFMod, Int.reduceFDiv, Int.reduceNegSucc, Int.reduceAbs, t_Orbits_sit, OS.toL, orbL, rwsL, rowB, rowL, lfAt_ne, e1]
    refine ⟨by omega, atK_get h0 (by decide) ?_⟩
    simp (maxSteps := 4000000) (implicitDefEqProofs := false) only [RB, r_popAt, entry, entryL, outs, slotL, knownTy, isB, D.tyn, D.isNon, D.flat, D.feq, D.scalar, decide_true, decide_false, reduceIte, reduceCtorEq, Nat.reduceAdd, Nat.reduceSub, Nat.reduceMul, Nat.reduceLeDiff, Nat.reduceEqDiff, Nat.reducePow, Nat.reduceLT, Int.reduceLE, Int.reduceLT, Int.reduceNe, Int.reduceEq, Int.reduceAdd, Int.reduceSub, Int.reduceMul, Int.reduceNeg, Int.reduceToNat, Int.reducePow, String.reduceEq, String.reduceBEq, String.reduceBNe, Int.reduceFMod, Int.reduceFDiv, Int.reduceNegSucc, Int.reduceAbs]
    refine atK_get h0 (by decide) ?_
    simp (maxSteps := 4000000) (implicitDefEqProofs := false) only [RB, r_popAt, entry, entryL, outs, slotL, knownTy, isB, D.tyn, D.isNon, D.flat, D.feq, D.scalar, decide_true, decide_false, reduceIte, reduceCtorEq, Nat.reduceAdd, Nat.reduceSub, Nat.reduceMul, Nat.reduceLeDiff, Nat.reduceEqDiff, Nat.reducePow, Nat.reduceLT, Int.reduceLE, Int.reduceLT, Int.reduceNe, Int.reduceEq, Int.reduceAdd, Int.reduceSub, Int.reduceMul, Int.reduceNeg, Int.reduceToNat, Int.reducePow, String.reduceEq, String.reduceBEq, String.reduceBNe, Int.reduceFMod, Int.reduceFDiv, Int.reduceNegSucc, Int.reduceAbs, plD, fdAt_ne]
    refine ⟨by omega, atK_get h0 (by decide) ?_⟩
    simp (maxSteps := 4000000) (implicitDefEqProofs := false) only [RB, r_popAt, entry, entryL, outs, slotL, knownTy, isB, D.tyn, D.isNon, D.flat, D.feq, D.scalar, decide_true, decide_false, reduceIte, reduceCtorEq, Nat.reduceAdd, Nat.reduceSub, Nat.reduceMul, Nat.reduceLeDiff, Nat.reduceEqDiff, Nat.reducePow, Nat.reduceLT, Int.reduceLE, Int.reduceLT, Int.reduceNe, Int.reduceEq, Int.reduceAdd, Int.reduceSub, Int.reduceMul, Int.reduceNeg, Int.reduceToNat, Int.reducePow, String.reduceEq, String.reduceBEq, String.reduceBNe, Int.reduceFMod, Int.reduceFDiv, Int.reduceNegSucc, Int.reduceAbs, plD]
    have es : sitC st ps = ⟨st.roads, st.rings, st.fixs ++ [hd ps], putP st.kv (hd ps) (spotF (hd ps))⟩ := by unfold sitC; rw [if_pos e1]
    have f := h (.fr (rowL ps))
    rw [es] at f
    unfold OS.toL orbL at f
    rw [rowB_s] at f
    exact f
  · have e2 : ¬ (ps.length : Int) = 1 := by omega
    simp (maxSteps := 4000000) (implicitDefEqProofs := false) only [RB, r_popAt, entry, entryL, outs, slotL, knownTy, isB, D.tyn, D.isNon, D.flat, D.feq, D.scalar, decide_true, decide_false, reduceIte, reduceCtorEq, Nat.reduceAdd, Nat.reduceSub, Nat.reduceMul, Nat.reduceLeDiff, Nat.reduceEqDiff, Nat.reducePow, Nat.reduceLT, Int.reduceLE, Int.reduceLT, Int.reduceNe, Int.reduceEq, Int.reduceAdd, Int.reduceSub, Int.reduceMul, Int.reduceNeg, Int.reduceToNat, Int.reducePow, String.reduceEq, String.reduceBEq, String.reduceBNe, Int.reduceFMod, Int.reduceFDiv, Int.reduceNegSucc, Int.reduceAbs, t_Orbits_sit, OS.toL, orbL, rwsL, rowB, rowL, e2]
    intro a
    refine ⟨b, s, l, rwsL st.roads, .fr (.ref a), rowB st.fixs, st.kv, Str.ofString "cycle", (st.rings.map rowL).map L.fr, ps, rfl, hl, hb, by simpa using hr, fun l1 l2 => ?_⟩
    simp (maxSteps := 4000000) (implicitDefEqProofs := false) only [RB, r_popAt, entry, entryL, outs, slotL, knownTy, isB, D.tyn, D.isNon, D.flat, D.feq, D.scalar, decide_true, decide_false, reduceIte, reduceCtorEq, Nat.reduceAdd, Nat.reduceSub, Nat.reduceMul, Nat.reduceLeDiff, Nat.reduceEqDiff, Nat.reducePow, Nat.reduceLT, Int.reduceLE, Int.reduceLT, Int.reduceNe, Int.reduceEq, Int.reduceAdd, Int.reduceSub, Int.reduceMul, Int.reduceNeg, Int.reduceToNat, Int.reducePow, String.reduceEq, String.reduceBEq, String.reduceBNe, Int.reduceFMod, Int.reduceFDiv, Int.reduceNegSucc, Int.reduceAbs, orbL]
    refine ⟨by simp [fldL, r_ofStr], ?_⟩
    have es : sitC st ps = ⟨st.roads, st.rings ++ [ps], st.fixs, seatN (Str.ofString "cycle") st.rings.length ps st.kv ps.length⟩ := by unfold sitC; rw [if_neg e1]
    have f := h (.fr (rowL ps))
    rw [es] at f
    have ew : rwsL (st.rings ++ [ps]) = .box .lst ((st.rings.map rowL).map L.fr ++ [.fr (rowL ps)]) := by simp [rwsL]
    unfold OS.toL orbL at f
    rw [ew] at f
    exact f
/-! #### built turn by turn -/
def flt (sz : Nat → Nat) (g : Nat → Nat → Pl) (i a : Nat) : List Pl := ((List.range i).flatMap fun i => (List.range (sz i)).map (g i)) ++ (List.range a).map (g i)
section
variable {sz : Nat → Nat} {g : Nat → Nat → Pl} {i a n : Nat}
theorem flt_step : flt sz g i (a + 1) = flt sz g i a ++ [g i a] := by simp [flt, List.range_succ]
theorem flt_next : flt sz g i (sz i) = flt sz g (i + 1) 0 := by simp [flt, List.range_succ]
theorem flt_0 : flt sz g 0 0 = [] := by simp [flt]
theorem flt_len : (flt sz g i a).length = ((List.range i).map sz).sum + a := by simp [flt, List.length_flatMap]
theorem sum_lt (h : i < n) : ((List.range i).map sz).sum + sz i ≤ ((List.range n).map sz).sum := by
  induction n with
  | zero => omega
  | succ n ih =>
    rw [List.range_succ, List.map_append, List.sum_append]
    by_cases e : i = n
    · subst e; simp
    · have := ih (by omega)
      simp
      omega
theorem mem_flt {p : Pl} (h : p ∈ flt sz g i a) : ∃ j b, (j < i ∧ b < sz j ∨ j = i ∧ b < a) ∧ p = g j b := by
  unfold flt at h
  rcases List.mem_append.mp h with h | h
  · obtain ⟨j, hj, hp⟩ := List.mem_flatMap.mp h
    obtain ⟨b, hb, e⟩ := List.mem_map.mp hp
    exact ⟨j, b, .inl ⟨List.mem_range.mp hj, List.mem_range.mp hb⟩, e.symm⟩
  · obtain ⟨b, hb, e⟩ := List.mem_map.mp h
    exact ⟨i, b, .inr ⟨rfl, List.mem_range.mp hb⟩, e.symm⟩
end
end FL

namespace FL
open PySem PySem.Spec PyProof.Rows L2 TL
/-! ### what the object of orbits holds -/
def knownK (kv : KV) (p : Pl) : Bool := (lookK kv.1 kv.2 (pk p)).isSome
theorem knownK_put {kv : KV} {p q : Pl} {d : D} (h : kv.1.length = kv.2.length) : knownK (putP kv p d) q = true ↔ q = p ∨ knownK kv q = true := by
  unfold knownK putP
  rw [look_put _ _ _ _ _ h]
  by_cases e : pk p = pk q
  · rw [if_pos e]
    have := pk_inj e
    simp [this]
  · rw [if_neg e]
    have : q ≠ p := fun z => e (by rw [z])
    simp [this]
theorem knownK_seat {kind : Str} {num : Nat} {ps : List Pl} {kv : KV} {q : Pl} (h : kv.1.length = kv.2.length) : ∀ n, n ≤ ps.length → (knownK (seatN kind num ps kv n) q = true ↔ knownK kv q = true ∨ q ∈ ps.take n)
  | 0, _ => by simp [seatN]
  | n + 1, hn => by
    have e : ps[n]? = some (ps.getD n (0, 0)) := by rw [List.getD_eq_getElem?_getD, List.getElem?_eq_getElem (by omega)]; rfl
    show knownK (putP _ _ _) q = true ↔ _
    rw [knownK_put (seatN_len h n).1, knownK_seat h n (by omega), take_next e, List.mem_append, List.mem_singleton]
    constructor
    · rintro (a | a | a)
      · exact .inr (.inr a)
      · exact .inl a
      · exact .inr (.inl a)
    · rintro (a | a | a)
      · exact .inr (.inl a)
      · exact .inr (.inr a)
      · exact .inl a
theorem knownK_all {kind : Str} {num : Nat} {ps : List Pl} {kv : KV} {q : Pl} (h : kv.1.length = kv.2.length) : knownK (seatN kind num ps kv ps.length) q = true ↔ knownK kv q = true ∨ q ∈ ps := by
  rw [knownK_seat h _ (Nat.le_refl _), List.take_length]
def entSz (dr : List Int) (i : Nat) : Nat := (-(dlt dr i)).toNat
def entG (gs : List (List Pl)) (i a : Nat) : Pl := ((i : Int), ((row gs i).length : Int) + (a : Int))
def ents (dr : List Int) (gs : List (List Pl)) : List Pl := flt (entSz dr) (entG gs) gs.length 0
def innG (i a : Nat) : Pl := ((i : Int), (a : Int))
def innSz (gs : List (List Pl)) (i : Nat) : Nat := (row gs i).length
def seatR (dr : List Int) (gs : List (List Pl)) (st : OS) (e : Pl) : OS := ⟨st.roads ++ [road dr gs e], st.rings, st.fixs, seatN (Str.ofString "road") st.roads.length (road dr gs e) st.kv (road dr gs e).length⟩
def stepC (dr : List Int) (gs : List (List Pl)) (st : OS) (p : Pl) : OS := if knownK st.kv p = true then st else sitC st (cyc dr gs p)
def osR (dr : List Int) (gs : List (List Pl)) (l : List Pl) : OS := l.foldl (seatR dr gs) ⟨[], [], [], ([], [])⟩
def osC (dr : List Int) (gs : List (List Pl)) (l : List Pl) : OS := l.foldl (stepC dr gs) (osR dr gs (ents dr gs))
def orbs (dr : List Int) (gs : List (List Pl)) : OS := osC dr gs (inns gs)
def ways (dr : List Int) (gs : List (List Pl)) : List (List Pl) := (ents dr gs).map (road dr gs)
def scanS (dr : List Int) (gs : List (List Pl)) (s : List (List Pl) × List Pl) (p : Pl) : List (List Pl) × List Pl := if p ∈ s.2 then s else (s.1 ++ [cyc dr gs p], s.2 ++ cyc dr gs p)
def scn (dr : List Int) (gs : List (List Pl)) (l : List Pl) : List (List Pl) × List Pl := l.foldl (scanS dr gs) ([], (ways dr gs).flatten)
def rest (dr : List Int) (gs : List (List Pl)) : List (List Pl) := (scn dr gs (inns gs)).1
section
variable {dr : List Int} {gs : List (List Pl)}
theorem inns_flt : inns gs = flt (innSz gs) innG gs.length 0 := by
  unfold flt
  rw [List.range_zero, List.map_nil, List.append_nil]
  rfl
theorem osR_s (l : List Pl) (e : Pl) : osR dr gs (l ++ [e]) = seatR dr gs (osR dr gs l) e := by simp [osR, List.foldl_append]
theorem osC_s (l : List Pl) (e : Pl) : osC dr gs (l ++ [e]) = stepC dr gs (osC dr gs l) e := by simp [osC, List.foldl_append]
theorem scn_s (l : List Pl) (e : Pl) : scn dr gs (l ++ [e]) = scanS dr gs (scn dr gs l) e := by simp [scn, List.foldl_append]
theorem mem_ents (h : Bij dr gs) {e : Pl} : e ∈ ents dr gs ↔ Ent dr gs e := by
  have hl := h.len
  constructor
  · intro he
    obtain ⟨j, b, hjb, rfl⟩ := mem_flt he
    obtain ⟨hj, hb⟩ : j < gs.length ∧ b < entSz dr j := by
      rcases hjb with z | ⟨_, z⟩
      · exact z
      · omega
    unfold entSz at hb
    refine ⟨⟨by show (0 : Int) ≤ j; omega, by show (j : Int) < _; omega, by show (0 : Int) ≤ _ + (b : Int); omega⟩, ?_, ?_⟩
    · show (((row gs (j : Int).toNat).length : Nat) : Int) ≤ ((row gs j).length : Int) + (b : Int)
      rw [Int.toNat_natCast]; omega
    · show ((row gs j).length : Int) + (b : Int) < (((row gs (j : Int).toNat).length : Nat) : Int) - dlt dr (j : Int).toNat
      rw [Int.toNat_natCast]; omega
  · rintro ⟨⟨h0, h1, h2⟩, h3, h4⟩
    unfold ents flt
    refine List.mem_append_left _ (List.mem_flatMap.mpr ⟨e.1.toNat, List.mem_range.mpr (by omega), List.mem_map.mpr ⟨(e.2 - (row gs e.1.toNat).length).toNat, List.mem_range.mpr ?_, ?_⟩⟩)
    · unfold entSz; omega
    · refine Prod.ext ?_ ?_
      · show ((e.1.toNat : Nat) : Int) = e.1; omega
      · show ((row gs e.1.toNat).length : Int) + ((e.2 - (row gs e.1.toNat).length).toNat : Nat) = e.2; omega
theorem ents_le (h : Bij dr gs) : (ents dr gs).length ≤ 2000 := by
  unfold ents
  rw [flt_len]
  have h1 := sum_le_sum (entSz dr) (fun i => (row gs i).length) gs.length fun i => by
    unfold entSz
    by_cases hi : i < dr.length
    · have := h.nn i hi; omega
    · rw [dlt_out (by omega)]; simp
  rw [← map_len_range] at h1
  have := h.tot
  omega
theorem road_len (h : Bij dr gs) {e : Pl} (he : Ent dr gs e) : 2 ≤ (road dr gs e).length ∧ (road dr gs e).length ≤ 2002 := by
  obtain ⟨h1, h2, _⟩ := he.roadN h
  unfold road
  rw [walkP_len]
  omega
structure RoadsOk (dr : List Int) (gs : List (List Pl)) (l : List Pl) : Prop where
  roads : (osR dr gs l).roads = l.map (road dr gs)
  rings : (osR dr gs l).rings = []
  fixs : (osR dr gs l).fixs = []
  len : (osR dr gs l).kv.1.length = (osR dr gs l).kv.2.length
  size : (osR dr gs l).kv.2.length ≤ 2002 * l.length
  known : ∀ p, knownK (osR dr gs l).kv p = true ↔ p ∈ (l.map (road dr gs)).flatten
theorem roadsOk (h : Bij dr gs) : ∀ (n : Nat) (l : List Pl), l.length = n → (∀ e ∈ l, Ent dr gs e) → RoadsOk dr gs l
  | 0, l, hn, _ => by
    have : l = [] := List.length_eq_zero_iff.mp hn
    subst this
    refine ⟨rfl, rfl, rfl, rfl, Nat.le_refl _, fun p => ?_⟩
    simp [osR, knownK, lookK]
  | n + 1, l, hn, hl => by
    obtain ⟨l', e, rfl⟩ : ∃ l' e, l = l' ++ [e] := ⟨l.dropLast, l.getLast (by intro z; rw [z] at hn; simp at hn), (List.dropLast_concat_getLast _).symm⟩
    have ih := roadsOk h n l' (by simpa using hn) fun e he => hl e (by simp [he])
    have hr := road_len h (hl e (by simp))
    have hs := seatN_len (kind := Str.ofString "road") (num := (osR dr gs l').roads.length) (ps := road dr gs e) ih.len (road dr gs e).length
    rw [List.length_append] at hn
    have hsz := ih.size
    refine ⟨?_, ?_, ?_, ?_, ?_, fun p => ?_⟩
    all_goals rw [osR_s]
    · show (osR dr gs l').roads ++ [_] = _
      rw [ih.roads]; simp
    · exact ih.rings
    · exact ih.fixs
    · exact hs.1
    · show (seatN _ _ _ _ _).2.length ≤ _
      have h2 := hs.2
      rw [List.length_append]
      simp only [List.length_cons, List.length_nil]
      omega
    · show knownK (seatN _ _ _ _ _) p = true ↔ _
      rw [knownK_all ih.len, ih.known]
      simp
structure Rel (dr : List Int) (gs : List (List Pl)) (l : List Pl) : Prop where
  len : (osC dr gs l).kv.1.length = (osC dr gs l).kv.2.length
  size : (osC dr gs l).kv.2.length ≤ 4004000 + 2000 * (scn dr gs l).1.length
  known : ∀ p, knownK (osC dr gs l).kv p = true ↔ p ∈ (scn dr gs l).2
  roads : (osC dr gs l).roads = ways dr gs
  rings : (osC dr gs l).rings = (scn dr gs l).1.filter fun c => decide (1 < c.length)
  fixs : (osC dr gs l).fixs = ((scn dr gs l).1.filter fun c => decide (c.length = 1)).map hd
  sub : ((scn dr gs l).1.map hd).Sublist l
  each : ∀ c ∈ (scn dr gs l).1, ∃ p, CycAt dr gs p ∧ c = cyc dr gs p
  base : ∀ p, OnRoad dr gs p → p ∈ (scn dr gs l).2
  big : (scn dr gs l).2.length ≤ 4004000 + 2000 * (scn dr gs l).1.length
theorem flat_le : ∀ (l : List (List Pl)) (n : Nat), (∀ r ∈ l, r.length ≤ n) → l.flatten.length ≤ n * l.length
  | [], n, _ => by simp
  | r :: l, n, h => by
    have h1 := h r (by simp)
    have h2 := flat_le l n fun r hr => h r (by simp [hr])
    rw [List.flatten_cons, List.length_append, List.length_cons, Nat.mul_succ]
    omega
theorem hd_cyc (h : Bij dr gs) (hs : dr.sum = 0) {p : Pl} (hp : CycAt dr gs p) : hd (cyc dr gs p) = p ∧ 1 ≤ (cyc dr gs p).length ∧ (cyc dr gs p).length ≤ 2000 := by
  obtain ⟨c1, c2, c3, c4, c5⟩ := hp.1.cycN h hs hp.2
  refine ⟨?_, ?_⟩
  · unfold hd cyc walkP
    obtain ⟨k, hk⟩ : ∃ k, cycN dr gs p = k + 1 := ⟨cycN dr gs p - 1, by omega⟩
    rw [hk, List.range_succ_eq_map]
    rfl
  · unfold cyc; rw [walkP_len]; omega
theorem relOk (h : Bij dr gs) (hs : dr.sum = 0) : ∀ (n : Nat) (l : List Pl), l.length = n → (∀ e ∈ l, Inn gs e) → Rel dr gs l
  | 0, l, hn, _ => by
    have : l = [] := List.length_eq_zero_iff.mp hn
    subst this
    have r := roadsOk h _ (ents dr gs) rfl fun e he => (mem_ents h).mp he
    have hle := ents_le h
    have hsz := r.size
    refine ⟨r.len, ?_, r.known, r.roads, ?_, ?_, List.Sublist.refl _, (fun c hc => absurd hc (by simp [scn])), fun p ⟨e, he, hp⟩ => ?_, ?_⟩
    · show (osR dr gs (ents dr gs)).kv.2.length ≤ _; omega
    · exact r.rings
    · exact r.fixs
    · exact List.mem_flatten.mpr ⟨_, List.mem_map.mpr ⟨e, (mem_ents h).mpr he, rfl⟩, hp⟩
    · show (ways dr gs).flatten.length ≤ _
      have := flat_le (ways dr gs) 2002 fun r hr => by
        obtain ⟨e, he, rfl⟩ := List.mem_map.mp hr
        exact (road_len h ((mem_ents h).mp he)).2
      have e2 : (ways dr gs).length = (ents dr gs).length := by simp [ways]
      rw [e2] at this
      omega
  | n + 1, l, hn, hl => by
    obtain ⟨l', p, rfl⟩ : ∃ l' e, l = l' ++ [e] := ⟨l.dropLast, l.getLast (by intro z; rw [z] at hn; simp at hn), (List.dropLast_concat_getLast _).symm⟩
    have ih := relOk h hs n l' (by simpa using hn) fun e he => hl e (by simp [he])
    have hp := hl p (by simp)
    by_cases hk : p ∈ (scn dr gs l').2
    · have e1 : osC dr gs (l' ++ [p]) = osC dr gs l' := by rw [osC_s]; unfold stepC; rw [if_pos ((ih.known p).mpr hk)]
      have e2 : scn dr gs (l' ++ [p]) = scn dr gs l' := by rw [scn_s]; unfold scanS; rw [if_pos hk]
      refine ⟨?_, ?_, ?_, ?_, ?_, ?_, ?_, ?_, ?_, ?_⟩
      all_goals first | rw [e1, e2] | rw [e1] | rw [e2]
      · exact ih.len
      · exact ih.size
      · exact ih.known
      · exact ih.roads
      · exact ih.rings
      · exact ih.fixs
      · exact ih.sub.trans (List.sublist_append_left _ _)
      · exact ih.each
      · exact ih.base
      · exact ih.big
    · have hc : CycAt dr gs p := ⟨hp, fun z => hk (ih.base p z)⟩
      obtain ⟨c1, c2, c3⟩ := hd_cyc h hs hc
      have e1 : osC dr gs (l' ++ [p]) = sitC (osC dr gs l') (cyc dr gs p) := by rw [osC_s]; unfold stepC; rw [if_neg (fun z => hk ((ih.known p).mp z))]
      have e2 : scn dr gs (l' ++ [p]) = ((scn dr gs l').1 ++ [cyc dr gs p], (scn dr gs l').2 ++ cyc dr gs p) := by rw [scn_s]; unfold scanS; rw [if_neg hk]
      have hsz := ih.size
      have hbg := ih.big
      have sub : (((scn dr gs l').1 ++ [cyc dr gs p]).map hd).Sublist (l' ++ [p]) := by
        rw [List.map_append, List.map_cons, List.map_nil, c1]
        exact List.Sublist.append ih.sub (List.Sublist.refl _)
      have each : ∀ c ∈ (scn dr gs l').1 ++ [cyc dr gs p], ∃ p, CycAt dr gs p ∧ c = cyc dr gs p := fun c hc' => by
        rcases List.mem_append.mp hc' with z | z
        · exact ih.each c z
        · exact ⟨p, hc, by simpa using z⟩
      by_cases h1 : (cyc dr gs p).length = 1
      · have e3 : sitC (osC dr gs l') (cyc dr gs p) = ⟨(osC dr gs l').roads, (osC dr gs l').rings, (osC dr gs l').fixs ++ [hd (cyc dr gs p)], putP (osC dr gs l').kv (hd (cyc dr gs p)) (spotF (hd (cyc dr gs p)))⟩ := by unfold sitC; rw [if_pos h1]
        have hpl := putP_len (p := hd (cyc dr gs p)) (d := spotF (hd (cyc dr gs p))) ih.len
        have ec : cyc dr gs p = [p] := by
          obtain ⟨x, hx⟩ := List.length_eq_one_iff.mp h1
          rw [hx] at c1 ⊢
          rw [← c1]; rfl
        refine ⟨?_, ?_, fun q => ?_, ?_, ?_, ?_, ?_, ?_, fun q hq => ?_, ?_⟩
        all_goals first | rw [e1, e2, e3] | rw [e1, e3] | rw [e2]
        · exact hpl.1
        · have := hpl.2
          rw [List.length_append]
          simp only [List.length_cons, List.length_nil]
          omega
        · show knownK (putP _ _ _) q = true ↔ _
          rw [knownK_put ih.len, ih.known, List.mem_append, c1, ec, List.mem_singleton]
          exact or_comm
        · exact ih.roads
        · show (osC dr gs l').rings = _
          rw [ih.rings, List.filter_append]
          simp [h1]
        · show (osC dr gs l').fixs ++ _ = _
          rw [ih.fixs, List.filter_append]
          simp [h1]
        · exact sub
        · exact each
        · exact List.mem_append_left _ (ih.base q hq)
        · rw [List.length_append, List.length_append]
          simp only [List.length_cons, List.length_nil]
          omega
      · have e3 : sitC (osC dr gs l') (cyc dr gs p) = ⟨(osC dr gs l').roads, (osC dr gs l').rings ++ [cyc dr gs p], (osC dr gs l').fixs, seatN (Str.ofString "cycle") (osC dr gs l').rings.length (cyc dr gs p) (osC dr gs l').kv (cyc dr gs p).length⟩ := by unfold sitC; rw [if_neg h1]
        have hss := seatN_len (kind := Str.ofString "cycle") (num := (osC dr gs l').rings.length) (ps := cyc dr gs p) ih.len (cyc dr gs p).length
        have h2 : 1 < (cyc dr gs p).length := by omega
        refine ⟨?_, ?_, fun q => ?_, ?_, ?_, ?_, ?_, ?_, fun q hq => ?_, ?_⟩
        all_goals first | rw [e1, e2, e3] | rw [e1, e3] | rw [e2]
        · exact hss.1
        · have := hss.2
          rw [List.length_append]
          simp only [List.length_cons, List.length_nil]
          omega
        · show knownK (seatN _ _ _ _ _) q = true ↔ _
          rw [knownK_all ih.len, ih.known, List.mem_append]
        · exact ih.roads
        · show (osC dr gs l').rings ++ _ = _
          rw [ih.rings, List.filter_append]
          simp [h2]
        · show (osC dr gs l').fixs = _
          rw [ih.fixs, List.filter_append]
          simp [h1]
        · exact sub
        · exact each
        · exact List.mem_append_left _ (ih.base q hq)
        · rw [List.length_append, List.length_append]
          simp only [List.length_cons, List.length_nil]
          omega
end
end FL

namespace FL
open PySem PySem.Spec PyProof.Rows L2 TL
/-! ### Orbits(..) -/
def orbO (CM CO : Addr) (dr : List Int) (gs : List (List Pl)) (st : OS) : L := OS.toL CO (mapD CM dr gs) (drD dr) (.box .lst (lensD gs)) st
def cOInit (CM CO : Addr) : Con := fun args k _ => ∃ dr gs, args = [.box (.obj CO []) [], .fr (mapD CM dr gs)] ∧ Bij dr gs ∧ dr.sum = 0 ∧ ∀ l1, k (.fr .non) [orbO CM CO dr gs (orbs dr gs), l1]
theorem pe_drs {dr : List Int} {i : Nat} {d : D} (h : (pairsE 0 (dr.map D.int))[i]? = some d) : i < dr.length ∧ d = .tup [.int (i : Nat), .int (dlt dr i)] := by
  obtain ⟨x, hx, rfl⟩ := enum_get h
  have hi : i < dr.length := (List.getElem?_eq_some_iff.mp hx).1
  rw [getD_dlt hi] at hx
  exact ⟨hi, by rw [Option.some.inj hx]⟩
theorem pe_lens {gs : List (List Pl)} {i : Nat} {d : D} (h : (pairsE 0 (lensD gs))[i]? = some d) : i < gs.length ∧ d = .tup [.int (i : Nat), .int (lenI (row gs i))] := by
  obtain ⟨x, hx, rfl⟩ := enum_get (F := D.int) (xs := gs.map lenI) h
  rw [List.getElem?_map] at hx
  obtain ⟨r, hr, rfl⟩ := Option.map_eq_some_iff.mp hx
  have hi : i < gs.length := (List.getElem?_eq_some_iff.mp hr).1
  rw [getD_row hi] at hr
  exact ⟨hi, by rw [← Option.some.inj hr]⟩
theorem nfPl {i : Nat} {C : Addr} {f : Str} {Q : L → Ev → Prop} {e : Ev} {p : Pl} : nfK2 i C f Q e (plD p) = nfK3 i C f Q e (pk p) := by
  simp (maxSteps := 4000000) (implicitDefEqProofs := false) only [RB, r_popAt, entry, entryL, outs, slotL, knownTy, isB, D.tyn, D.isNon, D.flat, D.feq, D.scalar, decide_true, decide_false, reduceIte, reduceCtorEq, Nat.reduceAdd, Nat.reduceSub, Nat.reduceMul, Nat.reduceLeDiff, Nat.reduceEqDiff, Nat.reducePow, Nat.reduceLT, Int.reduceLE, Int.reduceLT, Int.reduceNe, Int.reduceEq, Int.reduceAdd, Int.reduceSub, Int.reduceMul, Int.reduceNeg, Int.reduceToNat, Int.reducePow, String.reduceEq, String.reduceBEq, String.reduceBNe, Int.reduceFMod, Int.reduceFDiv, Int.reduceNegSucc, Int.reduceAbs, plD, pk_fold]
theorem v_oinit (CM CO : Addr) : ∀ ls kk kx, cOInit CM CO ls kk kx → t_Orbits_init CM CO (cDrifts CM) (cBounds CM) (cSeat CO) (cRoadFrom CM) (cSit CO) (cCycleFrom CM) (endsOf [0] ls kk) (entry [0] 6 ls) := by
  rintro _ kk kx ⟨dr, gs, rfl, hB, hs, h⟩
  have hn6 := hB.n6
  have hl := hB.len
  simp (maxSteps := 4000000) (implicitDefEqProofs := false) only [RB, r_popAt, entry, entryL, outs, slotL, knownTy, isB, D.tyn, D.isNon, D.flat, D.feq, D.scalar, decide_true, decide_false, reduceIte, reduceCtorEq, Nat.reduceAdd, Nat.reduceSub, Nat.reduceMul, Nat.reduceLeDiff, Nat.reduceEqDiff, Nat.reducePow, Nat.reduceLT, Int.reduceLE, Int.reduceLT, Int.reduceNe, Int.reduceEq, Int.reduceAdd, Int.reduceSub, Int.reduceMul, Int.reduceNeg, Int.reduceToNat, Int.reducePow, String.reduceEq, String.reduceBEq, String.reduceBNe, Int.reduceFMod, Int.reduceFDiv, Int.reduceNegSucc, Int.reduceAbs, t_Orbits_init, mapD]
  refine ⟨dr, gs, rfl, fun _ => ?_⟩
  simp (maxSteps := 4000000) (implicitDefEqProofs := false) only [RB, r_popAt, entry, entryL, outs, slotL, knownTy, isB, D.tyn, D.isNon, D.flat, D.feq, D.scalar, decide_true, decide_false, reduceIte, reduceCtorEq, Nat.reduceAdd, Nat.reduceSub, Nat.reduceMul, Nat.reduceLeDiff, Nat.reduceEqDiff, Nat.reducePow, Nat.reduceLT, Int.reduceLE, Int.reduceLT, Int.reduceNe, Int.reduceEq, Int.reduceAdd, Int.reduceSub, Int.reduceMul, Int.reduceNeg, Int.reduceToNat, Int.reducePow, String.reduceEq, String.reduceBEq, String.reduceBNe, Int.reduceFMod, Int.reduceFDiv, Int.reduceNegSucc, Int.reduceAbs]
  refine ⟨dr, gs, by omega, rfl, fun _ => ?_⟩
  simp (maxSteps := 4000000) (implicitDefEqProofs := false) only [RB, r_popAt, entry, entryL, outs, slotL, knownTy, isB, D.tyn, D.isNon, D.flat, D.feq, D.scalar, decide_true, decide_false, reduceIte, reduceCtorEq, Nat.reduceAdd, Nat.reduceSub, Nat.reduceMul, Nat.reduceLeDiff, Nat.reduceEqDiff, Nat.reducePow, Nat.reduceLT, Int.reduceLE, Int.reduceLT, Int.reduceNe, Int.reduceEq, Int.reduceAdd, Int.reduceSub, Int.reduceMul, Int.reduceNeg, Int.reduceToNat, Int.reducePow, String.reduceEq, String.reduceBEq, String.reduceBNe, Int.reduceFMod, Int.reduceFDiv, Int.reduceNegSucc, Int.reduceAbs]
  refine forD_ix' (I := fun i e => ∃ o2 o3 o4 o5, e = [some (orbO CM CO dr gs (osR dr gs (flt (entSz dr) (entG gs) i 0))), some (.fr (mapD CM dr gs)), o2, o3, o4, o5]) ⟨_, _, _, _, rfl⟩ ?_ ?_
  · rintro i d env hd ⟨o2, o3, o4, o5, rfl⟩ N hN
    obtain ⟨hi, rfl⟩ := pe_drs hd
    have hlen := len_at (gs := gs) (i := i) (by omega)
    have hnn := hB.nn i hi
    have hrl := hB.row_le i
    have hdb := hB.db i
    have hsz : entSz dr i ≤ 2000 := by unfold entSz; omega
    have hsum := ents_le hB
    unfold ents at hsum
    rw [flt_len] at hsum
    have hst := sum_lt (sz := entSz dr) (i := i) (n := gs.length) (by omega)
    simp (maxSteps := 4000000) (implicitDefEqProofs := false) only [RB, r_popAt, entry, entryL, outs, slotL, knownTy, isB, D.tyn, D.isNon, D.flat, D.feq, D.scalar, decide_true, decide_false, reduceIte, reduceCtorEq, Nat.reduceAdd, Nat.reduceSub, Nat.reduceMul, Nat.reduceLeDiff, Nat.reduceEqDiff, Nat.reducePow, Nat.reduceLT, Int.reduceLE, Int.reduceLT, Int.reduceNe, Int.reduceEq, Int.reduceAdd, Int.reduceSub, Int.reduceMul, Int.reduceNeg, Int.reduceToNat, Int.reducePow, String.reduceEq, String.reduceBEq, String.reduceBNe, Int.reduceFMod, Int.reduceFDiv, Int.reduceNegSucc, Int.reduceAbs, t_Orbits_init_b2, orbO, OS.toL, orbL]
    refine atK_get (d := .int (lenI (row gs i))) (by simpa using hlen) (by omega) ?_
    simp (maxSteps := 4000000) (implicitDefEqProofs := false) only [RB, r_popAt, entry, entryL, outs, slotL, knownTy, isB, D.tyn, D.isNon, D.flat, D.feq, D.scalar, decide_true, decide_false, reduceIte, reduceCtorEq, Nat.reduceAdd, Nat.reduceSub, Nat.reduceMul, Nat.reduceLeDiff, Nat.reduceEqDiff, Nat.reducePow, Nat.reduceLT, Int.reduceLE, Int.reduceLT, Int.reduceNe, Int.reduceEq, Int.reduceAdd, Int.reduceSub, Int.reduceMul, Int.reduceNeg, Int.reduceToNat, Int.reducePow, String.reduceEq, String.reduceBEq, String.reduceBNe, Int.reduceFMod, Int.reduceFDiv, Int.reduceNegSucc, Int.reduceAbs, lenI]
    refine atK_get (d := .int (lenI (row gs i))) (by simpa using hlen) (by omega) ?_
    simp (maxSteps := 4000000) (implicitDefEqProofs := false) only [RB, r_popAt, entry, entryL, outs, slotL, knownTy, isB, D.tyn, D.isNon, D.flat, D.feq, D.scalar, decide_true, decide_false, reduceIte, reduceCtorEq, Nat.reduceAdd, Nat.reduceSub, Nat.reduceMul, Nat.reduceLeDiff, Nat.reduceEqDiff, Nat.reducePow, Nat.reduceLT, Int.reduceLE, Int.reduceLT, Int.reduceNe, Int.reduceEq, Int.reduceAdd, Int.reduceSub, Int.reduceMul, Int.reduceNeg, Int.reduceToNat, Int.reducePow, String.reduceEq, String.reduceBEq, String.reduceBNe, Int.reduceFMod, Int.reduceFDiv, Int.reduceNegSucc, Int.reduceAbs, lenI]
    refine ⟨⟨by omega, by omega, by omega, by omega⟩, ?_⟩
    have en : ((((row gs i).length : Int) - dlt dr i) - ((row gs i).length : Int)).toNat = entSz dr i := by unfold entSz; omega
    refine forD_ix' (I := fun a e => a ≤ entSz dr i ∧ ∃ o4 o5, e = [some (orbO CM CO dr gs (osR dr gs (flt (entSz dr) (entG gs) i a))), some (.fr (mapD CM dr gs)), some (.fr (.int i)), some (.fr (.int (dlt dr i))), o4, o5]) ⟨Nat.zero_le _, _, _, rfl⟩ ?_ ?_
    · rintro a d env hd ⟨ha, o4, o5, rfl⟩ N' hN'
      obtain ⟨ha2, rfl⟩ := rngD_get hd
      rw [en] at ha2
      have hE : Ent dr gs (entG gs i a) := by
        refine ⟨⟨by show (0 : Int) ≤ i; omega, by show (i : Int) < _; omega, by show (0 : Int) ≤ _ + (a : Int); omega⟩, ?_, ?_⟩
        · show (((row gs (i : Int).toNat).length : Nat) : Int) ≤ ((row gs i).length : Int) + (a : Int)
          rw [Int.toNat_natCast]; omega
        · show ((row gs i).length : Int) + (a : Int) < (((row gs (i : Int).toNat).length : Nat) : Int) - dlt dr (i : Int).toNat
          rw [Int.toNat_natCast]; unfold entSz at ha2; omega
      have hall : ∀ e ∈ flt (entSz dr) (entG gs) i a, Ent dr gs e := fun e he => by
        have : e ∈ ents dr gs := by
          unfold ents flt at *
          refine List.mem_append_left _ ?_
          rcases List.mem_append.mp he with z | z
          · obtain ⟨j, hj, hz⟩ := List.mem_flatMap.mp z
            exact List.mem_flatMap.mpr ⟨j, List.mem_range.mpr (by have := List.mem_range.mp hj; omega), hz⟩
          · obtain ⟨b, hb, hz⟩ := List.mem_map.mp z
            exact List.mem_flatMap.mpr ⟨i, List.mem_range.mpr (by omega), List.mem_map.mpr ⟨b, List.mem_range.mpr (by have := List.mem_range.mp hb; omega), hz⟩⟩
        exact (mem_ents hB).mp this
      have hR := roadsOk hB _ _ rfl hall
      have hrd := road_len hB hE
      have hfl := flt_len (sz := entSz dr) (g := entG gs) (i := i) (a := a)
      have hsz2 := hR.size
      have hlk := hR.len
      have hrc : (osR dr gs (flt (entSz dr) (entG gs) i a)).roads.length = (flt (entSz dr) (entG gs) i a).length := by rw [hR.roads, List.length_map]
      have est := osR_s (dr := dr) (gs := gs) (flt (entSz dr) (entG gs) i a) (entG gs i a)
      rw [← flt_step] at est
      have eG : D.tup [D.int (i : Int), D.int (((row gs i).length : Int) + (a : Int))] = plD (entG gs i a) := rfl
      generalize osR dr gs (flt (entSz dr) (entG gs) i a) = st at *
      simp (maxSteps := 4000000) (implicitDefEqProofs := false) only [RB, r_popAt, entry, entryL, outs, slotL, knownTy, isB, D.tyn, D.isNon, D.flat, D.feq, D.scalar, decide_true, decide_false, reduceIte, reduceCtorEq, Nat.reduceAdd, Nat.reduceSub, Nat.reduceMul, Nat.reduceLeDiff, Nat.reduceEqDiff, Nat.reducePow, Nat.reduceLT, Int.reduceLE, Int.reduceLT, Int.reduceNe, Int.reduceEq, Int.reduceAdd, Int.reduceSub, Int.reduceMul, Int.reduceNeg, Int.reduceToNat, Int.reducePow, String.reduceEq, String.reduceBEq, String.reduceBNe, Int.reduceFMod, Int.reduceFDiv, Int.reduceNegSucc, Int.reduceAbs, t_Orbits_init_b1, orbO, OS.toL, orbL, rwsL, eG]
      refine ⟨dr, gs, entG gs i a, hB, hE, rfl, fun _ _ => ?_⟩
      simp (maxSteps := 4000000) (implicitDefEqProofs := false) only [RB, r_popAt, entry, entryL, outs, slotL, knownTy, isB, D.tyn, D.isNon, D.flat, D.feq, D.scalar, decide_true, decide_false, reduceIte, reduceCtorEq, Nat.reduceAdd, Nat.reduceSub, Nat.reduceMul, Nat.reduceLeDiff, Nat.reduceEqDiff, Nat.reducePow, Nat.reduceLT, Int.reduceLE, Int.reduceLT, Int.reduceNe, Int.reduceEq, Int.reduceAdd, Int.reduceSub, Int.reduceMul, Int.reduceNeg, Int.reduceToNat, Int.reducePow, String.reduceEq, String.reduceBEq, String.reduceBNe, Int.reduceFMod, Int.reduceFDiv, Int.reduceNegSucc, Int.reduceAbs, rowB_toD]
      intro a0
      refine ⟨mapD CM dr gs, drD dr, .box .lst (lensD gs), .fr (.ref a0), rwsL st.rings, rowB st.fixs, st.kv, Str.ofString "road", (st.roads.map rowL).map L.fr, road dr gs (entG gs i a), rfl, hlk, by omega, by simp; omega, fun l1 l2 => ?_⟩
      simp (maxSteps := 4000000) (implicitDefEqProofs := false) only [RB, r_popAt, entry, entryL, outs, slotL, knownTy, isB, D.tyn, D.isNon, D.flat, D.feq, D.scalar, decide_true, decide_false, reduceIte, reduceCtorEq, Nat.reduceAdd, Nat.reduceSub, Nat.reduceMul, Nat.reduceLeDiff, Nat.reduceEqDiff, Nat.reducePow, Nat.reduceLT, Int.reduceLE, Int.reduceLT, Int.reduceNe, Int.reduceEq, Int.reduceAdd, Int.reduceSub, Int.reduceMul, Int.reduceNeg, Int.reduceToNat, Int.reducePow, String.reduceEq, String.reduceBEq, String.reduceBNe, Int.reduceFMod, Int.reduceFDiv, Int.reduceNegSucc, Int.reduceAbs, orbL]
      refine ⟨by simp [fldL, r_ofStr], ?_⟩
      refine hN' _ ⟨ha2, some (.fr (.int (((row gs i).length : Int) + (a : Int)))), o5, ?_⟩
      rw [est]
      have ew : rwsL (st.roads ++ [road dr gs (entG gs i a)]) = .box .lst ((st.roads.map rowL).map L.fr ++ [.fr (rowL (road dr gs (entG gs i a)))]) := by simp [rwsL]
      unfold seatR orbO OS.toL
      rw [ew]
      rfl
    · rintro e ⟨ha, o4, o5, rfl⟩
      rw [rngD_len, en, flt_next]
      exact hN _ ⟨_, _, _, _, rfl⟩
  · rintro e ⟨o2, o3, o4, o5, rfl⟩
    have elen : (pairsE 0 (dr.map D.int)).length = gs.length := by rw [pairsE_len, List.length_map, hl]
    have eR : osR dr gs (flt (entSz dr) (entG gs) gs.length 0) = osC dr gs (flt (innSz gs) innG 0 0) := by rw [flt_0]; rfl
    rw [elen, eR]
    simp (maxSteps := 4000000) (implicitDefEqProofs := false) only [RB, r_popAt, entry, entryL, outs, slotL, knownTy, isB, D.tyn, D.isNon, D.flat, D.feq, D.scalar, decide_true, decide_false, reduceIte, reduceCtorEq, Nat.reduceAdd, Nat.reduceSub, Nat.reduceMul, Nat.reduceLeDiff, Nat.reduceEqDiff, Nat.reducePow, Nat.reduceLT, Int.reduceLE, Int.reduceLT, Int.reduceNe, Int.reduceEq, Int.reduceAdd, Int.reduceSub, Int.reduceMul, Int.reduceNeg, Int.reduceToNat, Int.reducePow, String.reduceEq, String.reduceBEq, String.reduceBNe, Int.reduceFMod, Int.reduceFDiv, Int.reduceNegSucc, Int.reduceAbs, orbO, OS.toL, orbL]
    refine forD_ix' (I := fun i e => ∃ o2 o3 o4 o5, e = [some (orbO CM CO dr gs (osC dr gs (flt (innSz gs) innG i 0))), some (.fr (mapD CM dr gs)), o2, o3, o4, o5]) ⟨_, _, _, _, rfl⟩ ?_ ?_
    · rintro i d env hd ⟨o2, o3, o4, o5, rfl⟩ N hN
      obtain ⟨hi, rfl⟩ := pe_lens hd
      have hrl := hB.row_le i
      have hsum := hB.tot
      rw [map_len_range] at hsum
      have hst := sum_lt (sz := innSz gs) (i := i) (n := gs.length) hi
      simp (maxSteps := 4000000) (implicitDefEqProofs := false) only [RB, r_popAt, entry, entryL, outs, slotL, knownTy, isB, D.tyn, D.isNon, D.flat, D.feq, D.scalar, decide_true, decide_false, reduceIte, reduceCtorEq, Nat.reduceAdd, Nat.reduceSub, Nat.reduceMul, Nat.reduceLeDiff, Nat.reduceEqDiff, Nat.reducePow, Nat.reduceLT, Int.reduceLE, Int.reduceLT, Int.reduceNe, Int.reduceEq, Int.reduceAdd, Int.reduceSub, Int.reduceMul, Int.reduceNeg, Int.reduceToNat, Int.reducePow, String.reduceEq, String.reduceBEq, String.reduceBNe, Int.reduceFMod, Int.reduceFDiv, Int.reduceNegSucc, Int.reduceAbs, t_Orbits_init_b4, lenI]
      refine ⟨by omega, ?_⟩
      refine forD_ix' (I := fun a e => a ≤ innSz gs i ∧ ∃ o4, e = [some (orbO CM CO dr gs (osC dr gs (flt (innSz gs) innG i a))), some (.fr (mapD CM dr gs)), some (.fr (.int i)), o3, o4, some (.fr (.int (row gs i).length))]) ⟨Nat.zero_le _, _, rfl⟩ ?_ ?_
      · rintro a d env hd ⟨ha, o4, rfl⟩ N' hN'
        obtain ⟨ha2, rfl⟩ := rngD_get hd
        have ha3 : a < innSz gs i := by unfold innSz; simpa using ha2
        have hI : Inn gs (innG i a) := ⟨⟨by show (0 : Int) ≤ i; omega, by show (i : Int) < _; omega⟩, by show (0 : Int) ≤ a; omega, by show (a : Int) < (((row gs (i : Int).toNat).length : Nat) : Int); rw [Int.toNat_natCast]; unfold innSz at ha3; omega⟩
        have hall : ∀ e ∈ flt (innSz gs) innG i a, Inn gs e := fun e he => by
          obtain ⟨j, b, hjb, rfl⟩ := mem_flt he
          have hj : j < gs.length := by omega
          have hb : b < innSz gs j := by
            rcases hjb with z | ⟨rfl, z⟩
            · exact z.2
            · omega
          exact ⟨⟨by show (0 : Int) ≤ j; omega, by show (j : Int) < _; omega⟩, by show (0 : Int) ≤ b; omega, by show (b : Int) < (((row gs (j : Int).toNat).length : Nat) : Int); rw [Int.toNat_natCast]; unfold innSz at hb; omega⟩
        have hR := relOk hB hs _ _ rfl hall
        have hfl := flt_len (sz := innSz gs) (g := innG) (i := i) (a := a)
        have hsz2 := hR.size
        have hlk := hR.len
        have hkn := hR.known
        have hbs := hR.base
        have hri := congrArg List.length hR.rings
        have hfx := congrArg List.length hR.fixs
        rw [List.length_map] at hfx
        have hf1 := List.length_filter_le (fun c : List Pl => decide (1 < c.length)) (scn dr gs (flt (innSz gs) innG i a)).1
        have hf2 := List.length_filter_le (fun c : List Pl => decide (c.length = 1)) (scn dr gs (flt (innSz gs) innG i a)).1
        have hsub := hR.sub.length_le
        rw [List.length_map] at hsub
        have est := osC_s (dr := dr) (gs := gs) (flt (innSz gs) innG i a) (innG i a)
        rw [← flt_step] at est
        have eG : D.tup [D.int (i : Int), D.int (0 + (a : Int))] = plD (innG i a) := by rw [Int.zero_add]; rfl
        have hh : ((List.range i).map (innSz gs)).sum + a ≤ 2000 := by unfold innSz at *; omega
        generalize hst' : osC dr gs (flt (innSz gs) innG i a) = st at *
        simp (maxSteps := 4000000) (implicitDefEqProofs := false) only [RB, r_popAt, entry, entryL, outs, slotL, knownTy, isB, D.tyn, D.isNon, D.flat, D.feq, D.scalar, decide_true, decide_false, reduceIte, reduceCtorEq, Nat.reduceAdd, Nat.reduceSub, Nat.reduceMul, Nat.reduceLeDiff, Nat.reduceEqDiff, Nat.reducePow, Nat.reduceLT, Int.reduceLE, Int.reduceLT, Int.reduceNe, Int.reduceEq, Int.reduceAdd, Int.reduceSub, Int.reduceMul, Int.reduceNeg, Int.reduceToNat, Int.reducePow, String.reduceEq, String.reduceBEq, String.reduceBNe, Int.reduceFMod, Int.reduceFDiv, Int.reduceNegSucc, Int.reduceAbs, t_Orbits_init_b3, orbO, OS.toL, orbL, rwsL, eG, nfPl, fdAt_ne]
        have go : ∀ st', osC dr gs (flt (innSz gs) innG i (a + 1)) = st' → N' [some (orbO CM CO dr gs st'), some (.fr (mapD CM dr gs)), some (.fr (.int i)), o3, some (.fr (.int (0 + (a : Int)))), some (.fr (.int (row gs i).length))] := fun st' e' =>
          hN' _ ⟨ha3, some (.fr (.int (0 + (a : Int)))), by rw [e']⟩
        by_cases hk : knownK st.kv (innG i a) = true
        · rw [if_neg (by unfold knownK at hk; rw [hk]; simp)]
          have e' := est
          unfold stepC at e'
          rw [if_pos hk] at e'
          exact go _ e'
        · have hk2 : (lookK st.kv.1 st.kv.2 (pk (innG i a))).isSome = false := by unfold knownK at hk; simpa using hk
          rw [if_pos hk2]
          have hc : CycAt dr gs (innG i a) := ⟨hI, fun z => hk ((hkn _).mpr (hbs _ z))⟩
          obtain ⟨c1, c2, c3⟩ := hd_cyc hB hs hc
          refine ⟨dr, gs, innG i a, hB, hs, hc, rfl, fun _ _ => ?_⟩
          simp (maxSteps := 4000000) (implicitDefEqProofs := false) only [RB, r_popAt, entry, entryL, outs, slotL, knownTy, isB, D.tyn, D.isNon, D.flat, D.feq, D.scalar, decide_true, decide_false, reduceIte, reduceCtorEq, Nat.reduceAdd, Nat.reduceSub, Nat.reduceMul, Nat.reduceLeDiff, Nat.reduceEqDiff, Nat.reducePow, Nat.reduceLT, Int.reduceLE, Int.reduceLT, Int.reduceNe, Int.reduceEq, Int.reduceAdd, Int.reduceSub, Int.reduceMul, Int.reduceNeg, Int.reduceToNat, Int.reducePow, String.reduceEq, String.reduceBEq, String.reduceBNe, Int.reduceFMod, Int.reduceFDiv, Int.reduceNegSucc, Int.reduceAbs, rowB_toD]
          refine ⟨mapD CM dr gs, drD dr, .box .lst (lensD gs), st, cyc dr gs (innG i a), rfl, c2, hlk, by omega, by omega, by omega, fun l1 => ?_⟩
          simp (maxSteps := 4000000) (implicitDefEqProofs := false) only [RB, r_popAt, entry, entryL, outs, slotL, knownTy, isB, D.tyn, D.isNon, D.flat, D.feq, D.scalar, decide_true, decide_false, reduceIte, reduceCtorEq, Nat.reduceAdd, Nat.reduceSub, Nat.reduceMul, Nat.reduceLeDiff, Nat.reduceEqDiff, Nat.reducePow, Nat.reduceLT, Int.reduceLE, Int.reduceLT, Int.reduceNe, Int.reduceEq, Int.reduceAdd, Int.reduceSub, Int.reduceMul, Int.reduceNeg, Int.reduceToNat, Int.reducePow, String.reduceEq, String.reduceBEq, String.reduceBNe, Int.reduceFMod, Int.reduceFDiv, Int.reduceNegSucc, Int.reduceAbs]
          have e' := est
          unfold stepC at e'
          rw [if_neg hk] at e'
          exact go _ e'
      · rintro e ⟨ha, o4, rfl⟩
        rw [rngD_len]
        have en : ((row gs i).length : Int).toNat = innSz gs i := by unfold innSz; omega
        rw [en, flt_next]
        exact hN _ ⟨_, _, _, _, rfl⟩
    · rintro e ⟨o2, o3, o4, o5, rfl⟩
      have elen : (pairsE 0 (lensD gs)).length = gs.length := by rw [pairsE_len]; simp [lensD]
      rw [elen, ← inns_flt]
      simp (maxSteps := 4000000) (implicitDefEqProofs := false) only [RB, r_popAt, entry, entryL, outs, slotL, knownTy, isB, D.tyn, D.isNon, D.flat, D.feq, D.scalar, decide_true, decide_false, reduceIte, reduceCtorEq, Nat.reduceAdd, Nat.reduceSub, Nat.reduceMul, Nat.reduceLeDiff, Nat.reduceEqDiff, Nat.reducePow, Nat.reduceLT, Int.reduceLE, Int.reduceLT, Int.reduceNe, Int.reduceEq, Int.reduceAdd, Int.reduceSub, Int.reduceMul, Int.reduceNeg, Int.reduceToNat, Int.reducePow, String.reduceEq, String.reduceBEq, String.reduceBNe, Int.reduceFMod, Int.reduceFDiv, Int.reduceNegSucc, Int.reduceAbs]
      exact h _
end FL

namespace FL
open PySem PySem.Spec PyProof.Rows L2 TL
/-! ### lists of orbits -/
def rwsB (rs : List (List Pl)) : L := .box .lst (rs.map rowB)
def cCycles (CM : Addr) : Con := fun args k _ => ∃ dr gs, args = [.fr (mapD CM dr gs)] ∧ Bij dr gs ∧ dr.sum = 0 ∧ ∀ l, k (rwsB (orbs dr gs).rings) [l]
def cFixed (CM : Addr) : Con := fun args k _ => ∃ dr gs, args = [.fr (mapD CM dr gs)] ∧ Bij dr gs ∧ dr.sum = 0 ∧ ∀ l, k (rowB (orbs dr gs).fixs) [l]
theorem orbs_rel {dr : List Int} {gs : List (List Pl)} (hB : Bij dr gs) (hs : dr.sum = 0) : Rel dr gs (inns gs) := relOk hB hs _ _ rfl fun e he => mem_inns.mp he
theorem rest_le {dr : List Int} {gs : List (List Pl)} (hB : Bij dr gs) (hs : dr.sum = 0) : (scn dr gs (inns gs)).1.length ≤ 2000 := by
  have h1 := (orbs_rel hB hs).sub.length_le
  rw [List.length_map, inns_len] at h1
  have := hB.tot
  omega
theorem rings_le {dr : List Int} {gs : List (List Pl)} (hB : Bij dr gs) (hs : dr.sum = 0) : (orbs dr gs).rings.length ≤ 2000 := by
  have h1 := (orbs_rel hB hs).rings
  have h2 := rest_le hB hs
  have h3 := List.length_filter_le (fun c : List Pl => decide (1 < c.length)) (scn dr gs (inns gs)).1
  show (osC dr gs (inns gs)).rings.length ≤ _
  rw [h1]; omega
theorem fixs_le {dr : List Int} {gs : List (List Pl)} (hB : Bij dr gs) (hs : dr.sum = 0) : (orbs dr gs).fixs.length ≤ 2000 := by
  have h1 := (orbs_rel hB hs).fixs
  have h2 := rest_le hB hs
  have h3 := List.length_filter_le (fun c : List Pl => decide (c.length = 1)) (scn dr gs (inns gs)).1
  show (osC dr gs (inns gs)).fixs.length ≤ _
  rw [h1, List.length_map]; omega
def cIdentity (C : Addr) : Con := fun args k _ => ∃ n : Nat, args = [.fr (.int n)] ∧ 1 ≤ n ∧ n ≤ 6 ∧ ∀ l, k (mapL C (zeros n) (nones n)) [l]
theorem v_identity (C : Addr) : ∀ ls kk kx, cIdentity C ls kk kx → t_identity C cNeedLanes (cInit C) (endsOf [] ls kk) (entry [] 1 ls) := by
  rintro _ kk kx ⟨n, rfl, h1, h6, h⟩
  have ez : (List.replicate n [D.int 0]).flatten = (zeros n).map D.int := by simp [zeros]
  simp (maxSteps := 4000000) (implicitDefEqProofs := false) only [RB, r_popAt, entry, entryL, outs, slotL, knownTy, isB, D.tyn, D.isNon, D.flat, D.feq, D.scalar, decide_true, decide_false, reduceIte, reduceCtorEq, Nat.reduceAdd, Nat.reduceSub, Nat.reduceMul, Nat.reduceLeDiff, Nat.reduceEqDiff, Nat.reducePow, Nat.reduceLT, Int.reduceLE, Int.reduceLT, Int.reduceNe, Int.reduceEq, Int.reduceAdd, Int.reduceSub, Int.reduceMul, Int.reduceNeg, Int.reduceToNat, Int.reducePow, String.reduceEq, String.reduceBEq, String.reduceBNe, Int.reduceFMod, Int.reduceFDiv, Int.reduceNegSucc, Int.reduceAbs, t_identity, cNeedLanes]
  refine ⟨by omega, fun _ => ?_⟩
  refine ⟨⟨by omega, by omega, by rw [sizeLine_eq]; simp only [List.length_cons, List.length_nil]; omega⟩, ?_⟩
  rw [Int.toNat_natCast, ez]
  simp (maxSteps := 4000000) (implicitDefEqProofs := false) only [RB, r_popAt, entry, entryL, outs, slotL, knownTy, isB, D.tyn, D.isNon, D.flat, D.feq, D.scalar, decide_true, decide_false, reduceIte, reduceCtorEq, Nat.reduceAdd, Nat.reduceSub, Nat.reduceMul, Nat.reduceLeDiff, Nat.reduceEqDiff, Nat.reducePow, Nat.reduceLT, Int.reduceLE, Int.reduceLT, Int.reduceNe, Int.reduceEq, Int.reduceAdd, Int.reduceSub, Int.reduceMul, Int.reduceNeg, Int.reduceToNat, Int.reducePow, String.reduceEq, String.reduceBEq, String.reduceBNe, Int.reduceFMod, Int.reduceFDiv, Int.reduceNegSucc, Int.reduceAbs, toDs_fr]
  refine ⟨zeros n, nones n, .kt, bij_nones h1 h6, .inr (.inr ⟨rfl, by simp [zeros]⟩), rfl, fun _ _ => ?_⟩
  simp (maxSteps := 4000000) (implicitDefEqProofs := false) only [RB, r_popAt, entry, entryL, outs, slotL, knownTy, isB, D.tyn, D.isNon, D.flat, D.feq, D.scalar, decide_true, decide_false, reduceIte, reduceCtorEq, Nat.reduceAdd, Nat.reduceSub, Nat.reduceMul, Nat.reduceLeDiff, Nat.reduceEqDiff, Nat.reducePow, Nat.reduceLT, Int.reduceLE, Int.reduceLT, Int.reduceNe, Int.reduceEq, Int.reduceAdd, Int.reduceSub, Int.reduceMul, Int.reduceNeg, Int.reduceToNat, Int.reducePow, String.reduceEq, String.reduceBEq, String.reduceBNe, Int.reduceFMod, Int.reduceFDiv, Int.reduceNegSucc, Int.reduceAbs, least_nones]
  exact h _
def cOf : Con := fun args k _ => ∃ b ds, args = [b, .fr (.box .lst ds)] ∧ IsBag b ∧ 1 ≤ ds.length ∧ ds.length ≤ 1000 ∧ ∀ d b' l, d ∈ ds → IsBag b' → k (.fr d) [b', l]
theorem v_of : ∀ ls kk kx, cOf ls kk kx → t_law_of cPull (endsOf [0] ls kk) (entry [0] 2 ls) := by
  rintro _ kk kx ⟨b, ds, rfl, hb, h1, h2, h⟩
  simp (maxSteps := 4000000) (implicitDefEqProofs := false) only [RB, r_popAt, entry, entryL, outs, slotL, knownTy, isB, D.tyn, D.isNon, D.flat, D.feq, D.scalar, decide_true, decide_false, reduceIte, reduceCtorEq, Nat.reduceAdd, Nat.reduceSub, Nat.reduceMul, Nat.reduceLeDiff, Nat.reduceEqDiff, Nat.reducePow, Nat.reduceLT, Int.reduceLE, Int.reduceLT, Int.reduceNe, Int.reduceEq, Int.reduceAdd, Int.reduceSub, Int.reduceMul, Int.reduceNeg, Int.reduceToNat, Int.reducePow, String.reduceEq, String.reduceBEq, String.reduceBNe, Int.reduceFMod, Int.reduceFDiv, Int.reduceNegSucc, Int.reduceAbs, t_law_of, cPull]
  refine ⟨hb, ⟨by omega, by omega⟩, fun r b' _ hb' r0 r1 => ?_⟩
  have hr : r.toNat < ds.length := by omega
  refine atK_get (d := ds[r.toNat]) (List.getElem?_eq_getElem hr) r0 ?_
  simp (maxSteps := 4000000) (implicitDefEqProofs := false) only [RB, r_popAt, entry, entryL, outs, slotL, knownTy, isB, D.tyn, D.isNon, D.flat, D.feq, D.scalar, decide_true, decide_false, reduceIte, reduceCtorEq, Nat.reduceAdd, Nat.reduceSub, Nat.reduceMul, Nat.reduceLeDiff, Nat.reduceEqDiff, Nat.reducePow, Nat.reduceLT, Int.reduceLE, Int.reduceLT, Int.reduceNe, Int.reduceEq, Int.reduceAdd, Int.reduceSub, Int.reduceMul, Int.reduceNeg, Int.reduceToNat, Int.reducePow, String.reduceEq, String.reduceBEq, String.reduceBNe, Int.reduceFMod, Int.reduceFDiv, Int.reduceNegSucc, Int.reduceAbs]
  exact h _ _ _ (List.getElem_mem hr) hb'
/-! ### the law's own orbits -/
def tabT (dr : List Int) (gs : List (List Pl)) : D := .tup [drD dr, gsL gs]
def cLGoal : Con := fun args k _ => ∃ dr gs p, args = [.fr (tabT dr gs), .fr (plD p)] ∧ gs.length = dr.length ∧ IsPl dr.length p ∧ ∀ l m, k (.fr (plD (goalOf dr gs p))) [l, m]
theorem v_lgoal : ∀ ls kk kx, cLGoal ls kk kx → t_law_goal (endsOf [] ls kk) (entry [] 5 ls) := by
  rintro _ kk kx ⟨dr, gs, p, rfl, hl, ⟨p0, p1, p2⟩, h⟩
  have hin : p.1.toNat < dr.length := by omega
  simp (maxSteps := 4000000) (implicitDefEqProofs := false) only [RB, r_popAt, entry, entryL, outs, slotL, knownTy, isB, D.tyn, D.isNon, D.flat, D.feq, D.scalar, decide_true, decide_false, reduceIte, reduceCtorEq, Nat.reduceAdd, Nat.reduceSub, Nat.reduceMul, Nat.reduceLeDiff, Nat.reduceEqDiff, Nat.reducePow, Nat.reduceLT, Int.reduceLE, Int.reduceLT, Int.reduceNe, Int.reduceEq, Int.reduceAdd, Int.reduceSub, Int.reduceMul, Int.reduceNeg, Int.reduceToNat, Int.reducePow, String.reduceEq, String.reduceBEq, String.reduceBNe, Int.reduceFMod, Int.reduceFDiv, Int.reduceNegSucc, Int.reduceAbs, t_law_goal, tabT, gPl]
  refine atK_get (d := rowL (row gs p.1.toNat)) (by simpa using gs_at (by omega)) p0 ?_
  simp (maxSteps := 4000000) (implicitDefEqProofs := false) only [RB, r_popAt, entry, entryL, outs, slotL, knownTy, isB, D.tyn, D.isNon, D.flat, D.feq, D.scalar, decide_true, decide_false, reduceIte, reduceCtorEq, Nat.reduceAdd, Nat.reduceSub, Nat.reduceMul, Nat.reduceLeDiff, Nat.reduceEqDiff, Nat.reducePow, Nat.reduceLT, Int.reduceLE, Int.reduceLT, Int.reduceNe, Int.reduceEq, Int.reduceAdd, Int.reduceSub, Int.reduceMul, Int.reduceNeg, Int.reduceToNat, Int.reducePow, String.reduceEq, String.reduceBEq, String.reduceBNe, Int.reduceFMod, Int.reduceFDiv, Int.reduceNegSucc, Int.reduceAbs, rowL]
  split
  · rename_i hlt
    have hlt' : p.2.toNat < (row gs p.1.toNat).length := by omega
    refine atK_get (d := plD ((row gs p.1.toNat)[p.2.toNat])) (by simp [hlt']) p2 ?_
    simp (maxSteps := 4000000) (implicitDefEqProofs := false) only [RB, r_popAt, entry, entryL, outs, slotL, knownTy, isB, D.tyn, D.isNon, D.flat, D.feq, D.scalar, decide_true, decide_false, reduceIte, reduceCtorEq, Nat.reduceAdd, Nat.reduceSub, Nat.reduceMul, Nat.reduceLeDiff, Nat.reduceEqDiff, Nat.reducePow, Nat.reduceLT, Int.reduceLE, Int.reduceLT, Int.reduceNe, Int.reduceEq, Int.reduceAdd, Int.reduceSub, Int.reduceMul, Int.reduceNeg, Int.reduceToNat, Int.reducePow, String.reduceEq, String.reduceBEq, String.reduceBNe, Int.reduceFMod, Int.reduceFDiv, Int.reduceNegSucc, Int.reduceAbs]
    have e : goalOf dr gs p = (row gs p.1.toNat)[p.2.toNat] := by unfold goalOf; simp [hlt']
    rw [← e]
    exact h _ _
  · rename_i hge
    refine atK_get (d := .int (dlt dr p.1.toNat)) (by simpa using dlt_at hin) p0 ?_
    simp (maxSteps := 4000000) (implicitDefEqProofs := false) only [RB, r_popAt, entry, entryL, outs, slotL, knownTy, isB, D.tyn, D.isNon, D.flat, D.feq, D.scalar, decide_true, decide_false, reduceIte, reduceCtorEq, Nat.reduceAdd, Nat.reduceSub, Nat.reduceMul, Nat.reduceLeDiff, Nat.reduceEqDiff, Nat.reducePow, Nat.reduceLT, Int.reduceLE, Int.reduceLT, Int.reduceNe, Int.reduceEq, Int.reduceAdd, Int.reduceSub, Int.reduceMul, Int.reduceNeg, Int.reduceToNat, Int.reducePow, String.reduceEq, String.reduceBEq, String.reduceBNe, Int.reduceFMod, Int.reduceFDiv, Int.reduceNegSucc, Int.reduceAbs]
    have f := h (.fr (tabT dr gs)) (.fr (plD p))
    rw [goal_far (by omega)] at f
    exact f
def cLRoad : Con := fun args k _ => ∃ dr gs e, args = [.fr (tabT dr gs), .fr (plD e)] ∧ Bij dr gs ∧ Ent dr gs e ∧ ∀ l m, k (rowB (road dr gs e)) [l, m]
theorem v_lroad : ∀ ls kk kx, cLRoad ls kk kx → t_law_road cLGoal (endsOf [] ls kk) (entry [] 3 ls) := by
  rintro _ kk kx ⟨dr, gs, e, rfl, hB, he, h⟩
  have hl := hB.len
  obtain ⟨r1, r2, r3, r4⟩ := he.roadN hB
  have hpl := he.1
  simp (maxSteps := 4000000) (implicitDefEqProofs := false) only [RB, r_popAt, entry, entryL, outs, slotL, knownTy, isB, D.tyn, D.isNon, D.flat, D.feq, D.scalar, decide_true, decide_false, reduceIte, reduceCtorEq, Nat.reduceAdd, Nat.reduceSub, Nat.reduceMul, Nat.reduceLeDiff, Nat.reduceEqDiff, Nat.reducePow, Nat.reduceLT, Int.reduceLE, Int.reduceLT, Int.reduceNe, Int.reduceEq, Int.reduceAdd, Int.reduceSub, Int.reduceMul, Int.reduceNeg, Int.reduceToNat, Int.reducePow, String.reduceEq, String.reduceBEq, String.reduceBNe, Int.reduceFMod, Int.reduceFDiv, Int.reduceNegSucc, Int.reduceAbs, t_law_road]
  refine while_ix' (m := roadN dr gs e + 1) (I := fun m e' => ∃ n, n + m = roadN dr gs e + 1 ∧ 1 ≤ m ∧ e' = [some (.fr (tabT dr gs)), some (.fr (plD e)), some (rowB (walkP dr gs e (n + 1)))]) ⟨0, by omega, by omega, rfl⟩ ?_
  rintro m e' ⟨n, hnm, hm, rfl⟩ N hN
  have hq := hB.it_pl hpl n
  obtain ⟨q0, q1, q2⟩ := hq
  have hin : (it dr gs n e).1.toNat < dr.length := by omega
  have hwl := walkP_len (dr := dr) (gs := gs) e n
  have ho : 1 ≤ n → (outB dr gs (it dr gs n e) = true ↔ n = roadN dr gs e) := by
    intro hn
    constructor
    · intro o
      apply Classical.byContradiction
      intro hne
      exact out_not_inn o (r4 n hn (by omega))
    · intro o; rw [o]; exact r3
  have ew : rowB (walkP dr gs e (n + 1 + 1)) = .box .lst (((walkP dr gs e n).map plD).map L.fr ++ [.fr (plD (it dr gs n e))] ++ [.fr (plD (goalOf dr gs (it dr gs n e)))]) := by
    rw [walkP_s e (n + 1), rowB_s, walkP_s e n, List.map_append, List.map_append]; rfl
  have go : ¬ (1 ≤ n ∧ n = roadN dr gs e) → N [some (.fr (tabT dr gs)), some (.fr (plD e)), some (rowB (walkP dr gs e (n + 1 + 1)))] := fun hne => hN (m - 1) _ (by omega) ⟨n + 1, by omega, by omega, rfl⟩
  have hX : ((walkP dr gs e n).map plD).map L.fr ++ [L.fr (plD (it dr gs n e))] = ((walkP dr gs e (n + 1)).map plD).map L.fr := by rw [walkP_s]; simp
  have hlX : (L.toDs (((walkP dr gs e n).map plD).map L.fr ++ [L.fr (plD (it dr gs n e))])).length = n + 1 := by rw [toDs_length]; simp [hwl]
  rw [walkP_s, rowB_s]
  have body : ¬ (1 ≤ n ∧ n = roadN dr gs e) → ∀ rt bk, t_law_road_b1 cLGoal ⟨N, rt, bk, N⟩ [some (.fr (tabT dr gs)), some (.fr (plD e)), some (.box .lst (((walkP dr gs e n).map plD).map L.fr ++ [L.fr (plD (it dr gs n e))]))] := fun hne rt bk => by
    simp (maxSteps := 4000000) (implicitDefEqProofs := false) only [RB, r_popAt, entry, entryL, outs, slotL, knownTy, isB, D.tyn, D.isNon, D.flat, D.feq, D.scalar, decide_true, decide_false, reduceIte, reduceCtorEq, Nat.reduceAdd, Nat.reduceSub, Nat.reduceMul, Nat.reduceLeDiff, Nat.reduceEqDiff, Nat.reducePow, Nat.reduceLT, Int.reduceLE, Int.reduceLT, Int.reduceNe, Int.reduceEq, Int.reduceAdd, Int.reduceSub, Int.reduceMul, Int.reduceNeg, Int.reduceToNat, Int.reducePow, String.reduceEq, String.reduceBEq, String.reduceBNe, Int.reduceFMod, Int.reduceFDiv, Int.reduceNegSucc, Int.reduceAbs, t_law_road_b1]
    refine atF_last ?_
    simp (maxSteps := 4000000) (implicitDefEqProofs := false) only [RB, r_popAt, entry, entryL, outs, slotL, knownTy, isB, D.tyn, D.isNon, D.flat, D.feq, D.scalar, decide_true, decide_false, reduceIte, reduceCtorEq, Nat.reduceAdd, Nat.reduceSub, Nat.reduceMul, Nat.reduceLeDiff, Nat.reduceEqDiff, Nat.reducePow, Nat.reduceLT, Int.reduceLE, Int.reduceLT, Int.reduceNe, Int.reduceEq, Int.reduceAdd, Int.reduceSub, Int.reduceMul, Int.reduceNeg, Int.reduceToNat, Int.reducePow, String.reduceEq, String.reduceBEq, String.reduceBNe, Int.reduceFMod, Int.reduceFDiv, Int.reduceNegSucc, Int.reduceAbs]
    refine ⟨dr, gs, _, rfl, hl, hB.it_pl hpl n, fun _ _ => ?_⟩
    simp (maxSteps := 4000000) (implicitDefEqProofs := false) only [RB, r_popAt, entry, entryL, outs, slotL, knownTy, isB, D.tyn, D.isNon, D.flat, D.feq, D.scalar, decide_true, decide_false, reduceIte, reduceCtorEq, Nat.reduceAdd, Nat.reduceSub, Nat.reduceMul, Nat.reduceLeDiff, Nat.reduceEqDiff, Nat.reducePow, Nat.reduceLT, Int.reduceLE, Int.reduceLT, Int.reduceNe, Int.reduceEq, Int.reduceAdd, Int.reduceSub, Int.reduceMul, Int.reduceNeg, Int.reduceToNat, Int.reducePow, String.reduceEq, String.reduceBEq, String.reduceBNe, Int.reduceFMod, Int.reduceFDiv, Int.reduceNegSucc, Int.reduceAbs, hwl]
    refine ⟨by omega, ?_⟩
    have f := go hne
    rw [ew] at f
    exact f
  generalize hq : it dr gs n e = q at *
  simp (maxSteps := 4000000) (implicitDefEqProofs := false) only [RB, r_popAt, entry, entryL, outs, slotL, knownTy, isB, D.tyn, D.isNon, D.flat, D.feq, D.scalar, decide_true, decide_false, reduceIte, reduceCtorEq, Nat.reduceAdd, Nat.reduceSub, Nat.reduceMul, Nat.reduceLeDiff, Nat.reduceEqDiff, Nat.reducePow, Nat.reduceLT, Int.reduceLE, Int.reduceLT, Int.reduceNe, Int.reduceEq, Int.reduceAdd, Int.reduceSub, Int.reduceMul, Int.reduceNeg, Int.reduceToNat, Int.reducePow, String.reduceEq, String.reduceBEq, String.reduceBNe, Int.reduceFMod, Int.reduceFDiv, Int.reduceNegSucc, Int.reduceAbs, tabT, hlX]
  by_cases hn : 1 ≤ n
  · rw [if_neg (by omega)]
    refine atF_last ?_
    simp (maxSteps := 4000000) (implicitDefEqProofs := false) only [RB, r_popAt, entry, entryL, outs, slotL, knownTy, isB, D.tyn, D.isNon, D.flat, D.feq, D.scalar, decide_true, decide_false, reduceIte, reduceCtorEq, Nat.reduceAdd, Nat.reduceSub, Nat.reduceMul, Nat.reduceLeDiff, Nat.reduceEqDiff, Nat.reducePow, Nat.reduceLT, Int.reduceLE, Int.reduceLT, Int.reduceNe, Int.reduceEq, Int.reduceAdd, Int.reduceSub, Int.reduceMul, Int.reduceNeg, Int.reduceToNat, Int.reducePow, String.reduceEq, String.reduceBEq, String.reduceBNe, Int.reduceFMod, Int.reduceFDiv, Int.reduceNegSucc, Int.reduceAbs, plD]
    refine atK_get (d := .int (dlt dr q.1.toNat)) (by simpa using dlt_at hin) q0 ?_
    simp (maxSteps := 4000000) (implicitDefEqProofs := false) only [RB, r_popAt, entry, entryL, outs, slotL, knownTy, isB, D.tyn, D.isNon, D.flat, D.feq, D.scalar, decide_true, decide_false, reduceIte, reduceCtorEq, Nat.reduceAdd, Nat.reduceSub, Nat.reduceMul, Nat.reduceLeDiff, Nat.reduceEqDiff, Nat.reducePow, Nat.reduceLT, Int.reduceLE, Int.reduceLT, Int.reduceNe, Int.reduceEq, Int.reduceAdd, Int.reduceSub, Int.reduceMul, Int.reduceNeg, Int.reduceToNat, Int.reducePow, String.reduceEq, String.reduceBEq, String.reduceBNe, Int.reduceFMod, Int.reduceFDiv, Int.reduceNegSucc, Int.reduceAbs]
    by_cases hd : dlt dr q.1.toNat ≤ 0
    · simp (maxSteps := 4000000) (implicitDefEqProofs := false) only [RB, r_popAt, entry, entryL, outs, slotL, knownTy, isB, D.tyn, D.isNon, D.flat, D.feq, D.scalar, decide_true, decide_false, reduceIte, reduceCtorEq, Nat.reduceAdd, Nat.reduceSub, Nat.reduceMul, Nat.reduceLeDiff, Nat.reduceEqDiff, Nat.reducePow, Nat.reduceLT, Int.reduceLE, Int.reduceLT, Int.reduceNe, Int.reduceEq, Int.reduceAdd, Int.reduceSub, Int.reduceMul, Int.reduceNeg, Int.reduceToNat, Int.reducePow, String.reduceEq, String.reduceBEq, String.reduceBNe, Int.reduceFMod, Int.reduceFDiv, Int.reduceNegSucc, Int.reduceAbs, hd]
      refine body (fun hh => ?_) _ _
      have := (ho hn).mpr hh.2
      unfold outB at this
      rw [decide_eq_false (by omega), Bool.false_and] at this
      cases this
    · simp (maxSteps := 4000000) (implicitDefEqProofs := false) only [RB, r_popAt, entry, entryL, outs, slotL, knownTy, isB, D.tyn, D.isNon, D.flat, D.feq, D.scalar, decide_true, decide_false, reduceIte, reduceCtorEq, Nat.reduceAdd, Nat.reduceSub, Nat.reduceMul, Nat.reduceLeDiff, Nat.reduceEqDiff, Nat.reducePow, Nat.reduceLT, Int.reduceLE, Int.reduceLT, Int.reduceNe, Int.reduceEq, Int.reduceAdd, Int.reduceSub, Int.reduceMul, Int.reduceNeg, Int.reduceToNat, Int.reducePow, String.reduceEq, String.reduceBEq, String.reduceBNe, Int.reduceFMod, Int.reduceFDiv, Int.reduceNegSucc, Int.reduceAbs, hd]
      refine atF_last ?_
      simp (maxSteps := 4000000) (implicitDefEqProofs := false) only [RB, r_popAt, entry, entryL, outs, slotL, knownTy, isB, D.tyn, D.isNon, D.flat, D.feq, D.scalar, decide_true, decide_false, reduceIte, reduceCtorEq, Nat.reduceAdd, Nat.reduceSub, Nat.reduceMul, Nat.reduceLeDiff, Nat.reduceEqDiff, Nat.reducePow, Nat.reduceLT, Int.reduceLE, Int.reduceLT, Int.reduceNe, Int.reduceEq, Int.reduceAdd, Int.reduceSub, Int.reduceMul, Int.reduceNeg, Int.reduceToNat, Int.reducePow, String.reduceEq, String.reduceBEq, String.reduceBNe, Int.reduceFMod, Int.reduceFDiv, Int.reduceNegSucc, Int.reduceAbs, plD]
      refine atF_last ?_
      simp (maxSteps := 4000000) (implicitDefEqProofs := false) only [RB, r_popAt, entry, entryL, outs, slotL, knownTy, isB, D.tyn, D.isNon, D.flat, D.feq, D.scalar, decide_true, decide_false, reduceIte, reduceCtorEq, Nat.reduceAdd, Nat.reduceSub, Nat.reduceMul, Nat.reduceLeDiff, Nat.reduceEqDiff, Nat.reducePow, Nat.reduceLT, Int.reduceLE, Int.reduceLT, Int.reduceNe, Int.reduceEq, Int.reduceAdd, Int.reduceSub, Int.reduceMul, Int.reduceNeg, Int.reduceToNat, Int.reducePow, String.reduceEq, String.reduceBEq, String.reduceBNe, Int.reduceFMod, Int.reduceFDiv, Int.reduceNegSucc, Int.reduceAbs, plD]
      refine atK_get (d := rowL (row gs q.1.toNat)) (by simpa using gs_at (by omega)) q0 ?_
      simp (maxSteps := 4000000) (implicitDefEqProofs := false) only [RB, r_popAt, entry, entryL, outs, slotL, knownTy, isB, D.tyn, D.isNon, D.flat, D.feq, D.scalar, decide_true, decide_false, reduceIte, reduceCtorEq, Nat.reduceAdd, Nat.reduceSub, Nat.reduceMul, Nat.reduceLeDiff, Nat.reduceEqDiff, Nat.reducePow, Nat.reduceLT, Int.reduceLE, Int.reduceLT, Int.reduceNe, Int.reduceEq, Int.reduceAdd, Int.reduceSub, Int.reduceMul, Int.reduceNeg, Int.reduceToNat, Int.reducePow, String.reduceEq, String.reduceBEq, String.reduceBNe, Int.reduceFMod, Int.reduceFDiv, Int.reduceNegSucc, Int.reduceAbs, rowL]
      by_cases hb : q.2 < ((row gs q.1.toNat).length : Int)
      · rw [if_pos hb]
        refine body (fun hh => ?_) _ _
        have := (ho hn).mpr hh.2
        unfold outB at this
        rw [decide_eq_false (by omega : ¬ ((row gs q.1.toNat).length : Int) ≤ q.2), Bool.and_false] at this
        cases this
      · rw [if_neg hb]
        have hn2 := (ho hn).mp (by unfold outB; rw [decide_eq_true (by omega), decide_eq_true (by omega)]; rfl)
        have f := h (.fr (tabT dr gs)) (.fr (plD e))
        unfold road at f
        rw [← hn2, walkP_s, rowB_s, hq] at f
        exact f
  · rw [if_pos (by omega)]
    exact body (fun hh => hn hh.1) _ _
def cLCycle : Con := fun args k _ => ∃ dr gs p, args = [.fr (tabT dr gs), .fr (plD p)] ∧ Bij dr gs ∧ dr.sum = 0 ∧ CycAt dr gs p ∧ ∀ l m, k (rowB (cyc dr gs p)) [l, m]
def cLRoads : Con := fun args k _ => ∃ dr gs, args = [.fr (tabT dr gs)] ∧ Bij dr gs ∧ ∀ l, k (rwsB (ways dr gs)) [l]
theorem v_lroads : ∀ ls kk kx, cLRoads ls kk kx → t_law_roads cLRoad (endsOf [] ls kk) (entry [] 5 ls) := by
  rintro _ kk kx ⟨dr, gs, rfl, hB, h⟩
  have hn6 := hB.n6
  have hl := hB.len
  have hsum := ents_le hB
  unfold ents at hsum
  rw [flt_len] at hsum
  simp (maxSteps := 4000000) (implicitDefEqProofs := false) only [RB, r_popAt, entry, entryL, outs, slotL, knownTy, isB, D.tyn, D.isNon, D.flat, D.feq, D.scalar, decide_true, decide_false, reduceIte, reduceCtorEq, Nat.reduceAdd, Nat.reduceSub, Nat.reduceMul, Nat.reduceLeDiff, Nat.reduceEqDiff, Nat.reducePow, Nat.reduceLT, Int.reduceLE, Int.reduceLT, Int.reduceNe, Int.reduceEq, Int.reduceAdd, Int.reduceSub, Int.reduceMul, Int.reduceNeg, Int.reduceToNat, Int.reducePow, String.reduceEq, String.reduceBEq, String.reduceBNe, Int.reduceFMod, Int.reduceFDiv, Int.reduceNegSucc, Int.reduceAbs, t_law_roads, tabT]
  refine ⟨by omega, ?_⟩
  refine forD_ix' (I := fun i e => ∃ o2 o3 o4, e = [some (.fr (tabT dr gs)), some (rwsB ((flt (entSz dr) (entG gs) i 0).map (road dr gs))), o2, o3, o4]) ⟨_, _, _, rfl⟩ ?_ ?_
  · rintro i d env hd ⟨o2, o3, o4, rfl⟩ N hN
    obtain ⟨hi, rfl⟩ := rngD_get hd
    have hi : i < dr.length := by simpa using hi
    have hnn := hB.nn i hi
    have hrl := hB.row_le i
    have hdb := hB.db i
    have hst := sum_lt (sz := entSz dr) (i := i) (n := gs.length) (by omega)
    have e0 : (0 + (i : Int)) = (i : Int) := by omega
    have hr1 := gs_at (gs := gs) (i := i) (by omega)
    have hd1 := dlt_at (dr := dr) (i := i) hi
    simp (maxSteps := 4000000) (implicitDefEqProofs := false) only [RB, r_popAt, entry, entryL, outs, slotL, knownTy, isB, D.tyn, D.isNon, D.flat, D.feq, D.scalar, decide_true, decide_false, reduceIte, reduceCtorEq, Nat.reduceAdd, Nat.reduceSub, Nat.reduceMul, Nat.reduceLeDiff, Nat.reduceEqDiff, Nat.reducePow, Nat.reduceLT, Int.reduceLE, Int.reduceLT, Int.reduceNe, Int.reduceEq, Int.reduceAdd, Int.reduceSub, Int.reduceMul, Int.reduceNeg, Int.reduceToNat, Int.reducePow, String.reduceEq, String.reduceBEq, String.reduceBNe, Int.reduceFMod, Int.reduceFDiv, Int.reduceNegSucc, Int.reduceAbs, t_law_roads_b2, tabT, e0]
    refine atK_get (d := rowL (row gs i)) (by simpa using hr1) (by omega) ?_
    simp (maxSteps := 4000000) (implicitDefEqProofs := false) only [RB, r_popAt, entry, entryL, outs, slotL, knownTy, isB, D.tyn, D.isNon, D.flat, D.feq, D.scalar, decide_true, decide_false, reduceIte, reduceCtorEq, Nat.reduceAdd, Nat.reduceSub, Nat.reduceMul, Nat.reduceLeDiff, Nat.reduceEqDiff, Nat.reducePow, Nat.reduceLT, Int.reduceLE, Int.reduceLT, Int.reduceNe, Int.reduceEq, Int.reduceAdd, Int.reduceSub, Int.reduceMul, Int.reduceNeg, Int.reduceToNat, Int.reducePow, String.reduceEq, String.reduceBEq, String.reduceBNe, Int.reduceFMod, Int.reduceFDiv, Int.reduceNegSucc, Int.reduceAbs, rowL]
    refine atK_get (d := .int (dlt dr i)) (by simpa using hd1) (by omega) ?_
    simp (maxSteps := 4000000) (implicitDefEqProofs := false) only [RB, r_popAt, entry, entryL, outs, slotL, knownTy, isB, D.tyn, D.isNon, D.flat, D.feq, D.scalar, decide_true, decide_false, reduceIte, reduceCtorEq, Nat.reduceAdd, Nat.reduceSub, Nat.reduceMul, Nat.reduceLeDiff, Nat.reduceEqDiff, Nat.reducePow, Nat.reduceLT, Int.reduceLE, Int.reduceLT, Int.reduceNe, Int.reduceEq, Int.reduceAdd, Int.reduceSub, Int.reduceMul, Int.reduceNeg, Int.reduceToNat, Int.reducePow, String.reduceEq, String.reduceBEq, String.reduceBNe, Int.reduceFMod, Int.reduceFDiv, Int.reduceNegSucc, Int.reduceAbs]
    refine ⟨⟨by omega, by omega, by omega, by omega⟩, ?_⟩
    have en : ((((row gs i).length : Int) - dlt dr i) - ((row gs i).length : Int)).toNat = entSz dr i := by unfold entSz; omega
    refine forD_ix' (I := fun a e => a ≤ entSz dr i ∧ ∃ o4, e = [some (.fr (tabT dr gs)), some (rwsB ((flt (entSz dr) (entG gs) i a).map (road dr gs))), some (.fr (.int i)), some (.fr (.int (row gs i).length)), o4]) ⟨Nat.zero_le _, _, rfl⟩ ?_ ?_
    · rintro a d env hd ⟨ha, o4, rfl⟩ N' hN'
      obtain ⟨ha2, rfl⟩ := rngD_get hd
      rw [en] at ha2
      have hE : Ent dr gs (entG gs i a) := by
        refine ⟨⟨by show (0 : Int) ≤ i; omega, by show (i : Int) < _; omega, by show (0 : Int) ≤ _ + (a : Int); omega⟩, ?_, ?_⟩
        · show (((row gs (i : Int).toNat).length : Nat) : Int) ≤ ((row gs i).length : Int) + (a : Int)
          rw [Int.toNat_natCast]; omega
        · show ((row gs i).length : Int) + (a : Int) < (((row gs (i : Int).toNat).length : Nat) : Int) - dlt dr (i : Int).toNat
          rw [Int.toNat_natCast]; unfold entSz at ha2; omega
      have hfl := flt_len (sz := entSz dr) (g := entG gs) (i := i) (a := a)
      have eG : D.tup [D.int (i : Int), D.int (((row gs i).length : Int) + (a : Int))] = plD (entG gs i a) := rfl
      simp (maxSteps := 4000000) (implicitDefEqProofs := false) only [RB, r_popAt, entry, entryL, outs, slotL, knownTy, isB, D.tyn, D.isNon, D.flat, D.feq, D.scalar, decide_true, decide_false, reduceIte, reduceCtorEq, Nat.reduceAdd, Nat.reduceSub, Nat.reduceMul, Nat.reduceLeDiff, Nat.reduceEqDiff, Nat.reducePow, Nat.reduceLT, Int.reduceLE, Int.reduceLT, Int.reduceNe, Int.reduceEq, Int.reduceAdd, Int.reduceSub, Int.reduceMul, Int.reduceNeg, Int.reduceToNat, Int.reducePow, String.reduceEq, String.reduceBEq, String.reduceBNe, Int.reduceFMod, Int.reduceFDiv, Int.reduceNegSucc, Int.reduceAbs, t_law_roads_b1, rwsB, eG]
      refine ⟨dr, gs, entG gs i a, rfl, hB, hE, fun _ _ => ?_⟩
      simp (maxSteps := 4000000) (implicitDefEqProofs := false) only [RB, r_popAt, entry, entryL, outs, slotL, knownTy, isB, D.tyn, D.isNon, D.flat, D.feq, D.scalar, decide_true, decide_false, reduceIte, reduceCtorEq, Nat.reduceAdd, Nat.reduceSub, Nat.reduceMul, Nat.reduceLeDiff, Nat.reduceEqDiff, Nat.reducePow, Nat.reduceLT, Int.reduceLE, Int.reduceLT, Int.reduceNe, Int.reduceEq, Int.reduceAdd, Int.reduceSub, Int.reduceMul, Int.reduceNeg, Int.reduceToNat, Int.reducePow, String.reduceEq, String.reduceBEq, String.reduceBNe, Int.reduceFMod, Int.reduceFDiv, Int.reduceNegSucc, Int.reduceAbs]
      refine ⟨by rw [hfl]; omega, hN' _ ⟨ha2, some (.fr (.int (((row gs i).length : Int) + (a : Int)))), ?_⟩⟩
      rw [flt_step]
      simp [rwsB]
    · rintro e ⟨ha, o4, rfl⟩
      rw [rngD_len, en, flt_next]
      exact hN _ ⟨_, _, _, rfl⟩
  · rintro e ⟨o2, o3, o4, rfl⟩
    rw [rngD_len]
    have en : (dr.length : Int).toNat = gs.length := by omega
    rw [en]
    simp (maxSteps := 4000000) (implicitDefEqProofs := false) only [RB, r_popAt, entry, entryL, outs, slotL, knownTy, isB, D.tyn, D.isNon, D.flat, D.feq, D.scalar, decide_true, decide_false, reduceIte, reduceCtorEq, Nat.reduceAdd, Nat.reduceSub, Nat.reduceMul, Nat.reduceLeDiff, Nat.reduceEqDiff, Nat.reducePow, Nat.reduceLT, Int.reduceLE, Int.reduceLT, Int.reduceNe, Int.reduceEq, Int.reduceAdd, Int.reduceSub, Int.reduceMul, Int.reduceNeg, Int.reduceToNat, Int.reducePow, String.reduceEq, String.reduceBEq, String.reduceBNe, Int.reduceFMod, Int.reduceFDiv, Int.reduceNegSucc, Int.reduceAbs]
    exact h _
/-! #### the cycles that the law walks -/
structure KvOk (kv : KV) (ps : List Pl) : Prop where
  len : kv.1.length = kv.2.length
  size : kv.2.length ≤ ps.length
  known : ∀ p, knownK kv p = true ↔ p ∈ ps
theorem KvOk.nil : KvOk ([], []) [] := ⟨rfl, Nat.le_refl _, fun p => by simp [knownK, lookK]⟩
theorem KvOk.put {kv : KV} {ps : List Pl} {p : Pl} {d : D} (h : KvOk kv ps) : KvOk (putP kv p d) (ps ++ [p]) := by
  obtain ⟨a, b⟩ := putP_len (p := p) (d := d) h.len
  have := h.size
  refine ⟨a, by rw [List.length_append]; simp only [List.length_cons, List.length_nil]; omega, fun q => ?_⟩
  rw [knownK_put h.len, h.known, List.mem_append, List.mem_singleton]
  exact or_comm
theorem ivPl {b : Bool} {i : Nat} {Q : L → Ev → Prop} {e : Ev} {p : Pl} : ivK2 b i Q e (plD p) = ivK3 b i Q e (pk p) := by
  simp (maxSteps := 4000000) (implicitDefEqProofs := false) only [RB, r_popAt, entry, entryL, outs, slotL, knownTy, isB, D.tyn, D.isNon, D.flat, D.feq, D.scalar, decide_true, decide_false, reduceIte, reduceCtorEq, Nat.reduceAdd, Nat.reduceSub, Nat.reduceMul, Nat.reduceLeDiff, Nat.reduceEqDiff, Nat.reducePow, Nat.reduceLT, Int.reduceLE, Int.reduceLT, Int.reduceNe, Int.reduceEq, Int.reduceAdd, Int.reduceSub, Int.reduceMul, Int.reduceNeg, Int.reduceToNat, Int.reducePow, String.reduceEq, String.reduceBEq, String.reduceBNe, Int.reduceFMod, Int.reduceFDiv, Int.reduceNegSucc, Int.reduceAbs, plD, pk_fold]
def dctL (kv : KV) : L := .box (.dT kv.1) (kv.2.map L.fr)
def waysD (dr : List Int) (gs : List (List Pl)) : D := .box .lst ((ways dr gs).map rowL)
def cLCycles : Con := fun args k _ => ∃ dr gs, args = [.fr (tabT dr gs), .fr (waysD dr gs)] ∧ Bij dr gs ∧ dr.sum = 0 ∧ ∀ l m, k (rwsL (rest dr gs)) [l, m]
/-! #### all of them -/
def ringsOf (dr : List Int) (gs : List (List Pl)) : List (List Pl) := (rest dr gs).filter fun c => decide (1 < c.length)
def onesOf (dr : List Int) (gs : List (List Pl)) : List Pl := ((rest dr gs).filter fun c => decide (c.length = 1)).map hd
def orbT (dr : List Int) (gs : List (List Pl)) : D := .tup [tabT dr gs, waysD dr gs, .box .lst ((ringsOf dr gs).map rowL), rowL (onesOf dr gs)]
def cLOrbits : Con := fun args k _ => ∃ dr gs, args = [.fr (tabT dr gs)] ∧ Bij dr gs ∧ dr.sum = 0 ∧ ∀ l, k (.fr (orbT dr gs)) [l]
theorem toDs_rwsB (rs : List (List Pl)) : L.toDs (rs.map rowB) = rs.map rowL := toDs_rowB rs
/-! #### the fixed places come in order -/
theorem inns_lex (gs : List (List Pl)) : (inns gs).Pairwise fun a b => SrtO.lexB a b = true := by
  unfold inns
  rw [List.pairwise_flatMap]
  refine ⟨fun i _ => ?_, ?_⟩
  · rw [List.pairwise_map]
    refine List.Pairwise.imp ?_ List.pairwise_lt_range
    intro a b hab
    exact SrtO.lexB_iff.mpr (.inr ⟨rfl, by show (a : Int) < (b : Int); omega⟩)
  · refine List.Pairwise.imp ?_ List.pairwise_lt_range
    intro a b hab x hx y hy
    obtain ⟨c, _, rfl⟩ := List.mem_map.mp hx
    obtain ⟨d, _, rfl⟩ := List.mem_map.mp hy
    exact SrtO.lexB_iff.mpr (.inl (by show (a : Int) < (b : Int); omega))
theorem ones_lex {dr : List Int} {gs : List (List Pl)} (hB : Bij dr gs) (hs : dr.sum = 0) : (onesOf dr gs).Pairwise fun a b => SrtO.lexB a b = true := by
  have h1 : (onesOf dr gs).Sublist (inns gs) := ((List.filter_sublist (l := rest dr gs)).map hd).trans (orbs_rel hB hs).sub
  exact (inns_lex gs).sublist h1
theorem ones_srt {dr : List Int} {gs : List (List Pl)} (hB : Bij dr gs) (hs : dr.sum = 0) {qs : List Pl} (hp : qs.Perm (onesOf dr gs)) (hq : qs.Pairwise fun a b => SrtO.lexB b a = false) : qs = onesOf dr gs := by
  refine List.Perm.eq_of_pairwise (le := fun a b => SrtO.lexB b a = false) (fun a b _ _ h1 h2 => ?_) hq ?_ hp
  · have h1 := SrtO.lexB_no.mp h1
    have h2 := SrtO.lexB_no.mp h2
    exact Prod.ext (by omega) (by omega)
  · refine (ones_lex hB hs).imp ?_
    intro a b h
    have := SrtO.lexB_iff.mp h
    exact SrtO.lexB_no.mpr (by omega)
theorem orbs_rings {dr : List Int} {gs : List (List Pl)} (hB : Bij dr gs) (hs : dr.sum = 0) : (orbs dr gs).rings = ringsOf dr gs := (orbs_rel hB hs).rings
theorem orbs_fixs {dr : List Int} {gs : List (List Pl)} (hB : Bij dr gs) (hs : dr.sum = 0) : (orbs dr gs).fixs = onesOf dr gs := (orbs_rel hB hs).fixs
theorem orbs_roads {dr : List Int} {gs : List (List Pl)} (hB : Bij dr gs) (hs : dr.sum = 0) : (orbs dr gs).roads = ways dr gs := (orbs_rel hB hs).roads
theorem rings_each {dr : List Int} {gs : List (List Pl)} (hB : Bij dr gs) (hs : dr.sum = 0) : ∀ r ∈ ringsOf dr gs, r.length ≤ 2000 := fun c hc => by
  obtain ⟨p, hp, rfl⟩ := (orbs_rel hB hs).each c (List.mem_filter.mp hc).1
  exact (hd_cyc hB hs hp).2.2
theorem orbs_nones (n : Nat) : orbs (zeros n) (nones n) = ⟨[], [], [], ([], [])⟩ := by
  have e1 : ents (zeros n) (nones n) = [] := by
    unfold ents flt entSz
    simp [dlt_zeros]
  have e2 : inns (nones n) = [] := by
    unfold inns
    simp [row_nones]
  unfold orbs osC osR
  rw [e1, e2]
  rfl
theorem lk_pl (p : Pl) (n : Nat) : Lk (n + 1) (plD p) := by
  unfold plD Lk
  refine ⟨by simp, fun d hd => ?_⟩
  simp only [List.mem_cons, List.not_mem_nil, or_false] at hd
  rcases hd with rfl | rfl <;> simp [Lk]
theorem lk_row (r : List Pl) (n : Nat) (h : r.length ≤ 5000) : Lk (n + 2) (rowL r) := by
  unfold rowL Lk
  refine ⟨by simpa using h, fun d hd => ?_⟩
  obtain ⟨p, _, rfl⟩ := List.mem_map.mp hd
  exact lk_pl p n
theorem lk_rows (rs : List (List Pl)) (n : Nat) (h : rs.length ≤ 5000) (h2 : ∀ r ∈ rs, r.length ≤ 5000) : Lk (n + 3) (.box .lst (rs.map rowL)) := by
  unfold Lk
  refine ⟨by simpa using h, fun d hd => ?_⟩
  obtain ⟨p, hp, rfl⟩ := List.mem_map.mp hd
  exact lk_row p n (h2 p hp)
end FL

namespace FL
open PySem PySem.Spec PyProof.Rows L2 TL
/-! ### roads(..) -/
def wayOn (z : Int) (r : List Pl) : Bool := decide ((hd r).1 = z)
def waysOf (dr : List Int) (gs : List (List Pl)) (z : Int) : List (List Pl) := (ways dr gs).filter (wayOn z)
def laneD : Option Int → D
  | none => .non
  | some z => .int z
def waysFor (dr : List Int) (gs : List (List Pl)) : Option Int → List (List Pl)
  | none => ways dr gs
  | some z => waysOf dr gs z
def cRoads (CM : Addr) : Con := fun args k _ => ∃ dr gs z, args = [.fr (mapD CM dr gs), .fr (laneD z)] ∧ Bij dr gs ∧ dr.sum = 0 ∧ ∀ l m, k (rwsB (waysFor dr gs z)) [l, m]
theorem ways_le {dr : List Int} {gs : List (List Pl)} (hB : Bij dr gs) : (ways dr gs).length ≤ 2000 := by unfold ways; rw [List.length_map]; exact ents_le hB
theorem ways_each {dr : List Int} {gs : List (List Pl)} (hB : Bij dr gs) : ∀ r ∈ ways dr gs, 2 ≤ r.length ∧ r.length ≤ 2002 := fun r hr => by
  obtain ⟨e, he, rfl⟩ := List.mem_map.mp hr
  exact road_len hB ((mem_ents hB).mp he)
theorem hd_at {r : List Pl} (h : 1 ≤ r.length) : (r.map plD)[(0 : Int).toNat]? = some (plD (hd r)) := by
  unfold hd
  cases r with
  | nil => simp at h
  | cons p ps => rfl
theorem v_roads (CM CO : Addr) : ∀ ls kk kx, cRoads CM ls kk kx → t_roads CO (cOInit CM CO) (endsOf [] ls kk) (entry [] 3 ls) := by
  rintro _ kk kx ⟨dr, gs, z, rfl, hB, hs, h⟩
  have hr := ways_le hB
  simp (maxSteps := 4000000) (implicitDefEqProofs := false) only [RB, r_popAt, entry, entryL, outs, slotL, knownTy, isB, D.tyn, D.isNon, D.flat, D.feq, D.scalar, decide_true, decide_false, reduceIte, reduceCtorEq, Nat.reduceAdd, Nat.reduceSub, Nat.reduceMul, Nat.reduceLeDiff, Nat.reduceEqDiff, Nat.reducePow, Nat.reduceLT, Int.reduceLE, Int.reduceLT, Int.reduceNe, Int.reduceEq, Int.reduceAdd, Int.reduceSub, Int.reduceMul, Int.reduceNeg, Int.reduceToNat, Int.reducePow, String.reduceEq, String.reduceBEq, String.reduceBNe, Int.reduceFMod, Int.reduceFDiv, Int.reduceNegSucc, Int.reduceAbs, t_roads]
  refine ⟨dr, gs, rfl, hB, hs, fun _ => ?_⟩
  simp (maxSteps := 4000000) (implicitDefEqProofs := false) only [RB, r_popAt, entry, entryL, outs, slotL, knownTy, isB, D.tyn, D.isNon, D.flat, D.feq, D.scalar, decide_true, decide_false, reduceIte, reduceCtorEq, Nat.reduceAdd, Nat.reduceSub, Nat.reduceMul, Nat.reduceLeDiff, Nat.reduceEqDiff, Nat.reducePow, Nat.reduceLT, Int.reduceLE, Int.reduceLT, Int.reduceNe, Int.reduceEq, Int.reduceAdd, Int.reduceSub, Int.reduceMul, Int.reduceNeg, Int.reduceToNat, Int.reducePow, String.reduceEq, String.reduceBEq, String.reduceBNe, Int.reduceFMod, Int.reduceFDiv, Int.reduceNegSucc, Int.reduceAbs, orbO, OS.toL, orbL, rwsL, rowB, toDs_fr]
  rw [orbs_roads hB hs]
  cases z with
  | none =>
    refine compD_ix' (I := fun i acc e => acc = ((ways dr gs).take i).map rowB ∧ e = [some (.fr (mapD CM dr gs)), some (.fr .non), none]) ⟨rfl, rfl⟩ ?_ ?_
    · rintro i d acc env hd ⟨rfl, rfl⟩ M hM
      rw [List.getElem?_map] at hd
      obtain ⟨r, hr1, rfl⟩ := Option.map_eq_some_iff.mp hd
      have hi : i < (ways dr gs).length := (List.getElem?_eq_some_iff.mp hr1).1
      simp (maxSteps := 4000000) (implicitDefEqProofs := false) only [RB, r_popAt, entry, entryL, outs, slotL, knownTy, isB, D.tyn, D.isNon, D.flat, D.feq, D.scalar, decide_true, decide_false, reduceIte, reduceCtorEq, Nat.reduceAdd, Nat.reduceSub, Nat.reduceMul, Nat.reduceLeDiff, Nat.reduceEqDiff, Nat.reducePow, Nat.reduceLT, Int.reduceLE, Int.reduceLT, Int.reduceNe, Int.reduceEq, Int.reduceAdd, Int.reduceSub, Int.reduceMul, Int.reduceNeg, Int.reduceToNat, Int.reducePow, String.reduceEq, String.reduceBEq, String.reduceBNe, Int.reduceFMod, Int.reduceFDiv, Int.reduceNegSucc, Int.reduceAbs, rowL]
      refine ⟨by rw [List.length_take]; omega, hM _ _ ⟨?_, rfl⟩⟩
      rw [take_next hr1]
      simp [rowB]
    · rintro acc env ⟨rfl, rfl⟩
      rw [List.length_map, List.take_length]
      simp (maxSteps := 4000000) (implicitDefEqProofs := false) only [RB, r_popAt, entry, entryL, outs, slotL, knownTy, isB, D.tyn, D.isNon, D.flat, D.feq, D.scalar, decide_true, decide_false, reduceIte, reduceCtorEq, Nat.reduceAdd, Nat.reduceSub, Nat.reduceMul, Nat.reduceLeDiff, Nat.reduceEqDiff, Nat.reducePow, Nat.reduceLT, Int.reduceLE, Int.reduceLT, Int.reduceNe, Int.reduceEq, Int.reduceAdd, Int.reduceSub, Int.reduceMul, Int.reduceNeg, Int.reduceToNat, Int.reducePow, String.reduceEq, String.reduceBEq, String.reduceBNe, Int.reduceFMod, Int.reduceFDiv, Int.reduceNegSucc, Int.reduceAbs]
      exact h _ _
  | some z =>
    refine compD_ix' (I := fun i acc e => acc = (((ways dr gs).take i).filter (wayOn z)).map rowB ∧ e = [some (.fr (mapD CM dr gs)), some (.fr (.int z)), none]) ⟨rfl, rfl⟩ ?_ ?_
    · rintro i d acc env hd ⟨rfl, rfl⟩ M hM
      rw [List.getElem?_map] at hd
      obtain ⟨r, hr1, rfl⟩ := Option.map_eq_some_iff.mp hd
      have hi : i < (ways dr gs).length := (List.getElem?_eq_some_iff.mp hr1).1
      have h2 := ways_each hB r (List.mem_of_getElem? hr1)
      have hf := List.length_filter_le (wayOn z) ((ways dr gs).take i)
      rw [List.length_take] at hf
      simp (maxSteps := 4000000) (implicitDefEqProofs := false) only [RB, r_popAt, entry, entryL, outs, slotL, knownTy, isB, D.tyn, D.isNon, D.flat, D.feq, D.scalar, decide_true, decide_false, reduceIte, reduceCtorEq, Nat.reduceAdd, Nat.reduceSub, Nat.reduceMul, Nat.reduceLeDiff, Nat.reduceEqDiff, Nat.reducePow, Nat.reduceLT, Int.reduceLE, Int.reduceLT, Int.reduceNe, Int.reduceEq, Int.reduceAdd, Int.reduceSub, Int.reduceMul, Int.reduceNeg, Int.reduceToNat, Int.reducePow, String.reduceEq, String.reduceBEq, String.reduceBNe, Int.reduceFMod, Int.reduceFDiv, Int.reduceNegSucc, Int.reduceAbs, rowL]
      refine atK_get (hd_at (by omega)) (by decide) ?_
      simp (maxSteps := 4000000) (implicitDefEqProofs := false) only [RB, r_popAt, entry, entryL, outs, slotL, knownTy, isB, D.tyn, D.isNon, D.flat, D.feq, D.scalar, decide_true, decide_false, reduceIte, reduceCtorEq, Nat.reduceAdd, Nat.reduceSub, Nat.reduceMul, Nat.reduceLeDiff, Nat.reduceEqDiff, Nat.reducePow, Nat.reduceLT, Int.reduceLE, Int.reduceLT, Int.reduceNe, Int.reduceEq, Int.reduceAdd, Int.reduceSub, Int.reduceMul, Int.reduceNeg, Int.reduceToNat, Int.reducePow, String.reduceEq, String.reduceBEq, String.reduceBNe, Int.reduceFMod, Int.reduceFDiv, Int.reduceNegSucc, Int.reduceAbs, plD]
      by_cases h1 : (FL.hd r).1 = z
      · simp (maxSteps := 4000000) (implicitDefEqProofs := false) only [RB, r_popAt, entry, entryL, outs, slotL, knownTy, isB, D.tyn, D.isNon, D.flat, D.feq, D.scalar, decide_true, decide_false, reduceIte, reduceCtorEq, Nat.reduceAdd, Nat.reduceSub, Nat.reduceMul, Nat.reduceLeDiff, Nat.reduceEqDiff, Nat.reducePow, Nat.reduceLT, Int.reduceLE, Int.reduceLT, Int.reduceNe, Int.reduceEq, Int.reduceAdd, Int.reduceSub, Int.reduceMul, Int.reduceNeg, Int.reduceToNat, Int.reducePow, String.reduceEq, String.reduceBEq, String.reduceBNe, Int.reduceFMod, Int.reduceFDiv, Int.reduceNegSucc, Int.reduceAbs, h1]
        refine ⟨by omega, hM _ _ ⟨?_, rfl⟩⟩
        have h1' : wayOn z r = true := by unfold wayOn; simp [h1]
        rw [take_next hr1, List.filter_append]
        simp [h1', rowB, plD]
      · simp (maxSteps := 4000000) (implicitDefEqProofs := false) only [RB, r_popAt, entry, entryL, outs, slotL, knownTy, isB, D.tyn, D.isNon, D.flat, D.feq, D.scalar, decide_true, decide_false, reduceIte, reduceCtorEq, Nat.reduceAdd, Nat.reduceSub, Nat.reduceMul, Nat.reduceLeDiff, Nat.reduceEqDiff, Nat.reducePow, Nat.reduceLT, Int.reduceLE, Int.reduceLT, Int.reduceNe, Int.reduceEq, Int.reduceAdd, Int.reduceSub, Int.reduceMul, Int.reduceNeg, Int.reduceToNat, Int.reducePow, String.reduceEq, String.reduceBEq, String.reduceBNe, Int.reduceFMod, Int.reduceFDiv, Int.reduceNegSucc, Int.reduceAbs, h1]
        refine hM _ _ ⟨?_, rfl⟩
        have h1' : wayOn z r = false := by unfold wayOn; simp [h1]
        rw [take_next hr1, List.filter_append]
        simp [h1']
    · rintro acc env ⟨rfl, rfl⟩
      rw [List.length_map, List.take_length]
      simp (maxSteps := 4000000) (implicitDefEqProofs := false) only [RB, r_popAt, entry, entryL, outs, slotL, knownTy, isB, D.tyn, D.isNon, D.flat, D.feq, D.scalar, decide_true, decide_false, reduceIte, reduceCtorEq, Nat.reduceAdd, Nat.reduceSub, Nat.reduceMul, Nat.reduceLeDiff, Nat.reduceEqDiff, Nat.reducePow, Nat.reduceLT, Int.reduceLE, Int.reduceLT, Int.reduceNe, Int.reduceEq, Int.reduceAdd, Int.reduceSub, Int.reduceMul, Int.reduceNeg, Int.reduceToNat, Int.reducePow, String.reduceEq, String.reduceBEq, String.reduceBNe, Int.reduceFMod, Int.reduceFDiv, Int.reduceNegSucc, Int.reduceAbs]
      exact h _ _
def cFar : Con := fun args k _ => ∃ b, args = [b] ∧ IsBag b ∧ ∀ (z : Int) b', IsBag b' → 1000000 ≤ z → z ≤ 10 ^ 29 + 1000000 → k (.fr (.int z)) [b']
theorem v_far : ∀ ls kk kx, cFar ls kk kx → t_law_far cOf cPull (endsOf [0] ls kk) (entry [0] 1 ls) := by
  rintro _ kk kx ⟨b, rfl, hb, h⟩
  simp (maxSteps := 4000000) (implicitDefEqProofs := false) only [RB, r_popAt, entry, entryL, outs, slotL, knownTy, isB, D.tyn, D.isNon, D.flat, D.feq, D.scalar, decide_true, decide_false, reduceIte, reduceCtorEq, Nat.reduceAdd, Nat.reduceSub, Nat.reduceMul, Nat.reduceLeDiff, Nat.reduceEqDiff, Nat.reducePow, Nat.reduceLT, Int.reduceLE, Int.reduceLT, Int.reduceNe, Int.reduceEq, Int.reduceAdd, Int.reduceSub, Int.reduceMul, Int.reduceNeg, Int.reduceToNat, Int.reducePow, String.reduceEq, String.reduceBEq, String.reduceBNe, Int.reduceFMod, Int.reduceFDiv, Int.reduceNegSucc, Int.reduceAbs, t_law_far, cPull]
  refine ⟨b, [.int 1000000, .int 1000000000000000000, .int 100000000000000000000000000000], rfl, hb, by simp, by simp, fun d b2 _ hd hb2 => ?_⟩
  have hd3 : ∃ s : Int, d = .int s ∧ 1000000 ≤ s ∧ s ≤ 10 ^ 29 := by
    simp only [List.mem_cons, List.not_mem_nil, or_false] at hd
    rcases hd with rfl | rfl | rfl
    · exact ⟨_, rfl, by omega, by omega⟩
    · exact ⟨_, rfl, by omega, by omega⟩
    · exact ⟨_, rfl, by omega, by omega⟩
  obtain ⟨s, rfl, s0, s1⟩ := hd3
  simp (maxSteps := 4000000) (implicitDefEqProofs := false) only [RB, r_popAt, entry, entryL, outs, slotL, knownTy, isB, D.tyn, D.isNon, D.flat, D.feq, D.scalar, decide_true, decide_false, reduceIte, reduceCtorEq, Nat.reduceAdd, Nat.reduceSub, Nat.reduceMul, Nat.reduceLeDiff, Nat.reduceEqDiff, Nat.reducePow, Nat.reduceLT, Int.reduceLE, Int.reduceLT, Int.reduceNe, Int.reduceEq, Int.reduceAdd, Int.reduceSub, Int.reduceMul, Int.reduceNeg, Int.reduceToNat, Int.reducePow, String.reduceEq, String.reduceBEq, String.reduceBNe, Int.reduceFMod, Int.reduceFDiv, Int.reduceNegSucc, Int.reduceAbs, cPull]
  refine ⟨hb2, fun r b3 _ hb3 r0 r1 => ?_⟩
  exact h _ _ hb3 (by omega) (by omega)
theorem way_lane {dr : List Int} {gs : List (List Pl)} (hB : Bij dr gs) : ∀ r ∈ ways dr gs, 0 ≤ (hd r).1 ∧ (hd r).1 < dr.length := fun r hr => by
  obtain ⟨e, he, rfl⟩ := List.mem_map.mp hr
  have hE := (mem_ents hB).mp he
  have : hd (road dr gs e) = e := by
    unfold hd road walkP
    rw [List.range_succ_eq_map]
    rfl
  rw [this]
  exact ⟨hE.1.1, hE.1.2.1⟩
theorem waysOf_none {dr : List Int} {gs : List (List Pl)} (hB : Bij dr gs) {z : Int} (h : z < 0 ∨ (dr.length : Int) ≤ z) : waysOf dr gs z = [] := by
  unfold waysOf
  rw [List.filter_eq_nil_iff]
  intro r hr
  have := way_lane hB r hr
  unfold wayOn
  simp
  omega
theorem ways_nones (n : Nat) : ways (zeros n) (nones n) = [] := by
  have e1 : ents (zeros n) (nones n) = [] := by
    unfold ents flt entSz
    simp [dlt_zeros]
  unfold ways
  rw [e1]; rfl
theorem lk_ways {dr : List Int} {gs : List (List Pl)} (hB : Bij dr gs) (p : List Pl → Bool) (n : Nat) : Lk (n + 3) (.box .lst (((ways dr gs).filter p).map rowL)) := by
  have h1 := List.length_filter_le p (ways dr gs)
  have h2 := ways_le hB
  exact lk_rows _ n (by omega) fun r hr => by have := ways_each hB r (List.mem_filter.mp hr).1; omega
theorem lk_waysA {dr : List Int} {gs : List (List Pl)} (hB : Bij dr gs) (n : Nat) : Lk (n + 3) (.box .lst ((ways dr gs).map rowL)) := by
  have h2 := ways_le hB
  exact lk_rows _ n (by omega) fun r hr => by have := ways_each hB r hr; omega
theorem frzAny {o : Option L} {e : Ev} : frzE (o :: e) = (o.map frzL) :: frzE e := rfl
theorem rows_bx (rs : List (List Pl)) : (rs.map rowB).all bxB = true := by
  rw [List.all_eq_true]; intro l hl; obtain ⟨r, _, rfl⟩ := List.mem_map.mp hl; rfl
end FL

namespace FL
open PySem PySem.Spec PyProof.Rows L2 TL
/-! ### the law -/
theorem cmp_nil : Cmp2 (.box .lst []) (.box .lst []) := by simp [Cmp2, SeqAt.shaped, D.py, D.pys, PyData.canLay0, PyData.canLayAll0, PyData.depth, PyData.depthAll]
theorem eqv_nil : PyData.eqv (D.box .lst []).py (D.box .lst []).py = true := by simp [D.py, D.pys, PyData.eqv, PyData.eqvAll]
def LawE (ns : List Int) (e : Ev) : Prop := ∃ (b : L) (o2 o3 o4 o5 o6 o7 o8 o9 o10 o11 o12 : Option L), IsBag b ∧ e = [some (.fr (.ro (ns.map D.int))), some b, o2, o3, o4, o5, o6, o7, o8, o9, o10, o11, o12]
def LawG (C : Addr) (ns : List Int) (dr : List Int) (gs : List (List Pl)) (e : Ev) : Prop := ∃ (b l5 l6 : L) (o2 o7 o8 o9 o10 o11 o12 : Option L), IsBag b ∧ l5.toD = mapD C dr gs ∧ l6.toD = .box .lst ((ways dr gs).map rowL) ∧ e = [some (.fr (.ro (ns.map D.int))), some b, o2, some (.fr (.int dr.length)), some (.fr (tabT dr gs)), some l5, some l6, o7, o8, o9, o10, o11, o12]
theorem v_again (C : Addr) {ns : List Int} {dr : List Int} {gs : List (List Pl)} (hB : Bij dr gs) (hs : dr.sum = 0) {n N : Ev → Prop} {rt : L → Ev → Prop} : ∀ (i : Nat) (d : D) (env : Ev), (rngD 0 2)[i]? = some d → LawG C ns dr gs env → (∀ e, LawG C ns dr gs e → N e) → dgName 7 (.fr d) env (bodyK (t_law_b2 cBag cPull cAny cLRoads (cLawMade C) (cRoads C) (cLike 4) cFar cOf (cIdentity C)) N rt n) := by
  rintro i d env hd ⟨b, l5, l6, o2, o7, o8, o9, o10, o11, o12, hb, h5, h6, rfl⟩ hN
  obtain ⟨hi, rfl⟩ := rngD_get hd
  have hw := ways_le hB
  simp (maxSteps := 4000000) (implicitDefEqProofs := false) only [RB, r_popAt, entry, entryL, outs, slotL, knownTy, isB, D.tyn, D.isNon, D.flat, D.feq, D.scalar, decide_true, decide_false, reduceIte, reduceCtorEq, Nat.reduceAdd, Nat.reduceSub, Nat.reduceMul, Nat.reduceLeDiff, Nat.reduceEqDiff, Nat.reducePow, Nat.reduceLT, Int.reduceLE, Int.reduceLT, Int.reduceNe, Int.reduceEq, Int.reduceAdd, Int.reduceSub, Int.reduceMul, Int.reduceNeg, Int.reduceToNat, Int.reducePow, String.reduceEq, String.reduceBEq, String.reduceBNe, Int.reduceFMod, Int.reduceFDiv, Int.reduceNegSucc, Int.reduceAbs, t_law_b2, h5]
  refine ⟨dr, gs, none, rfl, hB, hs, fun _ _ => ?_⟩
  simp (maxSteps := 4000000) (implicitDefEqProofs := false) only [RB, r_popAt, entry, entryL, outs, slotL, knownTy, isB, D.tyn, D.isNon, D.flat, D.feq, D.scalar, decide_true, decide_false, reduceIte, reduceCtorEq, Nat.reduceAdd, Nat.reduceSub, Nat.reduceMul, Nat.reduceLeDiff, Nat.reduceEqDiff, Nat.reducePow, Nat.reduceLT, Int.reduceLE, Int.reduceLT, Int.reduceNe, Int.reduceEq, Int.reduceAdd, Int.reduceSub, Int.reduceMul, Int.reduceNeg, Int.reduceToNat, Int.reducePow, String.reduceEq, String.reduceBEq, String.reduceBNe, Int.reduceFMod, Int.reduceFDiv, Int.reduceNegSucc, Int.reduceAbs, waysFor, rwsB, toDs_rwsB, frzAny, frzL, h6]
  refine ⟨_, lk_waysA hB 1, rfl, fun _ _ => ?_⟩
  simp (maxSteps := 4000000) (implicitDefEqProofs := false) only [RB, r_popAt, entry, entryL, outs, slotL, knownTy, isB, D.tyn, D.isNon, D.flat, D.feq, D.scalar, decide_true, decide_false, reduceIte, reduceCtorEq, Nat.reduceAdd, Nat.reduceSub, Nat.reduceMul, Nat.reduceLeDiff, Nat.reduceEqDiff, Nat.reducePow, Nat.reduceLT, Int.reduceLE, Int.reduceLT, Int.reduceNe, Int.reduceEq, Int.reduceAdd, Int.reduceSub, Int.reduceMul, Int.reduceNeg, Int.reduceToNat, Int.reducePow, String.reduceEq, String.reduceBEq, String.reduceBNe, Int.reduceFMod, Int.reduceFDiv, Int.reduceNegSucc, Int.reduceAbs, frzAny, frzL, toDs_rwsB]
  refine ⟨dr, gs, none, rfl, hB, hs, fun _ _ => ?_⟩
  simp (maxSteps := 4000000) (implicitDefEqProofs := false) only [RB, r_popAt, entry, entryL, outs, slotL, knownTy, isB, D.tyn, D.isNon, D.flat, D.feq, D.scalar, decide_true, decide_false, reduceIte, reduceCtorEq, Nat.reduceAdd, Nat.reduceSub, Nat.reduceMul, Nat.reduceLeDiff, Nat.reduceEqDiff, Nat.reducePow, Nat.reduceLT, Int.reduceLE, Int.reduceLT, Int.reduceNe, Int.reduceEq, Int.reduceAdd, Int.reduceSub, Int.reduceMul, Int.reduceNeg, Int.reduceToNat, Int.reducePow, String.reduceEq, String.reduceBEq, String.reduceBNe, Int.reduceFMod, Int.reduceFDiv, Int.reduceNegSucc, Int.reduceAbs, waysFor, rwsB, toDs_rwsB, h6]
  refine ⟨_, lk_waysA hB 1, rfl, fun _ _ => ?_⟩
  simp (maxSteps := 4000000) (implicitDefEqProofs := false) only [RB, r_popAt, entry, entryL, outs, slotL, knownTy, isB, D.tyn, D.isNon, D.flat, D.feq, D.scalar, decide_true, decide_false, reduceIte, reduceCtorEq, Nat.reduceAdd, Nat.reduceSub, Nat.reduceMul, Nat.reduceLeDiff, Nat.reduceEqDiff, Nat.reducePow, Nat.reduceLT, Int.reduceLE, Int.reduceLT, Int.reduceNe, Int.reduceEq, Int.reduceAdd, Int.reduceSub, Int.reduceMul, Int.reduceNeg, Int.reduceToNat, Int.reducePow, String.reduceEq, String.reduceBEq, String.reduceBNe, Int.reduceFMod, Int.reduceFDiv, Int.reduceNegSucc, Int.reduceAbs]
  refine ⟨rows_bx _, ?_⟩
  refine forB_ix' (k := 0) (I := fun a done e => done.length = a ∧ ∃ o9', e = [some (.fr (.ro (ns.map D.int))), some b, o2, some (.fr (.int dr.length)), some (.fr (tabT dr gs)), some (.fr (mapD C dr gs)), some l6, some (.fr (.int (0 + (i : Int)))), none, o9', o10, o11, o12]) ⟨rfl, _, rfl⟩ ?_ ?_
  · rintro a done l e hl ⟨hdn, o9', rfl⟩ K hK
    rw [List.getElem?_map] at hl
    obtain ⟨r, hr, rfl⟩ := Option.map_eq_some_iff.mp hl
    simp (maxSteps := 4000000) (implicitDefEqProofs := false) only [RB, r_popAt, entry, entryL, outs, slotL, knownTy, isB, D.tyn, D.isNon, D.flat, D.feq, D.scalar, decide_true, decide_false, reduceIte, reduceCtorEq, Nat.reduceAdd, Nat.reduceSub, Nat.reduceMul, Nat.reduceLeDiff, Nat.reduceEqDiff, Nat.reducePow, Nat.reduceLT, Int.reduceLE, Int.reduceLT, Int.reduceNe, Int.reduceEq, Int.reduceAdd, Int.reduceSub, Int.reduceMul, Int.reduceNeg, Int.reduceToNat, Int.reducePow, String.reduceEq, String.reduceBEq, String.reduceBNe, Int.reduceFMod, Int.reduceFDiv, Int.reduceNegSucc, Int.reduceAbs, t_law_b1, rowB]
    refine hK _ _ ⟨by simp [hdn], none, rfl⟩
  · rintro done e ⟨hdn, o9', rfl⟩
    rw [List.length_map] at hdn
    simp (maxSteps := 4000000) (implicitDefEqProofs := false) only [RB, r_popAt, entry, entryL, outs, slotL, knownTy, isB, D.tyn, D.isNon, D.flat, D.feq, D.scalar, decide_true, decide_false, reduceIte, reduceCtorEq, Nat.reduceAdd, Nat.reduceSub, Nat.reduceMul, Nat.reduceLeDiff, Nat.reduceEqDiff, Nat.reducePow, Nat.reduceLT, Int.reduceLE, Int.reduceLT, Int.reduceNe, Int.reduceEq, Int.reduceAdd, Int.reduceSub, Int.reduceMul, Int.reduceNeg, Int.reduceToNat, Int.reducePow, String.reduceEq, String.reduceBEq, String.reduceBNe, Int.reduceFMod, Int.reduceFDiv, Int.reduceNegSucc, Int.reduceAbs]
    refine ⟨by omega, ?_⟩
    exact hN _ ⟨b, .fr (mapD C dr gs), l6, _, _, _, _, _, _, _, hb, rfl, h6, rfl⟩
def LawH (C : Addr) (ns : List Int) (dr : List Int) (gs : List (List Pl)) (z : Int) (e : Ev) : Prop := ∃ (b l5 l6 l11 : L) (o2 o7 o8 o9 o12 : Option L), IsBag b ∧ l5.toD = mapD C dr gs ∧ l6.toD = .box .lst ((ways dr gs).map rowL) ∧ l11.toD = .box .lst ((waysOf dr gs z).map rowL) ∧ e = [some (.fr (.ro (ns.map D.int))), some b, o2, some (.fr (.int dr.length)), some (.fr (tabT dr gs)), some l5, some l6, o7, o8, o9, some (.fr (.int z)), some l11, o12]
theorem v_again2 (C : Addr) {ns : List Int} {dr : List Int} {gs : List (List Pl)} {z : Int} (hB : Bij dr gs) (hs : dr.sum = 0) {n N : Ev → Prop} {rt : L → Ev → Prop} : ∀ (i : Nat) (d : D) (env : Ev), (rngD 0 2)[i]? = some d → LawH C ns dr gs z env → (∀ e, LawH C ns dr gs z e → N e) → dgName 7 (.fr d) env (bodyK (t_law_b4 cBag cPull cAny cLRoads (cLawMade C) (cRoads C) (cLike 4) cFar cOf (cIdentity C)) N rt n) := by
  rintro i d env hd ⟨b, l5, l6, l11, o2, o7, o8, o9, o12, hb, h5, h6, h11, rfl⟩ hN
  obtain ⟨hi, rfl⟩ := rngD_get hd
  have hw := ways_le hB
  have hf := List.length_filter_le (wayOn z) (ways dr gs)
  simp (maxSteps := 4000000) (implicitDefEqProofs := false) only [RB, r_popAt, entry, entryL, outs, slotL, knownTy, isB, D.tyn, D.isNon, D.flat, D.feq, D.scalar, decide_true, decide_false, reduceIte, reduceCtorEq, Nat.reduceAdd, Nat.reduceSub, Nat.reduceMul, Nat.reduceLeDiff, Nat.reduceEqDiff, Nat.reducePow, Nat.reduceLT, Int.reduceLE, Int.reduceLT, Int.reduceNe, Int.reduceEq, Int.reduceAdd, Int.reduceSub, Int.reduceMul, Int.reduceNeg, Int.reduceToNat, Int.reducePow, String.reduceEq, String.reduceBEq, String.reduceBNe, Int.reduceFMod, Int.reduceFDiv, Int.reduceNegSucc, Int.reduceAbs, t_law_b4, h5]
  refine ⟨dr, gs, some z, rfl, hB, hs, fun _ _ => ?_⟩
  simp (maxSteps := 4000000) (implicitDefEqProofs := false) only [RB, r_popAt, entry, entryL, outs, slotL, knownTy, isB, D.tyn, D.isNon, D.flat, D.feq, D.scalar, decide_true, decide_false, reduceIte, reduceCtorEq, Nat.reduceAdd, Nat.reduceSub, Nat.reduceMul, Nat.reduceLeDiff, Nat.reduceEqDiff, Nat.reducePow, Nat.reduceLT, Int.reduceLE, Int.reduceLT, Int.reduceNe, Int.reduceEq, Int.reduceAdd, Int.reduceSub, Int.reduceMul, Int.reduceNeg, Int.reduceToNat, Int.reducePow, String.reduceEq, String.reduceBEq, String.reduceBNe, Int.reduceFMod, Int.reduceFDiv, Int.reduceNegSucc, Int.reduceAbs, waysFor, rwsB, toDs_rwsB, frzAny, frzL, h11]
  refine ⟨_, lk_ways hB _ 1, rfl, fun _ _ => ?_⟩
  simp (maxSteps := 4000000) (implicitDefEqProofs := false) only [RB, r_popAt, entry, entryL, outs, slotL, knownTy, isB, D.tyn, D.isNon, D.flat, D.feq, D.scalar, decide_true, decide_false, reduceIte, reduceCtorEq, Nat.reduceAdd, Nat.reduceSub, Nat.reduceMul, Nat.reduceLeDiff, Nat.reduceEqDiff, Nat.reducePow, Nat.reduceLT, Int.reduceLE, Int.reduceLT, Int.reduceNe, Int.reduceEq, Int.reduceAdd, Int.reduceSub, Int.reduceMul, Int.reduceNeg, Int.reduceToNat, Int.reducePow, String.reduceEq, String.reduceBEq, String.reduceBNe, Int.reduceFMod, Int.reduceFDiv, Int.reduceNegSucc, Int.reduceAbs]
  refine ⟨rows_bx _, ?_⟩
  refine forB_ix' (k := 0) (I := fun a done e => done.length = a ∧ ∃ o9', e = [some (.fr (.ro (ns.map D.int))), some b, o2, some (.fr (.int dr.length)), some (.fr (tabT dr gs)), some (.fr (mapD C dr gs)), some l6, some (.fr (.int (0 + (i : Int)))), none, o9', some (.fr (.int z)), some l11, o12]) ⟨rfl, _, rfl⟩ ?_ ?_
  · rintro a done l e hl ⟨hdn, o9', rfl⟩ K hK
    rw [List.getElem?_map] at hl
    obtain ⟨r, hr, rfl⟩ := Option.map_eq_some_iff.mp hl
    simp (maxSteps := 4000000) (implicitDefEqProofs := false) only [RB, r_popAt, entry, entryL, outs, slotL, knownTy, isB, D.tyn, D.isNon, D.flat, D.feq, D.scalar, decide_true, decide_false, reduceIte, reduceCtorEq, Nat.reduceAdd, Nat.reduceSub, Nat.reduceMul, Nat.reduceLeDiff, Nat.reduceEqDiff, Nat.reducePow, Nat.reduceLT, Int.reduceLE, Int.reduceLT, Int.reduceNe, Int.reduceEq, Int.reduceAdd, Int.reduceSub, Int.reduceMul, Int.reduceNeg, Int.reduceToNat, Int.reducePow, String.reduceEq, String.reduceBEq, String.reduceBNe, Int.reduceFMod, Int.reduceFDiv, Int.reduceNegSucc, Int.reduceAbs, t_law_b3, rowB]
    refine hK _ _ ⟨by simp [hdn], none, rfl⟩
  · rintro done e ⟨hdn, o9', rfl⟩
    rw [List.length_map] at hdn
    unfold waysOf at hdn
    simp (maxSteps := 4000000) (implicitDefEqProofs := false) only [RB, r_popAt, entry, entryL, outs, slotL, knownTy, isB, D.tyn, D.isNon, D.flat, D.feq, D.scalar, decide_true, decide_false, reduceIte, reduceCtorEq, Nat.reduceAdd, Nat.reduceSub, Nat.reduceMul, Nat.reduceLeDiff, Nat.reduceEqDiff, Nat.reducePow, Nat.reduceLT, Int.reduceLE, Int.reduceLT, Int.reduceNe, Int.reduceEq, Int.reduceAdd, Int.reduceSub, Int.reduceMul, Int.reduceNeg, Int.reduceToNat, Int.reducePow, String.reduceEq, String.reduceBEq, String.reduceBNe, Int.reduceFMod, Int.reduceFDiv, Int.reduceNegSucc, Int.reduceAbs]
    refine ⟨by omega, ?_⟩
    exact hN _ ⟨b, .fr (mapD C dr gs), l6, l11, _, _, _, _, _, hb, rfl, h6, h11, rfl⟩
theorem v_lane (C : Addr) {ns : List Int} {dr : List Int} {gs : List (List Pl)} (hB : Bij dr gs) (hs : dr.sum = 0) {n N : Ev → Prop} {rt : L → Ev → Prop} : ∀ (i : Nat) (d : D) (env : Ev), (rngD 0 dr.length)[i]? = some d → LawG C ns dr gs env → (∀ e, LawG C ns dr gs e → N e) → dgName 10 (.fr d) env (bodyK (t_law_b5 cBag cPull cAny cLRoads (cLawMade C) (cRoads C) (cLike 4) cFar cOf (cIdentity C)) N rt n) := by
  rintro i d env hd ⟨b, l5, l6, o2, o7, o8, o9, o10, o11, o12, hb, h5, h6, rfl⟩ hN
  obtain ⟨hi, rfl⟩ := rngD_get hd
  have hw := ways_le hB
  have hf := List.length_filter_le (wayOn (i : Int)) (ways dr gs)
  have e0 : (0 + (i : Int)) = (i : Int) := by omega
  simp (maxSteps := 4000000) (implicitDefEqProofs := false) only [RB, r_popAt, entry, entryL, outs, slotL, knownTy, isB, D.tyn, D.isNon, D.flat, D.feq, D.scalar, decide_true, decide_false, reduceIte, reduceCtorEq, Nat.reduceAdd, Nat.reduceSub, Nat.reduceMul, Nat.reduceLeDiff, Nat.reduceEqDiff, Nat.reducePow, Nat.reduceLT, Int.reduceLE, Int.reduceLT, Int.reduceNe, Int.reduceEq, Int.reduceAdd, Int.reduceSub, Int.reduceMul, Int.reduceNeg, Int.reduceToNat, Int.reducePow, String.reduceEq, String.reduceBEq, String.reduceBNe, Int.reduceFMod, Int.reduceFDiv, Int.reduceNegSucc, Int.reduceAbs, t_law_b5, h6, e0]
  refine compD_ix' (I := fun a acc e => acc = ((((ways dr gs).take a).filter (wayOn (i : Int))).map rowL).map L.fr ∧ ∃ o9', e = [some (.fr (.ro (ns.map D.int))), some b, o2, some (.fr (.int dr.length)), some (.fr (tabT dr gs)), some l5, some (.fr (.box .lst ((ways dr gs).map rowL))), o7, o8, o9', some (.fr (.int i)), o11, o12]) ⟨rfl, _, rfl⟩ ?_ ?_
  · rintro a d acc env hd ⟨rfl, o9', rfl⟩ M hM
    rw [List.getElem?_map] at hd
    obtain ⟨r, hr1, rfl⟩ := Option.map_eq_some_iff.mp hd
    have ha : a < (ways dr gs).length := (List.getElem?_eq_some_iff.mp hr1).1
    have h2 := ways_each hB r (List.mem_of_getElem? hr1)
    have hf := List.length_filter_le (wayOn (i : Int)) ((ways dr gs).take a)
    rw [List.length_take] at hf
    simp (maxSteps := 4000000) (implicitDefEqProofs := false) only [RB, r_popAt, entry, entryL, outs, slotL, knownTy, isB, D.tyn, D.isNon, D.flat, D.feq, D.scalar, decide_true, decide_false, reduceIte, reduceCtorEq, Nat.reduceAdd, Nat.reduceSub, Nat.reduceMul, Nat.reduceLeDiff, Nat.reduceEqDiff, Nat.reducePow, Nat.reduceLT, Int.reduceLE, Int.reduceLT, Int.reduceNe, Int.reduceEq, Int.reduceAdd, Int.reduceSub, Int.reduceMul, Int.reduceNeg, Int.reduceToNat, Int.reducePow, String.reduceEq, String.reduceBEq, String.reduceBNe, Int.reduceFMod, Int.reduceFDiv, Int.reduceNegSucc, Int.reduceAbs, rowL]
    refine atK_get (hd_at (by omega)) (by decide) ?_
    simp (maxSteps := 4000000) (implicitDefEqProofs := false) only [RB, r_popAt, entry, entryL, outs, slotL, knownTy, isB, D.tyn, D.isNon, D.flat, D.feq, D.scalar, decide_true, decide_false, reduceIte, reduceCtorEq, Nat.reduceAdd, Nat.reduceSub, Nat.reduceMul, Nat.reduceLeDiff, Nat.reduceEqDiff, Nat.reducePow, Nat.reduceLT, Int.reduceLE, Int.reduceLT, Int.reduceNe, Int.reduceEq, Int.reduceAdd, Int.reduceSub, Int.reduceMul, Int.reduceNeg, Int.reduceToNat, Int.reducePow, String.reduceEq, String.reduceBEq, String.reduceBNe, Int.reduceFMod, Int.reduceFDiv, Int.reduceNegSucc, Int.reduceAbs, plD]
    by_cases h1 : (FL.hd r).1 = (i : Int)
    · simp (maxSteps := 4000000) (implicitDefEqProofs := false) only [RB, r_popAt, entry, entryL, outs, slotL, knownTy, isB, D.tyn, D.isNon, D.flat, D.feq, D.scalar, decide_true, decide_false, reduceIte, reduceCtorEq, Nat.reduceAdd, Nat.reduceSub, Nat.reduceMul, Nat.reduceLeDiff, Nat.reduceEqDiff, Nat.reducePow, Nat.reduceLT, Int.reduceLE, Int.reduceLT, Int.reduceNe, Int.reduceEq, Int.reduceAdd, Int.reduceSub, Int.reduceMul, Int.reduceNeg, Int.reduceToNat, Int.reducePow, String.reduceEq, String.reduceBEq, String.reduceBNe, Int.reduceFMod, Int.reduceFDiv, Int.reduceNegSucc, Int.reduceAbs, h1]
      refine ⟨by omega, hM _ _ ⟨?_, _, rfl⟩⟩
      have h1' : wayOn (i : Int) r = true := by unfold wayOn; simp [h1]
      rw [take_next hr1, List.filter_append]
      simp [h1', rowL]
    · simp (maxSteps := 4000000) (implicitDefEqProofs := false) only [RB, r_popAt, entry, entryL, outs, slotL, knownTy, isB, D.tyn, D.isNon, D.flat, D.feq, D.scalar, decide_true, decide_false, reduceIte, reduceCtorEq, Nat.reduceAdd, Nat.reduceSub, Nat.reduceMul, Nat.reduceLeDiff, Nat.reduceEqDiff, Nat.reducePow, Nat.reduceLT, Int.reduceLE, Int.reduceLT, Int.reduceNe, Int.reduceEq, Int.reduceAdd, Int.reduceSub, Int.reduceMul, Int.reduceNeg, Int.reduceToNat, Int.reducePow, String.reduceEq, String.reduceBEq, String.reduceBNe, Int.reduceFMod, Int.reduceFDiv, Int.reduceNegSucc, Int.reduceAbs, h1]
      refine hM _ _ ⟨?_, _, rfl⟩
      have h1' : wayOn (i : Int) r = false := by unfold wayOn; simp [h1]
      rw [take_next hr1, List.filter_append]
      simp [h1']
  · rintro acc env ⟨rfl, o9', rfl⟩
    rw [List.length_map, List.take_length]
    simp (maxSteps := 4000000) (implicitDefEqProofs := false) only [RB, r_popAt, entry, entryL, outs, slotL, knownTy, isB, D.tyn, D.isNon, D.flat, D.feq, D.scalar, decide_true, decide_false, reduceIte, reduceCtorEq, Nat.reduceAdd, Nat.reduceSub, Nat.reduceMul, Nat.reduceLeDiff, Nat.reduceEqDiff, Nat.reducePow, Nat.reduceLT, Int.reduceLE, Int.reduceLT, Int.reduceNe, Int.reduceEq, Int.reduceAdd, Int.reduceSub, Int.reduceMul, Int.reduceNeg, Int.reduceToNat, Int.reducePow, String.reduceEq, String.reduceBEq, String.reduceBNe, Int.reduceFMod, Int.reduceFDiv, Int.reduceNegSucc, Int.reduceAbs, toDs_fr]
    refine forD_ix' (I := fun _ e => LawH C ns dr gs (i : Int) e) ⟨b, l5, _, _, _, _, _, _, _, hb, h5, rfl, ?_, rfl⟩ (fun j d env hd hI N' hN' => v_again2 C hB hs j d env hd hI hN') ?_
    · rw [r_toDb, toDs_fr]; rfl
    · rintro e ⟨b, l5, l6, l11, o2, o7, o8, o9, o12, hb, h5, h6, h11, rfl⟩
      exact hN _ ⟨b, l5, l6, _, _, _, _, _, _, _, hb, h5, h6, rfl⟩
theorem v_turn (C : Addr) {ns : List Int} {n N : Ev → Prop} {rt : L → Ev → Prop} : ∀ (i : Nat) (d : D) (env : Ev), (rngD 0 3)[i]? = some d → LawE ns env → (∀ e, LawE ns e → N e) → dgName 2 (.fr d) env (bodyK (t_law_b6 cBag cPull cAny cLRoads (cLawMade C) (cRoads C) (cLike 4) cFar cOf (cIdentity C)) N rt n) := by
  rintro i d env hd ⟨b, o2, o3, o4, o5, o6, o7, o8, o9, o10, o11, o12, hb, rfl⟩ hN
  obtain ⟨hi, rfl⟩ := rngD_get hd
  simp (maxSteps := 4000000) (implicitDefEqProofs := false) only [RB, r_popAt, entry, entryL, outs, slotL, knownTy, isB, D.tyn, D.isNon, D.flat, D.feq, D.scalar, decide_true, decide_false, reduceIte, reduceCtorEq, Nat.reduceAdd, Nat.reduceSub, Nat.reduceMul, Nat.reduceLeDiff, Nat.reduceEqDiff, Nat.reducePow, Nat.reduceLT, Int.reduceLE, Int.reduceLT, Int.reduceNe, Int.reduceEq, Int.reduceAdd, Int.reduceSub, Int.reduceMul, Int.reduceNeg, Int.reduceToNat, Int.reducePow, String.reduceEq, String.reduceBEq, String.reduceBNe, Int.reduceFMod, Int.reduceFDiv, Int.reduceNegSucc, Int.reduceAbs, t_law_b6, cPull]
  refine ⟨hb, fun r b1 _ hb1 r0 r1 => ?_⟩
  simp (maxSteps := 4000000) (implicitDefEqProofs := false) only [RB, r_popAt, entry, entryL, outs, slotL, knownTy, isB, D.tyn, D.isNon, D.flat, D.feq, D.scalar, decide_true, decide_false, reduceIte, reduceCtorEq, Nat.reduceAdd, Nat.reduceSub, Nat.reduceMul, Nat.reduceLeDiff, Nat.reduceEqDiff, Nat.reducePow, Nat.reduceLT, Int.reduceLE, Int.reduceLT, Int.reduceNe, Int.reduceEq, Int.reduceAdd, Int.reduceSub, Int.reduceMul, Int.reduceNeg, Int.reduceToNat, Int.reducePow, String.reduceEq, String.reduceBEq, String.reduceBNe, Int.reduceFMod, Int.reduceFDiv, Int.reduceNegSucc, Int.reduceAbs, cAny]
  refine ⟨hb1, ⟨by omega, by omega⟩, fun dr gs b3 _ _ _ hb3 hlen hT => ?_⟩
  have hB := hT.bij
  have hs := hT.sum
  have hn6 := hB.n6
  rw [← hlen]
  refine ⟨dr, gs, rfl, hB, fun _ => ?_⟩
  rw [hT.lst]
  simp (maxSteps := 4000000) (implicitDefEqProofs := false) only [RB, r_popAt, entry, entryL, outs, slotL, knownTy, isB, D.tyn, D.isNon, D.flat, D.feq, D.scalar, decide_true, decide_false, reduceIte, reduceCtorEq, Nat.reduceAdd, Nat.reduceSub, Nat.reduceMul, Nat.reduceLeDiff, Nat.reduceEqDiff, Nat.reducePow, Nat.reduceLT, Int.reduceLE, Int.reduceLT, Int.reduceNe, Int.reduceEq, Int.reduceAdd, Int.reduceSub, Int.reduceMul, Int.reduceNeg, Int.reduceToNat, Int.reducePow, String.reduceEq, String.reduceBEq, String.reduceBNe, Int.reduceFMod, Int.reduceFDiv, Int.reduceNegSucc, Int.reduceAbs]
  refine ⟨dr, gs, rfl, hB, fun _ => ?_⟩
  simp (maxSteps := 4000000) (implicitDefEqProofs := false) only [RB, r_popAt, entry, entryL, outs, slotL, knownTy, isB, D.tyn, D.isNon, D.flat, D.feq, D.scalar, decide_true, decide_false, reduceIte, reduceCtorEq, Nat.reduceAdd, Nat.reduceSub, Nat.reduceMul, Nat.reduceLeDiff, Nat.reduceEqDiff, Nat.reducePow, Nat.reduceLT, Int.reduceLE, Int.reduceLT, Int.reduceNe, Int.reduceEq, Int.reduceAdd, Int.reduceSub, Int.reduceMul, Int.reduceNeg, Int.reduceToNat, Int.reducePow, String.reduceEq, String.reduceBEq, String.reduceBNe, Int.reduceFMod, Int.reduceFDiv, Int.reduceNegSucc, Int.reduceAbs]
  refine forD_ix' (I := fun _ e => LawG C ns dr gs e) ⟨b3, mapL C dr gs, rwsB (ways dr gs), _, _, _, _, _, _, _, hb3, mapL_toD C dr gs, by unfold rwsB; rw [r_toDb, toDs_rwsB], rfl⟩ (fun i d env hd hI N' hN' => v_again C hB hs i d env hd hI hN') ?_
  rintro e ⟨b, l5, l6, o2, o7, o8, o9, o10, o11, o12, hb, h5, h6, rfl⟩
  simp (maxSteps := 4000000) (implicitDefEqProofs := false) only [RB, r_popAt, entry, entryL, outs, slotL, knownTy, isB, D.tyn, D.isNon, D.flat, D.feq, D.scalar, decide_true, decide_false, reduceIte, reduceCtorEq, Nat.reduceAdd, Nat.reduceSub, Nat.reduceMul, Nat.reduceLeDiff, Nat.reduceEqDiff, Nat.reducePow, Nat.reduceLT, Int.reduceLE, Int.reduceLT, Int.reduceNe, Int.reduceEq, Int.reduceAdd, Int.reduceSub, Int.reduceMul, Int.reduceNeg, Int.reduceToNat, Int.reducePow, String.reduceEq, String.reduceBEq, String.reduceBNe, Int.reduceFMod, Int.reduceFDiv, Int.reduceNegSucc, Int.reduceAbs]
  refine ⟨by omega, ?_⟩
  rw [Int.toNat_natCast]
  refine forD_ix' (I := fun _ e => LawG C ns dr gs e) ⟨b, l5, l6, _, _, _, _, _, _, _, hb, h5, h6, rfl⟩ (fun i d env hd hI N' hN' => v_lane C hB hs i d env hd hI hN') ?_
  rintro e ⟨b, l5, l6, o2, o7, o8, o9, o10, o11, o12, hb, h5, h6, rfl⟩
  simp (maxSteps := 4000000) (implicitDefEqProofs := false) only [RB, r_popAt, entry, entryL, outs, slotL, knownTy, isB, D.tyn, D.isNon, D.flat, D.feq, D.scalar, decide_true, decide_false, reduceIte, reduceCtorEq, Nat.reduceAdd, Nat.reduceSub, Nat.reduceMul, Nat.reduceLeDiff, Nat.reduceEqDiff, Nat.reducePow, Nat.reduceLT, Int.reduceLE, Int.reduceLT, Int.reduceNe, Int.reduceEq, Int.reduceAdd, Int.reduceSub, Int.reduceMul, Int.reduceNeg, Int.reduceToNat, Int.reducePow, String.reduceEq, String.reduceBEq, String.reduceBNe, Int.reduceFMod, Int.reduceFDiv, Int.reduceNegSucc, Int.reduceAbs, h5]
  refine ⟨b, rfl, hb, fun z b1 hb1 z0 z1 => ?_⟩
  simp (maxSteps := 4000000) (implicitDefEqProofs := false) only [RB, r_popAt, entry, entryL, outs, slotL, knownTy, isB, D.tyn, D.isNon, D.flat, D.feq, D.scalar, decide_true, decide_false, reduceIte, reduceCtorEq, Nat.reduceAdd, Nat.reduceSub, Nat.reduceMul, Nat.reduceLeDiff, Nat.reduceEqDiff, Nat.reducePow, Nat.reduceLT, Int.reduceLE, Int.reduceLT, Int.reduceNe, Int.reduceEq, Int.reduceAdd, Int.reduceSub, Int.reduceMul, Int.reduceNeg, Int.reduceToNat, Int.reducePow, String.reduceEq, String.reduceBEq, String.reduceBNe, Int.reduceFMod, Int.reduceFDiv, Int.reduceNegSucc, Int.reduceAbs]
  refine ⟨b1, [.int dr.length, .int (-1), .int z], rfl, hb1, by simp, by simp, fun d b2 _ hd2 hb2 => ?_⟩
  have hd3 : ∃ s : Int, d = .int s ∧ (s < 0 ∨ (dr.length : Int) ≤ s) := by
    simp only [List.mem_cons, List.not_mem_nil, or_false] at hd2
    rcases hd2 with rfl | rfl | rfl
    · exact ⟨_, rfl, by omega⟩
    · exact ⟨_, rfl, by omega⟩
    · exact ⟨_, rfl, by omega⟩
  obtain ⟨s, rfl, hss⟩ := hd3
  simp (maxSteps := 4000000) (implicitDefEqProofs := false) only [RB, r_popAt, entry, entryL, outs, slotL, knownTy, isB, D.tyn, D.isNon, D.flat, D.feq, D.scalar, decide_true, decide_false, reduceIte, reduceCtorEq, Nat.reduceAdd, Nat.reduceSub, Nat.reduceMul, Nat.reduceLeDiff, Nat.reduceEqDiff, Nat.reducePow, Nat.reduceLT, Int.reduceLE, Int.reduceLT, Int.reduceNe, Int.reduceEq, Int.reduceAdd, Int.reduceSub, Int.reduceMul, Int.reduceNeg, Int.reduceToNat, Int.reducePow, String.reduceEq, String.reduceBEq, String.reduceBNe, Int.reduceFMod, Int.reduceFDiv, Int.reduceNegSucc, Int.reduceAbs, h5]
  refine ⟨dr, gs, some s, rfl, hB, hs, fun _ _ => ?_⟩
  have ew : waysFor dr gs (some s) = [] := waysOf_none hB hss
  rw [ew]
  simp (maxSteps := 4000000) (implicitDefEqProofs := false) only [RB, r_popAt, entry, entryL, outs, slotL, knownTy, isB, D.tyn, D.isNon, D.flat, D.feq, D.scalar, decide_true, decide_false, reduceIte, reduceCtorEq, Nat.reduceAdd, Nat.reduceSub, Nat.reduceMul, Nat.reduceLeDiff, Nat.reduceEqDiff, Nat.reducePow, Nat.reduceLT, Int.reduceLE, Int.reduceLT, Int.reduceNe, Int.reduceEq, Int.reduceAdd, Int.reduceSub, Int.reduceMul, Int.reduceNeg, Int.reduceToNat, Int.reducePow, String.reduceEq, String.reduceBEq, String.reduceBNe, Int.reduceFMod, Int.reduceFDiv, Int.reduceNegSucc, Int.reduceAbs, rwsB]
  refine ⟨cmp_nil, ?_⟩
  rw [eqv_nil]
  simp (maxSteps := 4000000) (implicitDefEqProofs := false) only [RB, r_popAt, entry, entryL, outs, slotL, knownTy, isB, D.tyn, D.isNon, D.flat, D.feq, D.scalar, decide_true, decide_false, reduceIte, reduceCtorEq, Nat.reduceAdd, Nat.reduceSub, Nat.reduceMul, Nat.reduceLeDiff, Nat.reduceEqDiff, Nat.reducePow, Nat.reduceLT, Int.reduceLE, Int.reduceLT, Int.reduceNe, Int.reduceEq, Int.reduceAdd, Int.reduceSub, Int.reduceMul, Int.reduceNeg, Int.reduceToNat, Int.reducePow, String.reduceEq, String.reduceBEq, String.reduceBNe, Int.reduceFMod, Int.reduceFDiv, Int.reduceNegSucc, Int.reduceAbs]
  exact hN _ ⟨_, _, _, _, _, _, _, _, _, _, _, _, hb2, rfl⟩
theorem v_end (C : Addr) {ns : List Int} {kk : L → List L → Prop} (h : ∀ l, kk (.fr (.bl true)) l) : ∀ e, LawE ns e → dsRet (dOp opEq (dCall (cRoads C) [.non] (daCons (dCall (cIdentity C) [] (daCons (dC (.int 2)) daNil)) daNil)) (dLst daNil)) (endsOf [] [.fr (.ro (ns.map D.int))] kk) e := by
  rintro e ⟨b, o2, o3, o4, o5, o6, o7, o8, o9, o10, o11, o12, hb, rfl⟩
  simp (maxSteps := 4000000) (implicitDefEqProofs := false) only [RB, r_popAt, entry, entryL, outs, slotL, knownTy, isB, D.tyn, D.isNon, D.flat, D.feq, D.scalar, decide_true, decide_false, reduceIte, reduceCtorEq, Nat.reduceAdd, Nat.reduceSub, Nat.reduceMul, Nat.reduceLeDiff, Nat.reduceEqDiff, Nat.reducePow, Nat.reduceLT, Int.reduceLE, Int.reduceLT, Int.reduceNe, Int.reduceEq, Int.reduceAdd, Int.reduceSub, Int.reduceMul, Int.reduceNeg, Int.reduceToNat, Int.reducePow, String.reduceEq, String.reduceBEq, String.reduceBNe, Int.reduceFMod, Int.reduceFDiv, Int.reduceNegSucc, Int.reduceAbs]
  refine ⟨2, rfl, by decide, by decide, fun _ => ?_⟩
  simp (maxSteps := 4000000) (implicitDefEqProofs := false) only [RB, r_popAt, entry, entryL, outs, slotL, knownTy, isB, D.tyn, D.isNon, D.flat, D.feq, D.scalar, decide_true, decide_false, reduceIte, reduceCtorEq, Nat.reduceAdd, Nat.reduceSub, Nat.reduceMul, Nat.reduceLeDiff, Nat.reduceEqDiff, Nat.reducePow, Nat.reduceLT, Int.reduceLE, Int.reduceLT, Int.reduceNe, Int.reduceEq, Int.reduceAdd, Int.reduceSub, Int.reduceMul, Int.reduceNeg, Int.reduceToNat, Int.reducePow, String.reduceEq, String.reduceBEq, String.reduceBNe, Int.reduceFMod, Int.reduceFDiv, Int.reduceNegSucc, Int.reduceAbs, mapL_toD]
  refine ⟨zeros 2, nones 2, none, rfl, bij_nones (by decide) (by decide), by decide, fun _ _ => ?_⟩
  have ew : waysFor (zeros 2) (nones 2) none = [] := ways_nones 2
  rw [ew]
  simp (maxSteps := 4000000) (implicitDefEqProofs := false) only [RB, r_popAt, entry, entryL, outs, slotL, knownTy, isB, D.tyn, D.isNon, D.flat, D.feq, D.scalar, decide_true, decide_false, reduceIte, reduceCtorEq, Nat.reduceAdd, Nat.reduceSub, Nat.reduceMul, Nat.reduceLeDiff, Nat.reduceEqDiff, Nat.reducePow, Nat.reduceLT, Int.reduceLE, Int.reduceLT, Int.reduceNe, Int.reduceEq, Int.reduceAdd, Int.reduceSub, Int.reduceMul, Int.reduceNeg, Int.reduceToNat, Int.reducePow, String.reduceEq, String.reduceBEq, String.reduceBNe, Int.reduceFMod, Int.reduceFDiv, Int.reduceNegSucc, Int.reduceAbs, rwsB]
  refine ⟨cmp_nil, ?_⟩
  rw [eqv_nil]
  exact h _
theorem v_law (C : Addr) : ∀ ls kk kx, cTrue ls kk kx → t_law cBag cPull cAny cLRoads (cLawMade C) (cRoads C) (cLike 4) cFar cOf (cIdentity C) (endsOf [] ls kk) (entry [] 13 ls) := by
  rintro _ kk kx ⟨ns, rfl, hl, h⟩
  simp (maxSteps := 4000000) (implicitDefEqProofs := false) only [RB, r_popAt, entry, entryL, outs, slotL, knownTy, isB, D.tyn, D.isNon, D.flat, D.feq, D.scalar, decide_true, decide_false, reduceIte, reduceCtorEq, Nat.reduceAdd, Nat.reduceSub, Nat.reduceMul, Nat.reduceLeDiff, Nat.reduceEqDiff, Nat.reducePow, Nat.reduceLT, Int.reduceLE, Int.reduceLT, Int.reduceNe, Int.reduceEq, Int.reduceAdd, Int.reduceSub, Int.reduceMul, Int.reduceNeg, Int.reduceToNat, Int.reducePow, String.reduceEq, String.reduceBEq, String.reduceBNe, Int.reduceFMod, Int.reduceFDiv, Int.reduceNegSucc, Int.reduceAbs, t_law]
  refine ⟨ns, rfl, hl, fun b _ hb => ?_⟩
  simp (maxSteps := 4000000) (implicitDefEqProofs := false) only [RB, r_popAt, entry, entryL, outs, slotL, knownTy, isB, D.tyn, D.isNon, D.flat, D.feq, D.scalar, decide_true, decide_false, reduceIte, reduceCtorEq, Nat.reduceAdd, Nat.reduceSub, Nat.reduceMul, Nat.reduceLeDiff, Nat.reduceEqDiff, Nat.reducePow, Nat.reduceLT, Int.reduceLE, Int.reduceLT, Int.reduceNe, Int.reduceEq, Int.reduceAdd, Int.reduceSub, Int.reduceMul, Int.reduceNeg, Int.reduceToNat, Int.reducePow, String.reduceEq, String.reduceBEq, String.reduceBNe, Int.reduceFMod, Int.reduceFDiv, Int.reduceNegSucc, Int.reduceAbs]
  exact forD_ix' (I := fun _ e => LawE ns e) ⟨_, _, _, _, _, _, _, _, _, _, _, _, hb, rfl⟩ (fun i d env hd hI N hN => v_turn C i d env hd hI hN) (fun e he => v_end C h e he)
end FL

namespace FL
open PySem PySem.Spec PyProof.Rows L2 TL
section
variable {P : Program} {w : World} {K : PySem.W.Frag} {mg : Str → Option Value} {base : Heap}
theorem o_is_place (T : Txt K mg) : FnOk P w K mg base (L2.CX P w) 1 T.a_is_place T.fd_is_place ["place", "lanes"] (spD K (cIsPlace)) := b_is_place (k := 0) T  (by intro ls kk kx h; unfold cIsPlace at h; split at h <;> first | rfl | exact h.elim) (v_is_place)
theorem o_need_place (T : Txt K mg) : FnOk P w K mg base (L2.CX P w) 2 T.a_need_place T.fd_need_place ["place", "lanes"] (spD K (cNeedPlace)) := b_need_place (k := 1) T ((o_is_place T).mono (by decide)) (by intro ls kk kx h; unfold cNeedPlace at h; split at h <;> first | rfl | exact h.elim) (v_need_place)
theorem o_need_lanes (T : Txt K mg) : FnOk P w K mg base (L2.CX P w) 1 T.a_need_lanes T.fd_need_lanes ["lanes"] (spD K (cNeedLanes)) := b_need_lanes (k := 0) T  (by intro ls kk kx h; unfold cNeedLanes at h; split at h <;> first | rfl | exact h.elim) (v_need_lanes)
theorem o_least_goals (T : Txt K mg) : FnOk P w K mg base (L2.CX P w) 1 T.a_least_goals T.fd_least_goals ["drifts", "goals"] (spD K (cLeast)) := b_least_goals (k := 0) T  (fun ls kk kx ⟨_, _, _, _, _, _, e, _⟩ => by rw [e]; rfl) (v_least)
theorem o_need_goals (T : Txt K mg) : FnOk P w K mg base (L2.CX P w) 2 T.a_need_goals T.fd_need_goals ["drifts", "goals"] (spD K (cNeedGoals)) := b_need_goals (k := 1) T ((o_is_place T).mono (by decide)) (fun ls kk kx ⟨_, _, _, e, _⟩ => by rw [e]; rfl) (v_need_goals)
theorem o_need_bijection (T : Txt K mg) : FnOk P w K mg base (L2.CX P w) 1 T.a_need_bijection T.fd_need_bijection ["drifts", "goals"] (spD K (cNeedBij)) := b_need_bijection (k := 0) T  (fun ls kk kx ⟨_, _, _, e, _⟩ => by rw [e]; rfl) (v_need_bij)
theorem o_LaneMap_init (T : Txt K mg) : FnOk P w K mg base (L2.CX P w) 3 T.a_LaneMap_init T.fd_LaneMap_init ["self", "drifts", "goals"] (spD K (cInit T.C_LaneMap)) := b_LaneMap_init (k := 2) T ((o_need_lanes T).mono (by decide)) ((o_need_goals T).mono (by decide)) ((o_need_bijection T).mono (by decide)) ((o_least_goals T).mono (by decide)) (fun ls kk kx ⟨_, _, _, _, _, e, _⟩ => by rw [e]; rfl) (v_init T.C_LaneMap)
theorem o_LaneMap_drifts (T : Txt K mg) : FnOk P w K mg base (L2.CX P w) 1 T.a_LaneMap_drifts T.fd_LaneMap_drifts ["self"] (spD K (cDrifts T.C_LaneMap)) := b_LaneMap_drifts (k := 0) T  (fun ls kk kx ⟨_, _, e, _⟩ => by rw [e]; rfl) (v_drifts T.C_LaneMap)
theorem o_LaneMap_bounds (T : Txt K mg) : FnOk P w K mg base (L2.CX P w) 1 T.a_LaneMap_bounds T.fd_LaneMap_bounds ["self"] (spD K (cBounds T.C_LaneMap)) := b_LaneMap_bounds (k := 0) T  (fun ls kk kx ⟨_, _, _, e, _⟩ => by rw [e]; rfl) (v_bounds T.C_LaneMap)
theorem o_LaneMap_goal (T : Txt K mg) : FnOk P w K mg base (L2.CX P w) 3 T.a_LaneMap_goal T.fd_LaneMap_goal ["self", "place"] (spD K (cGoal T.C_LaneMap)) := b_LaneMap_goal (k := 2) T ((o_need_place T).mono (by decide)) (fun ls kk kx ⟨_, _, _, _, _, e, _⟩ => by rw [e]; rfl) (v_goal T.C_LaneMap)
theorem o_identity (T : Txt K mg) : FnOk P w K mg base (L2.CX P w) 5 T.a_identity T.fd_identity ["lanes"] (spD K (cIdentity T.C_LaneMap)) := b_identity (k := 3) T ((o_need_lanes T).mono (by decide)) ((o_LaneMap_init T).mono (by decide)) (fun ls kk kx ⟨_, e, _⟩ => by rw [e]; rfl) (v_identity T.C_LaneMap)
theorem o_road_from (T : Txt K mg) : FnOk P w K mg base (L2.CX P w) 4 T.a_road_from T.fd_road_from ["lane_map", "entry"] (spD K (cRoadFrom T.C_LaneMap)) := b_road_from (k := 3) T ((o_LaneMap_bounds T).mono (by decide)) ((o_LaneMap_drifts T).mono (by decide)) ((o_LaneMap_goal T).mono (by decide)) (fun ls kk kx ⟨_, _, _, _, _, e, _⟩ => by rw [e]; rfl) (v_road_from T.C_LaneMap)
theorem o_cycle_from (T : Txt K mg) : FnOk P w K mg base (L2.CX P w) 4 T.a_cycle_from T.fd_cycle_from ["lane_map", "first"] (spD K (cCycleFrom T.C_LaneMap)) := b_cycle_from (k := 3) T ((o_LaneMap_goal T).mono (by decide)) (fun ls kk kx ⟨_, _, _, _, _, _, e, _⟩ => by rw [e]; rfl) (v_cycle_from T.C_LaneMap)
theorem o_Orbits_seat (T : Txt K mg) : FnOk P w K mg base (L2.CX P w) 1 T.a_Orbits_seat T.fd_Orbits_seat ["self", "kind", "orbits", "orbit"] (spD K (cSeat T.C_Orbits)) := b_Orbits_seat (k := 0) T  (fun ls kk kx ⟨_, _, _, _, _, _, _, _, _, _, e, _⟩ => by rw [e]; rfl) (v_seat T.C_Orbits)
theorem o_Orbits_sit (T : Txt K mg) : FnOk P w K mg base (L2.CX P w) 2 T.a_Orbits_sit T.fd_Orbits_sit ["self", "orbit"] (spD K (cSit T.C_Orbits)) := b_Orbits_sit (k := 1) T ((o_Orbits_seat T).mono (by decide)) (fun ls kk kx ⟨_, _, _, _, _, e, _⟩ => by rw [e]; rfl) (v_sit T.C_Orbits)
theorem o_Orbits_init (T : Txt K mg) : FnOk P w K mg base (L2.CX P w) 5 T.a_Orbits_init T.fd_Orbits_init ["self", "lane_map"] (spD K (cOInit T.C_LaneMap T.C_Orbits)) := b_Orbits_init (k := 4) T ((o_LaneMap_drifts T).mono (by decide)) ((o_LaneMap_bounds T).mono (by decide)) ((o_Orbits_seat T).mono (by decide)) ((o_road_from T).mono (by decide)) ((o_Orbits_sit T).mono (by decide)) ((o_cycle_from T).mono (by decide)) (fun ls kk kx ⟨_, _, e, _⟩ => by rw [e]; rfl) (v_oinit T.C_LaneMap T.C_Orbits)
theorem o_roads (T : Txt K mg) : FnOk P w K mg base (L2.CX P w) 7 T.a_roads T.fd_roads ["lane_map", "lane"] (spD K (cRoads T.C_LaneMap)) := b_roads (k := 5) T ((o_Orbits_init T).mono (by decide)) (fun ls kk kx ⟨_, _, _, e, _⟩ => by rw [e]; rfl) (v_roads T.C_LaneMap T.C_Orbits)
theorem o_law_bag (T : Txt K mg) : FnOk P w K mg base (L2.CX P w) 1 T.a_law_bag T.fd_law_bag ["_law_script"] (spD K (cBag)) := b_law_bag (k := 0) T  (fun ls kk kx ⟨_, e, _⟩ => by rw [e]; rfl) (v_bag)
theorem o_law_pull (T : Txt K mg) : FnOk P w K mg base (L2.CX P w) 1 T.a_law_pull T.fd_law_pull ["_law_bag_here", "_law_size"] (spD K (cPull)) := b_law_pull (k := 0) T  (by intro ls kk kx h; unfold cPull at h; split at h <;> first | rfl | exact h.elim) (v_pull)
theorem o_law_of (T : Txt K mg) : FnOk P w K mg base (L2.CX P w) 2 T.a_law_of T.fd_law_of ["_law_bag_here", "_law_some"] (spD K (cOf)) := b_law_of (k := 1) T ((o_law_pull T).mono (by decide)) (fun ls kk kx ⟨_, _, e, _⟩ => by rw [e]; rfl) (v_of)
theorem o_law_far (T : Txt K mg) : FnOk P w K mg base (L2.CX P w) 3 T.a_law_far T.fd_law_far ["_law_bag_here"] (spD K (cFar)) := b_law_far (k := 2) T ((o_law_of T).mono (by decide)) ((o_law_pull T).mono (by decide)) (fun ls kk kx ⟨_, e, _⟩ => by rw [e]; rfl) (v_far)
theorem o_law_drifts (T : Txt K mg) : FnOk P w K mg base (L2.CX P w) 2 T.a_law_drifts T.fd_law_drifts ["_law_bag_here", "_law_wide", "_law_steps"] (spD K (cDr)) := b_law_drifts (k := 1) T ((o_law_pull T).mono (by decide)) (by intro ls kk kx h; unfold cDr at h; split at h <;> first | rfl | exact h.elim) (v_dr)
theorem o_law_deal (T : Txt K mg) : FnOk P w K mg base (L2.CX P w) 2 T.a_law_deal T.fd_law_deal ["_law_bag_here", "_law_drifts_here", "_law_more"] (spD K (cDeal)) := b_law_deal (k := 1) T ((o_law_pull T).mono (by decide)) (fun ls kk kx ⟨_, _, _, e, _⟩ => by rw [e]; rfl) (v_deal)
theorem o_law_least (T : Txt K mg) : FnOk P w K mg base (L2.CX P w) 1 T.a_law_least T.fd_law_least ["_law_d"] (spD K (cLawLeast)) := b_law_least (k := 0) T  (fun ls kk kx ⟨_, _, e, _⟩ => by rw [e]; rfl) (v_lawleast)
theorem o_law_any (T : Txt K mg) : FnOk P w K mg base (L2.CX P w) 3 T.a_law_any T.fd_law_any ["_law_bag_here", "_law_wide", "_law_steps", "_law_more"] (spD K (cAny)) := b_law_any (k := 2) T ((o_law_drifts T).mono (by decide)) ((o_law_deal T).mono (by decide)) ((o_law_least T).mono (by decide)) (by intro ls kk kx h; unfold cAny at h; split at h <;> first | rfl | exact h.elim) (v_any)
theorem o_law_goal (T : Txt K mg) : FnOk P w K mg base (L2.CX P w) 1 T.a_law_goal T.fd_law_goal ["_law_d", "_law_place"] (spD K (cLGoal)) := b_law_goal (k := 0) T  (fun ls kk kx ⟨_, _, _, e, _⟩ => by rw [e]; rfl) (v_lgoal)
theorem o_law_made (T : Txt K mg) : FnOk P w K mg base (L2.CX P w) 5 T.a_law_made T.fd_law_made ["_law_d"] (spD K (cLawMade T.C_LaneMap)) := b_law_made (k := 3) T ((o_LaneMap_init T).mono (by decide)) (fun ls kk kx ⟨_, _, e, _⟩ => by rw [e]; rfl) (v_lawmade T.C_LaneMap)
theorem l_law_like (n : Nat) : ∀ ls kk kx, cLike n ls kk kx → ls.length = 2 := (fun ls kk kx ⟨_, _, e, _⟩ => by rw [e]; rfl)
theorem o_law_like (T : Txt K mg) : ∀ n : Nat, FnOk P w K mg base (L2.CX P w) (1 + n * 1) T.a_law_like T.fd_law_like ["_law_found", "_law_due"] (spD K (cLike n))
  | 0 => b_law_like (k := 0) T ok_no (l_law_like 0) v_like0
  | n + 1 => (b_law_like (k := 1 + n * 1) T (o_law_like T n) (l_law_like (n + 1)) (v_likeS n)).mono (by omega)
theorem o_law_road (T : Txt K mg) : FnOk P w K mg base (L2.CX P w) 2 T.a_law_road T.fd_law_road ["_law_d", "_law_entry"] (spD K (cLRoad)) := b_law_road (k := 1) T ((o_law_goal T).mono (by decide)) (fun ls kk kx ⟨_, _, _, e, _⟩ => by rw [e]; rfl) (v_lroad)
theorem o_law_roads (T : Txt K mg) : FnOk P w K mg base (L2.CX P w) 3 T.a_law_roads T.fd_law_roads ["_law_d"] (spD K (cLRoads)) := b_law_roads (k := 2) T ((o_law_road T).mono (by decide)) (fun ls kk kx ⟨_, _, e, _⟩ => by rw [e]; rfl) (v_lroads)
theorem ok_all (T : Txt K mg) : FnOk P w K mg base (L2.CX P w) 14 T.a_law T.fd_law ["_law_script"] (spD K (cTrue)) := b_law (k := 13) T ((o_law_bag T).mono (by decide)) ((o_law_pull T).mono (by decide)) ((o_law_any T).mono (by decide)) ((o_law_roads T).mono (by decide)) ((o_law_made T).mono (by decide)) ((o_roads T).mono (by decide)) ((o_law_like T 4).mono (by decide)) ((o_law_far T).mono (by decide)) ((o_law_of T).mono (by decide)) ((o_identity T).mono (by decide)) (fun ls kk kx ⟨_, e, _⟩ => by rw [e]; rfl) (v_law T.C_LaneMap)
end
/-! ### what the top has written, the end -/
theorem all_mk {l : PySem.W.OpenLaw} {w : World} {K : PySem.W.Frag} {h : Heap} {mg : Str → Option Value} {fa f_is_place f_need_place f_need_lanes f_least_goals f_need_goals f_need_bijection f_LaneMap_init f_LaneMap_drifts f_LaneMap_bounds f_LaneMap_goal f_identity f_road_from f_cycle_from f_Orbits_init f_Orbits_seat f_Orbits_sit f_roads f_law_bag f_law_pull f_law_of f_law_far f_law_drifts f_law_deal f_law_any f_law_least f_law_goal f_law_made f_law_like f_law_road f_law_roads f_law C_LaneMap C_Orbits dT_LaneMap_init dE_LaneMap_init dK_roads : Addr} (X : K.In h) (G : h.Ns mainGlobals mg) (hfa : mg "law" = some (.ref fa))
    {od_is_place an_is_place od_need_place an_need_place od_need_lanes an_need_lanes od_least_goals an_least_goals od_need_goals an_need_goals od_need_bijection an_need_bijection od_LaneMap_init an_LaneMap_init od_LaneMap_drifts an_LaneMap_drifts od_LaneMap_bounds an_LaneMap_bounds od_LaneMap_goal an_LaneMap_goal od_identity an_identity od_road_from an_road_from od_cycle_from an_cycle_from od_Orbits_init an_Orbits_init od_Orbits_seat an_Orbits_seat od_Orbits_sit an_Orbits_sit od_roads an_roads od_law_bag an_law_bag od_law_pull an_law_pull od_law_of an_law_of od_law_far an_law_far od_law_drifts an_law_drifts od_law_deal an_law_deal od_law_any an_law_any od_law_least an_law_least od_law_goal an_law_goal od_law_made an_law_made od_law_like an_law_like od_law_road an_law_road od_law_roads an_law_roads od_law an_law : Option Addr} {sl_is_place sl_need_place sl_need_lanes sl_least_goals sl_need_goals sl_need_bijection sl_LaneMap_init sl_LaneMap_drifts sl_LaneMap_bounds sl_LaneMap_goal sl_identity sl_road_from sl_cycle_from sl_Orbits_init sl_Orbits_seat sl_Orbits_sit sl_roads sl_law_bag sl_law_pull sl_law_of sl_law_far sl_law_drifts sl_law_deal sl_law_any sl_law_least sl_law_goal sl_law_made sl_law_like sl_law_road sl_law_roads sl_law : Array (Option Value)} {oc_is_place dc_is_place pm_is_place cd_is_place ct_is_place kV_is_place oc_need_place dc_need_place pm_need_place cd_need_place ct_need_place kV_need_place oc_need_lanes dc_need_lanes pm_need_lanes cd_need_lanes ct_need_lanes kV_need_lanes oc_least_goals dc_least_goals pm_least_goals cd_least_goals ct_least_goals kV_least_goals oc_need_goals dc_need_goals pm_need_goals cd_need_goals ct_need_goals kV_need_goals oc_need_bijection dc_need_bijection pm_need_bijection cd_need_bijection ct_need_bijection kV_need_bijection oc_LaneMap_init dc_LaneMap_init pm_LaneMap_init cd_LaneMap_init ct_LaneMap_init kV_LaneMap_init oc_LaneMap_drifts dc_LaneMap_drifts pm_LaneMap_drifts cd_LaneMap_drifts ct_LaneMap_drifts kV_LaneMap_drifts oc_LaneMap_bounds dc_LaneMap_bounds pm_LaneMap_bounds cd_LaneMap_bounds ct_LaneMap_bounds kV_LaneMap_bounds oc_LaneMap_goal dc_LaneMap_goal pm_LaneMap_goal cd_LaneMap_goal ct_LaneMap_goal kV_LaneMap_goal oc_identity dc_identity pm_identity cd_identity ct_identity kV_identity oc_road_from dc_road_from pm_road_from cd_road_from ct_road_from kV_road_from oc_cycle_from dc_cycle_from pm_cycle_from cd_cycle_from ct_cycle_from kV_cycle_from oc_Orbits_init dc_Orbits_init pm_Orbits_init cd_Orbits_init ct_Orbits_init kV_Orbits_init oc_Orbits_seat dc_Orbits_seat pm_Orbits_seat cd_Orbits_seat ct_Orbits_seat kV_Orbits_seat oc_Orbits_sit dc_Orbits_sit pm_Orbits_sit cd_Orbits_sit ct_Orbits_sit kV_Orbits_sit oc_roads dc_roads pm_roads cd_roads ct_roads oc_law_bag dc_law_bag pm_law_bag cd_law_bag ct_law_bag kV_law_bag oc_law_pull dc_law_pull pm_law_pull cd_law_pull ct_law_pull kV_law_pull oc_law_of dc_law_of pm_law_of cd_law_of ct_law_of kV_law_of oc_law_far dc_law_far pm_law_far cd_law_far ct_law_far kV_law_far oc_law_drifts dc_law_drifts pm_law_drifts cd_law_drifts ct_law_drifts kV_law_drifts oc_law_deal dc_law_deal pm_law_deal cd_law_deal ct_law_deal kV_law_deal oc_law_any dc_law_any pm_law_any cd_law_any ct_law_any kV_law_any oc_law_least dc_law_least pm_law_least cd_law_least ct_law_least kV_law_least oc_law_goal dc_law_goal pm_law_goal cd_law_goal ct_law_goal kV_law_goal oc_law_made dc_law_made pm_law_made cd_law_made ct_law_made kV_law_made oc_law_like dc_law_like pm_law_like cd_law_like ct_law_like kV_law_like oc_law_road dc_law_road pm_law_road cd_law_road ct_law_road kV_law_road oc_law_roads dc_law_roads pm_law_roads cd_law_roads ct_law_roads kV_law_roads oc_law dc_law pm_law cd_law ct_law kV_law : Value}
    {tk_MOST_GOALS tk_MOST_LANES : Tok}
    {dC_LaneMap_init : Value} {dO_LaneMap_init : Option Addr} {dS_LaneMap_init : Array (Option Value)} {dN_LaneMap_init : Nat}
    (aC_LaneMap : PySem.W.nsIn K mainGlobals "LaneMap" = some (some (.ref C_LaneMap))) (pg_LaneMap : PySem.W.plainGet K C_LaneMap Str.empty = true) (hd_LaneMap : PySem.W.hasDictIn K C_LaneMap = true) (po_LaneMap : PySem.W.plainOver K C_LaneMap = true) (sa_LaneMap : PySem.W.findIn K (.ref C_LaneMap) "__setattr__" = some (some (.builtin "object.__setattr__")))
    (aC_Orbits : PySem.W.nsIn K mainGlobals "Orbits" = some (some (.ref C_Orbits))) (pg_Orbits : PySem.W.plainGet K C_Orbits Str.empty = true) (hd_Orbits : PySem.W.hasDictIn K C_Orbits = true) (po_Orbits : PySem.W.plainOver K C_Orbits = true) (sa_Orbits : PySem.W.findIn K (.ref C_Orbits) "__setattr__" = some (some (.builtin "object.__setattr__")))
    (n_LaneMap_inner : PySem.W.findIn K (.ref C_LaneMap) "inner" = some none)
    (n_LaneMap_sources : PySem.W.findIn K (.ref C_LaneMap) "sources" = some none)
    (n_LaneMap_steady : PySem.W.findIn K (.ref C_LaneMap) "steady" = some none)
    (n_Orbits_base : PySem.W.findIn K (.ref C_Orbits) "base" = some none)
    (n_Orbits_cycles : PySem.W.findIn K (.ref C_Orbits) "cycles" = some none)
    (n_Orbits_fixed : PySem.W.findIn K (.ref C_Orbits) "fixed" = some none)
    (n_Orbits_limits : PySem.W.findIn K (.ref C_Orbits) "limits" = some none)
    (n_Orbits_roads : PySem.W.findIn K (.ref C_Orbits) "roads" = some none)
    (n_Orbits_seats : PySem.W.findIn K (.ref C_Orbits) "seats" = some none)
    (n_Orbits_steady : PySem.W.findIn K (.ref C_Orbits) "steady" = some none)
    (a_is_place : PySem.W.nsIn K mainGlobals "is_place" = some (some (.ref f_is_place))) (l_is_place : K.lookup f_is_place = some ⟨oc_is_place, od_is_place, .func (PySem.W.fnOf "is_place" "is_place" (defArgs s_is_place) (defBody s_is_place) (defScope s_is_place) .none kV_is_place dc_is_place pm_is_place an_is_place cd_is_place ct_is_place), sl_is_place⟩) (c_is_place : PySem.W.codeIn K cd_is_place "is_place" = true) (k_is_place : PySem.W.keepIn K (.ref f_is_place) = true)
    (a_need_place : PySem.W.nsIn K mainGlobals "need_place" = some (some (.ref f_need_place))) (l_need_place : K.lookup f_need_place = some ⟨oc_need_place, od_need_place, .func (PySem.W.fnOf "need_place" "need_place" (defArgs s_need_place) (defBody s_need_place) (defScope s_need_place) .none kV_need_place dc_need_place pm_need_place an_need_place cd_need_place ct_need_place), sl_need_place⟩) (c_need_place : PySem.W.codeIn K cd_need_place "need_place" = true) (k_need_place : PySem.W.keepIn K (.ref f_need_place) = true)
    (a_need_lanes : PySem.W.nsIn K mainGlobals "need_lanes" = some (some (.ref f_need_lanes))) (l_need_lanes : K.lookup f_need_lanes = some ⟨oc_need_lanes, od_need_lanes, .func (PySem.W.fnOf "need_lanes" "need_lanes" (defArgs s_need_lanes) (defBody s_need_lanes) (defScope s_need_lanes) .none kV_need_lanes dc_need_lanes pm_need_lanes an_need_lanes cd_need_lanes ct_need_lanes), sl_need_lanes⟩) (c_need_lanes : PySem.W.codeIn K cd_need_lanes "need_lanes" = true) (k_need_lanes : PySem.W.keepIn K (.ref f_need_lanes) = true)
    (a_least_goals : PySem.W.nsIn K mainGlobals "least_goals" = some (some (.ref f_least_goals))) (l_least_goals : K.lookup f_least_goals = some ⟨oc_least_goals, od_least_goals, .func (PySem.W.fnOf "least_goals" "least_goals" (defArgs s_least_goals) (defBody s_least_goals) (defScope s_least_goals) .none kV_least_goals dc_least_goals pm_least_goals an_least_goals cd_least_goals ct_least_goals), sl_least_goals⟩) (c_least_goals : PySem.W.codeIn K cd_least_goals "least_goals" = true) (k_least_goals : PySem.W.keepIn K (.ref f_least_goals) = true)
    (a_need_goals : PySem.W.nsIn K mainGlobals "need_goals" = some (some (.ref f_need_goals))) (l_need_goals : K.lookup f_need_goals = some ⟨oc_need_goals, od_need_goals, .func (PySem.W.fnOf "need_goals" "need_goals" (defArgs s_need_goals) (defBody s_need_goals) (defScope s_need_goals) .none kV_need_goals dc_need_goals pm_need_goals an_need_goals cd_need_goals ct_need_goals), sl_need_goals⟩) (c_need_goals : PySem.W.codeIn K cd_need_goals "need_goals" = true) (k_need_goals : PySem.W.keepIn K (.ref f_need_goals) = true)
    (a_need_bijection : PySem.W.nsIn K mainGlobals "need_bijection" = some (some (.ref f_need_bijection))) (l_need_bijection : K.lookup f_need_bijection = some ⟨oc_need_bijection, od_need_bijection, .func (PySem.W.fnOf "need_bijection" "need_bijection" (defArgs s_need_bijection) (defBody s_need_bijection) (defScope s_need_bijection) .none kV_need_bijection dc_need_bijection pm_need_bijection an_need_bijection cd_need_bijection ct_need_bijection), sl_need_bijection⟩) (c_need_bijection : PySem.W.codeIn K cd_need_bijection "need_bijection" = true) (k_need_bijection : PySem.W.keepIn K (.ref f_need_bijection) = true)
    (a_LaneMap_init : PySem.W.findIn K (.ref C_LaneMap) "__init__" = some (some (.ref f_LaneMap_init))) (i_LaneMap_init : PySem.W.isFn K (.ref f_LaneMap_init) = true) (l_LaneMap_init : K.lookup f_LaneMap_init = some ⟨oc_LaneMap_init, od_LaneMap_init, .func (PySem.W.fnOf "__init__" "LaneMap.__init__" (defArgs s_LaneMap_init) (defBody s_LaneMap_init) (defScope s_LaneMap_init) (.ref dT_LaneMap_init) kV_LaneMap_init dc_LaneMap_init pm_LaneMap_init an_LaneMap_init cd_LaneMap_init ct_LaneMap_init), sl_LaneMap_init⟩) (c_LaneMap_init : PySem.W.codeIn K cd_LaneMap_init "LaneMap.__init__" = true) (k_LaneMap_init : PySem.W.keepIn K (.ref f_LaneMap_init) = true)
    (d_LaneMap_init : K.lookup dT_LaneMap_init = some ⟨dC_LaneMap_init, dO_LaneMap_init, .seq #[.ref dE_LaneMap_init] dN_LaneMap_init, dS_LaneMap_init⟩)
    {tO_LaneMap_init : Option Addr} {tS_LaneMap_init : Array (Option Value)} {tN_LaneMap_init : Nat} (t_LaneMap_init : K.lookup dE_LaneMap_init = some ⟨.type "tuple", tO_LaneMap_init, .seq #[] tN_LaneMap_init, tS_LaneMap_init⟩)
    (a_LaneMap_drifts : PySem.W.findIn K (.ref C_LaneMap) "drifts" = some (some (.ref f_LaneMap_drifts))) (i_LaneMap_drifts : PySem.W.isFn K (.ref f_LaneMap_drifts) = true) (l_LaneMap_drifts : K.lookup f_LaneMap_drifts = some ⟨oc_LaneMap_drifts, od_LaneMap_drifts, .func (PySem.W.fnOf "drifts" "LaneMap.drifts" (defArgs s_LaneMap_drifts) (defBody s_LaneMap_drifts) (defScope s_LaneMap_drifts) .none kV_LaneMap_drifts dc_LaneMap_drifts pm_LaneMap_drifts an_LaneMap_drifts cd_LaneMap_drifts ct_LaneMap_drifts), sl_LaneMap_drifts⟩) (c_LaneMap_drifts : PySem.W.codeIn K cd_LaneMap_drifts "LaneMap.drifts" = true) (k_LaneMap_drifts : PySem.W.keepIn K (.ref f_LaneMap_drifts) = true)
    (a_LaneMap_bounds : PySem.W.findIn K (.ref C_LaneMap) "bounds" = some (some (.ref f_LaneMap_bounds))) (i_LaneMap_bounds : PySem.W.isFn K (.ref f_LaneMap_bounds) = true) (l_LaneMap_bounds : K.lookup f_LaneMap_bounds = some ⟨oc_LaneMap_bounds, od_LaneMap_bounds, .func (PySem.W.fnOf "bounds" "LaneMap.bounds" (defArgs s_LaneMap_bounds) (defBody s_LaneMap_bounds) (defScope s_LaneMap_bounds) .none kV_LaneMap_bounds dc_LaneMap_bounds pm_LaneMap_bounds an_LaneMap_bounds cd_LaneMap_bounds ct_LaneMap_bounds), sl_LaneMap_bounds⟩) (c_LaneMap_bounds : PySem.W.codeIn K cd_LaneMap_bounds "LaneMap.bounds" = true) (k_LaneMap_bounds : PySem.W.keepIn K (.ref f_LaneMap_bounds) = true)
    (a_LaneMap_goal : PySem.W.findIn K (.ref C_LaneMap) "goal" = some (some (.ref f_LaneMap_goal))) (i_LaneMap_goal : PySem.W.isFn K (.ref f_LaneMap_goal) = true) (l_LaneMap_goal : K.lookup f_LaneMap_goal = some ⟨oc_LaneMap_goal, od_LaneMap_goal, .func (PySem.W.fnOf "goal" "LaneMap.goal" (defArgs s_LaneMap_goal) (defBody s_LaneMap_goal) (defScope s_LaneMap_goal) .none kV_LaneMap_goal dc_LaneMap_goal pm_LaneMap_goal an_LaneMap_goal cd_LaneMap_goal ct_LaneMap_goal), sl_LaneMap_goal⟩) (c_LaneMap_goal : PySem.W.codeIn K cd_LaneMap_goal "LaneMap.goal" = true) (k_LaneMap_goal : PySem.W.keepIn K (.ref f_LaneMap_goal) = true)
    (a_identity : PySem.W.nsIn K mainGlobals "identity" = some (some (.ref f_identity))) (l_identity : K.lookup f_identity = some ⟨oc_identity, od_identity, .func (PySem.W.fnOf "identity" "identity" (defArgs s_identity) (defBody s_identity) (defScope s_identity) .none kV_identity dc_identity pm_identity an_identity cd_identity ct_identity), sl_identity⟩) (c_identity : PySem.W.codeIn K cd_identity "identity" = true) (k_identity : PySem.W.keepIn K (.ref f_identity) = true)
    (a_road_from : PySem.W.nsIn K mainGlobals "road_from" = some (some (.ref f_road_from))) (l_road_from : K.lookup f_road_from = some ⟨oc_road_from, od_road_from, .func (PySem.W.fnOf "road_from" "road_from" (defArgs s_road_from) (defBody s_road_from) (defScope s_road_from) .none kV_road_from dc_road_from pm_road_from an_road_from cd_road_from ct_road_from), sl_road_from⟩) (c_road_from : PySem.W.codeIn K cd_road_from "road_from" = true) (k_road_from : PySem.W.keepIn K (.ref f_road_from) = true)
    (a_cycle_from : PySem.W.nsIn K mainGlobals "cycle_from" = some (some (.ref f_cycle_from))) (l_cycle_from : K.lookup f_cycle_from = some ⟨oc_cycle_from, od_cycle_from, .func (PySem.W.fnOf "cycle_from" "cycle_from" (defArgs s_cycle_from) (defBody s_cycle_from) (defScope s_cycle_from) .none kV_cycle_from dc_cycle_from pm_cycle_from an_cycle_from cd_cycle_from ct_cycle_from), sl_cycle_from⟩) (c_cycle_from : PySem.W.codeIn K cd_cycle_from "cycle_from" = true) (k_cycle_from : PySem.W.keepIn K (.ref f_cycle_from) = true)
    (a_Orbits_init : PySem.W.findIn K (.ref C_Orbits) "__init__" = some (some (.ref f_Orbits_init))) (i_Orbits_init : PySem.W.isFn K (.ref f_Orbits_init) = true) (l_Orbits_init : K.lookup f_Orbits_init = some ⟨oc_Orbits_init, od_Orbits_init, .func (PySem.W.fnOf "__init__" "Orbits.__init__" (defArgs s_Orbits_init) (defBody s_Orbits_init) (defScope s_Orbits_init) .none kV_Orbits_init dc_Orbits_init pm_Orbits_init an_Orbits_init cd_Orbits_init ct_Orbits_init), sl_Orbits_init⟩) (c_Orbits_init : PySem.W.codeIn K cd_Orbits_init "Orbits.__init__" = true) (k_Orbits_init : PySem.W.keepIn K (.ref f_Orbits_init) = true)
    (a_Orbits_seat : PySem.W.findIn K (.ref C_Orbits) "seat" = some (some (.ref f_Orbits_seat))) (i_Orbits_seat : PySem.W.isFn K (.ref f_Orbits_seat) = true) (l_Orbits_seat : K.lookup f_Orbits_seat = some ⟨oc_Orbits_seat, od_Orbits_seat, .func (PySem.W.fnOf "seat" "Orbits.seat" (defArgs s_Orbits_seat) (defBody s_Orbits_seat) (defScope s_Orbits_seat) .none kV_Orbits_seat dc_Orbits_seat pm_Orbits_seat an_Orbits_seat cd_Orbits_seat ct_Orbits_seat), sl_Orbits_seat⟩) (c_Orbits_seat : PySem.W.codeIn K cd_Orbits_seat "Orbits.seat" = true) (k_Orbits_seat : PySem.W.keepIn K (.ref f_Orbits_seat) = true)
    (a_Orbits_sit : PySem.W.findIn K (.ref C_Orbits) "sit" = some (some (.ref f_Orbits_sit))) (i_Orbits_sit : PySem.W.isFn K (.ref f_Orbits_sit) = true) (l_Orbits_sit : K.lookup f_Orbits_sit = some ⟨oc_Orbits_sit, od_Orbits_sit, .func (PySem.W.fnOf "sit" "Orbits.sit" (defArgs s_Orbits_sit) (defBody s_Orbits_sit) (defScope s_Orbits_sit) .none kV_Orbits_sit dc_Orbits_sit pm_Orbits_sit an_Orbits_sit cd_Orbits_sit ct_Orbits_sit), sl_Orbits_sit⟩) (c_Orbits_sit : PySem.W.codeIn K cd_Orbits_sit "Orbits.sit" = true) (k_Orbits_sit : PySem.W.keepIn K (.ref f_Orbits_sit) = true)
    (a_roads : PySem.W.nsIn K mainGlobals "roads" = some (some (.ref f_roads))) (l_roads : K.lookup f_roads = some ⟨oc_roads, od_roads, .func (PySem.W.fnOf "roads" "roads" (defArgs s_roads) (defBody s_roads) (defScope s_roads) .none (.ref dK_roads) dc_roads pm_roads an_roads cd_roads ct_roads), sl_roads⟩) (c_roads : PySem.W.codeIn K cd_roads "roads" = true) (k_roads : PySem.W.keepIn K (.ref f_roads) = true)
    (kd_roads_lane : PySem.W.nsIn K dK_roads "lane" = some (some (.none)))
    (a_law_bag : PySem.W.nsIn K mainGlobals "_law_bag" = some (some (.ref f_law_bag))) (l_law_bag : K.lookup f_law_bag = some ⟨oc_law_bag, od_law_bag, .func (PySem.W.fnOf "_law_bag" "_law_bag" (defArgs s_law_bag) (defBody s_law_bag) (defScope s_law_bag) .none kV_law_bag dc_law_bag pm_law_bag an_law_bag cd_law_bag ct_law_bag), sl_law_bag⟩) (c_law_bag : PySem.W.codeIn K cd_law_bag "_law_bag" = true) (k_law_bag : PySem.W.keepIn K (.ref f_law_bag) = true)
    (a_law_pull : PySem.W.nsIn K mainGlobals "_law_pull" = some (some (.ref f_law_pull))) (l_law_pull : K.lookup f_law_pull = some ⟨oc_law_pull, od_law_pull, .func (PySem.W.fnOf "_law_pull" "_law_pull" (defArgs s_law_pull) (defBody s_law_pull) (defScope s_law_pull) .none kV_law_pull dc_law_pull pm_law_pull an_law_pull cd_law_pull ct_law_pull), sl_law_pull⟩) (c_law_pull : PySem.W.codeIn K cd_law_pull "_law_pull" = true) (k_law_pull : PySem.W.keepIn K (.ref f_law_pull) = true)
    (a_law_of : PySem.W.nsIn K mainGlobals "_law_of" = some (some (.ref f_law_of))) (l_law_of : K.lookup f_law_of = some ⟨oc_law_of, od_law_of, .func (PySem.W.fnOf "_law_of" "_law_of" (defArgs s_law_of) (defBody s_law_of) (defScope s_law_of) .none kV_law_of dc_law_of pm_law_of an_law_of cd_law_of ct_law_of), sl_law_of⟩) (c_law_of : PySem.W.codeIn K cd_law_of "_law_of" = true) (k_law_of : PySem.W.keepIn K (.ref f_law_of) = true)
    (a_law_far : PySem.W.nsIn K mainGlobals "_law_far" = some (some (.ref f_law_far))) (l_law_far : K.lookup f_law_far = some ⟨oc_law_far, od_law_far, .func (PySem.W.fnOf "_law_far" "_law_far" (defArgs s_law_far) (defBody s_law_far) (defScope s_law_far) .none kV_law_far dc_law_far pm_law_far an_law_far cd_law_far ct_law_far), sl_law_far⟩) (c_law_far : PySem.W.codeIn K cd_law_far "_law_far" = true) (k_law_far : PySem.W.keepIn K (.ref f_law_far) = true)
    (a_law_drifts : PySem.W.nsIn K mainGlobals "_law_drifts" = some (some (.ref f_law_drifts))) (l_law_drifts : K.lookup f_law_drifts = some ⟨oc_law_drifts, od_law_drifts, .func (PySem.W.fnOf "_law_drifts" "_law_drifts" (defArgs s_law_drifts) (defBody s_law_drifts) (defScope s_law_drifts) .none kV_law_drifts dc_law_drifts pm_law_drifts an_law_drifts cd_law_drifts ct_law_drifts), sl_law_drifts⟩) (c_law_drifts : PySem.W.codeIn K cd_law_drifts "_law_drifts" = true) (k_law_drifts : PySem.W.keepIn K (.ref f_law_drifts) = true)
    (a_law_deal : PySem.W.nsIn K mainGlobals "_law_deal" = some (some (.ref f_law_deal))) (l_law_deal : K.lookup f_law_deal = some ⟨oc_law_deal, od_law_deal, .func (PySem.W.fnOf "_law_deal" "_law_deal" (defArgs s_law_deal) (defBody s_law_deal) (defScope s_law_deal) .none kV_law_deal dc_law_deal pm_law_deal an_law_deal cd_law_deal ct_law_deal), sl_law_deal⟩) (c_law_deal : PySem.W.codeIn K cd_law_deal "_law_deal" = true) (k_law_deal : PySem.W.keepIn K (.ref f_law_deal) = true)
    (a_law_any : PySem.W.nsIn K mainGlobals "_law_any" = some (some (.ref f_law_any))) (l_law_any : K.lookup f_law_any = some ⟨oc_law_any, od_law_any, .func (PySem.W.fnOf "_law_any" "_law_any" (defArgs s_law_any) (defBody s_law_any) (defScope s_law_any) .none kV_law_any dc_law_any pm_law_any an_law_any cd_law_any ct_law_any), sl_law_any⟩) (c_law_any : PySem.W.codeIn K cd_law_any "_law_any" = true) (k_law_any : PySem.W.keepIn K (.ref f_law_any) = true)
    (a_law_least : PySem.W.nsIn K mainGlobals "_law_least" = some (some (.ref f_law_least))) (l_law_least : K.lookup f_law_least = some ⟨oc_law_least, od_law_least, .func (PySem.W.fnOf "_law_least" "_law_least" (defArgs s_law_least) (defBody s_law_least) (defScope s_law_least) .none kV_law_least dc_law_least pm_law_least an_law_least cd_law_least ct_law_least), sl_law_least⟩) (c_law_least : PySem.W.codeIn K cd_law_least "_law_least" = true) (k_law_least : PySem.W.keepIn K (.ref f_law_least) = true)
    (a_law_goal : PySem.W.nsIn K mainGlobals "_law_goal" = some (some (.ref f_law_goal))) (l_law_goal : K.lookup f_law_goal = some ⟨oc_law_goal, od_law_goal, .func (PySem.W.fnOf "_law_goal" "_law_goal" (defArgs s_law_goal) (defBody s_law_goal) (defScope s_law_goal) .none kV_law_goal dc_law_goal pm_law_goal an_law_goal cd_law_goal ct_law_goal), sl_law_goal⟩) (c_law_goal : PySem.W.codeIn K cd_law_goal "_law_goal" = true) (k_law_goal : PySem.W.keepIn K (.ref f_law_goal) = true)
    (a_law_made : PySem.W.nsIn K mainGlobals "_law_made" = some (some (.ref f_law_made))) (l_law_made : K.lookup f_law_made = some ⟨oc_law_made, od_law_made, .func (PySem.W.fnOf "_law_made" "_law_made" (defArgs s_law_made) (defBody s_law_made) (defScope s_law_made) .none kV_law_made dc_law_made pm_law_made an_law_made cd_law_made ct_law_made), sl_law_made⟩) (c_law_made : PySem.W.codeIn K cd_law_made "_law_made" = true) (k_law_made : PySem.W.keepIn K (.ref f_law_made) = true)
    (a_law_like : PySem.W.nsIn K mainGlobals "_law_like" = some (some (.ref f_law_like))) (l_law_like : K.lookup f_law_like = some ⟨oc_law_like, od_law_like, .func (PySem.W.fnOf "_law_like" "_law_like" (defArgs s_law_like) (defBody s_law_like) (defScope s_law_like) .none kV_law_like dc_law_like pm_law_like an_law_like cd_law_like ct_law_like), sl_law_like⟩) (c_law_like : PySem.W.codeIn K cd_law_like "_law_like" = true) (k_law_like : PySem.W.keepIn K (.ref f_law_like) = true)
    (a_law_road : PySem.W.nsIn K mainGlobals "_law_road" = some (some (.ref f_law_road))) (l_law_road : K.lookup f_law_road = some ⟨oc_law_road, od_law_road, .func (PySem.W.fnOf "_law_road" "_law_road" (defArgs s_law_road) (defBody s_law_road) (defScope s_law_road) .none kV_law_road dc_law_road pm_law_road an_law_road cd_law_road ct_law_road), sl_law_road⟩) (c_law_road : PySem.W.codeIn K cd_law_road "_law_road" = true) (k_law_road : PySem.W.keepIn K (.ref f_law_road) = true)
    (a_law_roads : PySem.W.nsIn K mainGlobals "_law_roads" = some (some (.ref f_law_roads))) (l_law_roads : K.lookup f_law_roads = some ⟨oc_law_roads, od_law_roads, .func (PySem.W.fnOf "_law_roads" "_law_roads" (defArgs s_law_roads) (defBody s_law_roads) (defScope s_law_roads) .none kV_law_roads dc_law_roads pm_law_roads an_law_roads cd_law_roads ct_law_roads), sl_law_roads⟩) (c_law_roads : PySem.W.codeIn K cd_law_roads "_law_roads" = true) (k_law_roads : PySem.W.keepIn K (.ref f_law_roads) = true)
    (a_law : PySem.W.nsIn K mainGlobals "law" = some (some (.ref f_law))) (l_law : K.lookup f_law = some ⟨oc_law, od_law, .func (PySem.W.fnOf "law" "law" (defArgs s_law) (defBody s_law) (defScope s_law) .none kV_law dc_law pm_law an_law cd_law ct_law), sl_law⟩) (c_law : PySem.W.codeIn K cd_law "law" = true) (k_law : PySem.W.keepIn K (.ref f_law) = true)
    (mk_LaneMap : PySem.W.makesIn K C_LaneMap = true) (kc_LaneMap : PySem.W.keepIn K (.ref C_LaneMap) = true)
    (mk_Orbits : PySem.W.makesIn K C_Orbits = true) (kc_Orbits : PySem.W.keepIn K (.ref C_Orbits) = true)
    (z_all : PySem.W.nsIn K mainGlobals "all" = some none)
    (z_bool : PySem.W.nsIn K mainGlobals "bool" = some none)
    (z_enumerate : PySem.W.nsIn K mainGlobals "enumerate" = some none)
    (z_int : PySem.W.nsIn K mainGlobals "int" = some none)
    (z_isinstance : PySem.W.nsIn K mainGlobals "isinstance" = some none)
    (z_len : PySem.W.nsIn K mainGlobals "len" = some none)
    (z_list : PySem.W.nsIn K mainGlobals "list" = some none)
    (z_max : PySem.W.nsIn K mainGlobals "max" = some none)
    (z_range : PySem.W.nsIn K mainGlobals "range" = some none)
    (z_sorted : PySem.W.nsIn K mainGlobals "sorted" = some none)
    (z_str : PySem.W.nsIn K mainGlobals "str" = some none)
    (z_sum : PySem.W.nsIn K mainGlobals "sum" = some none)
    (z_tuple : PySem.W.nsIn K mainGlobals "tuple" = some none)
    (m_MOST_GOALS : PySem.W.nsIn K mainGlobals "MOST_GOALS" = some (some (.int 2000 tk_MOST_GOALS)))
    (m_MOST_LANES : PySem.W.nsIn K mainGlobals "MOST_LANES" = some (some (.int 6 tk_MOST_LANES)))
    : ∃ fd : FuncData, (∀ (s : Shared) (v : Value), BindsTo s fd ⟨[v], []⟩ [("_law_script", v)]) ∧ ∀ base : Heap, K.In base → base.Ns mainGlobals mg → FnOk l.prog w K mg base (L2.CX l.prog w) 14 fa fd ["_law_script"] (spLaw K) := by
  have e := hfa.symm.trans (PySem.W.mg_of X G a_law)
  cases e
  refine ⟨_, fun s v => .of_eq (fd := PySem.W.fnOf "law" "law" (defArgs s_law) (defBody s_law) (defScope s_law) .none kV_law dc_law pm_law an_law cd_law ct_law) rfl, fun base _ _ => ?_⟩
  have FF_roads : FunD K "roads" "roads" (defArgs s_roads) (defBody s_roads) (defScope s_roads) [] [("lane", .non)] f_roads _ := ⟨⟨_, _, _, _, _, _, _, _, _, _, rfl, l_roads, c_roads, .inl ⟨rfl, rfl⟩, .inr ⟨_, rfl, fun q hq => by
    have hq := List.mem_singleton.mp hq
    subst hq
    exact ⟨_, kd_roads_lane, rfl⟩⟩⟩, k_roads⟩
  have BB_roads := FunD.binds0 FF_roads (ps := ["lane_map", "lane"]) 1 (by simp) rfl (fun D doc pm an cdv ct us ks h1 h2 => match us, h1, ks, h2 with | [_], _, [_], _ => ⟨_, _, _, _, _, _, rfl, rfl, rfl⟩)
  have KB_roads_0 : KBn K (PySem.W.fnOf "roads" "roads" (defArgs s_roads) (defBody s_roads) (defScope s_roads) .none (.ref dK_roads) dc_roads pm_roads an_roads cd_roads ct_roads) ["lane_map", "lane"] 1 ["lane"] (fun us ws => us ++ ws) (fun vs zs => vs ++ zs) := by
    obtain ⟨_, hb⟩ := FunD.kbinds0 FF_roads (ps := ["lane_map", "lane"]) 1 ["lane"] [] (fun us _ ws => us ++ ws) (by simp) (by simp) (fun r1 _ r3 => r1.append r3) (fun D doc pm an cdv ct us mv ws h1 h2 h3 => match us, h1, ws, h3 with | [_], _, [_], _ => rfl)
    exact hb
  have KB_roads_1 : KBn K (PySem.W.fnOf "roads" "roads" (defArgs s_roads) (defBody s_roads) (defScope s_roads) .none (.ref dK_roads) dc_roads pm_roads an_roads cd_roads ct_roads) ["lane_map", "lane"] 0 ["lane_map", "lane"] (fun us ws => us ++ ws) (fun vs zs => vs ++ zs) := by
    obtain ⟨_, hb⟩ := FunD.kbinds0 FF_roads (ps := ["lane_map", "lane"]) 0 ["lane_map", "lane"] [] (fun us _ ws => us ++ ws) (by simp) (by simp) (fun r1 _ r3 => r1.append r3) (fun D doc pm an cdv ct us mv ws h1 h2 h3 => match us, h1, ws, h3 with | [], _, [_, _], _ => rfl)
    exact hb
  let T : Txt K mg := {
    C_LaneMap := C_LaneMap, g_LaneMap := PySem.W.mg_of X G aC_LaneMap, cl_LaneMap := ⟨pg_LaneMap, hd_LaneMap, po_LaneMap, sa_LaneMap⟩
    C_Orbits := C_Orbits, g_Orbits := PySem.W.mg_of X G aC_Orbits, cl_Orbits := ⟨pg_Orbits, hd_Orbits, po_Orbits, sa_Orbits⟩
    n_LaneMap_inner := n_LaneMap_inner
    n_LaneMap_sources := n_LaneMap_sources
    n_LaneMap_steady := n_LaneMap_steady
    n_Orbits_base := n_Orbits_base
    n_Orbits_cycles := n_Orbits_cycles
    n_Orbits_fixed := n_Orbits_fixed
    n_Orbits_limits := n_Orbits_limits
    n_Orbits_roads := n_Orbits_roads
    n_Orbits_seats := n_Orbits_seats
    n_Orbits_steady := n_Orbits_steady
    a_is_place := f_is_place, fd_is_place := _, F_is_place := fun_mk (st := s_is_place) l_is_place c_is_place k_is_place
    b_is_place := (fun_mk (st := s_is_place) l_is_place c_is_place k_is_place).binds (ps := ["place", "lanes"]) fun _ _ _ _ _ _ us hl => match us, hl with | [_, _], _ => rfl
    m_is_place := PySem.W.mg_of X G a_is_place
    a_need_place := f_need_place, fd_need_place := _, F_need_place := fun_mk (st := s_need_place) l_need_place c_need_place k_need_place
    b_need_place := (fun_mk (st := s_need_place) l_need_place c_need_place k_need_place).binds (ps := ["place", "lanes"]) fun _ _ _ _ _ _ us hl => match us, hl with | [_, _], _ => rfl
    m_need_place := PySem.W.mg_of X G a_need_place
    a_need_lanes := f_need_lanes, fd_need_lanes := _, F_need_lanes := fun_mk (st := s_need_lanes) l_need_lanes c_need_lanes k_need_lanes
    b_need_lanes := (fun_mk (st := s_need_lanes) l_need_lanes c_need_lanes k_need_lanes).binds (ps := ["lanes"]) fun _ _ _ _ _ _ us hl => match us, hl with | [_], _ => rfl
    m_need_lanes := PySem.W.mg_of X G a_need_lanes
    a_least_goals := f_least_goals, fd_least_goals := _, F_least_goals := fun_mk (st := s_least_goals) l_least_goals c_least_goals k_least_goals
    b_least_goals := (fun_mk (st := s_least_goals) l_least_goals c_least_goals k_least_goals).binds (ps := ["drifts", "goals"]) fun _ _ _ _ _ _ us hl => match us, hl with | [_, _], _ => rfl
    m_least_goals := PySem.W.mg_of X G a_least_goals
    a_need_goals := f_need_goals, fd_need_goals := _, F_need_goals := fun_mk (st := s_need_goals) l_need_goals c_need_goals k_need_goals
    b_need_goals := (fun_mk (st := s_need_goals) l_need_goals c_need_goals k_need_goals).binds (ps := ["drifts", "goals"]) fun _ _ _ _ _ _ us hl => match us, hl with | [_, _], _ => rfl
    m_need_goals := PySem.W.mg_of X G a_need_goals
    a_need_bijection := f_need_bijection, fd_need_bijection := _, F_need_bijection := fun_mk (st := s_need_bijection) l_need_bijection c_need_bijection k_need_bijection
    b_need_bijection := (fun_mk (st := s_need_bijection) l_need_bijection c_need_bijection k_need_bijection).binds (ps := ["drifts", "goals"]) fun _ _ _ _ _ _ us hl => match us, hl with | [_, _], _ => rfl
    m_need_bijection := PySem.W.mg_of X G a_need_bijection
    a_LaneMap_init := f_LaneMap_init, fd_LaneMap_init := _, e_LaneMap_init := [.ref dE_LaneMap_init], F_LaneMap_init := ⟨⟨_, _, _, _, _, _, _, _, _, _, rfl, l_LaneMap_init, c_LaneMap_init, .inr ⟨by simp, _, _, [.ref dE_LaneMap_init], _, rfl, d_LaneMap_init, rfl, .cons rfl .nil⟩, .inl rfl⟩, k_LaneMap_init⟩
    ds_LaneMap_init := [.ref dE_LaneMap_init], vd_LaneMap_init := .cons rfl .nil, rd_LaneMap_init := .cons (.kt (.inr ⟨_, _, _, t_LaneMap_init, rfl, rfl, by simp, .nil⟩)) .nil
    bd_LaneMap_init := by
      obtain ⟨ds, hv, hb⟩ := FunD.binds1 (K := K) (ps := ["self", "drifts", "goals"]) (dvs := [.ref dE_LaneMap_init]) (kws := []) ⟨⟨_, _, _, _, _, _, _, _, _, _, rfl, l_LaneMap_init, c_LaneMap_init, .inr ⟨by simp, _, _, [.ref dE_LaneMap_init], _, rfl, d_LaneMap_init, rfl, .cons rfl .nil⟩, .inl rfl⟩, k_LaneMap_init⟩ 2 0 (by simp) rfl (fun T kV doc pm an cdv ct us its hu hi => match us, hu, its, hi with | [_, _], _, [_], _ => ⟨_, rfl, rfl⟩)
      cases hv with
      | cons r rr => cases rr; cases r; exact hb
    b_LaneMap_init := by
      obtain ⟨ds, hv, hb⟩ := FunD.binds1 (K := K) (ps := ["self", "drifts", "goals"]) (dvs := [.ref dE_LaneMap_init]) (kws := []) ⟨⟨_, _, _, _, _, _, _, _, _, _, rfl, l_LaneMap_init, c_LaneMap_init, .inr ⟨by simp, _, _, [.ref dE_LaneMap_init], _, rfl, d_LaneMap_init, rfl, .cons rfl .nil⟩, .inl rfl⟩, k_LaneMap_init⟩ 3 1 (by simp) rfl (fun T kV doc pm an cdv ct us its hu hi => match us, hu, its, hi with | [_, _, _], _, [_], _ => ⟨_, rfl, rfl⟩)
      cases hv
      exact hb
    mk_LaneMap := ⟨mk_LaneMap, a_LaneMap_init, i_LaneMap_init, kc_LaneMap⟩
    a_LaneMap_drifts := f_LaneMap_drifts, fd_LaneMap_drifts := _, F_LaneMap_drifts := fun_mk (st := s_LaneMap_drifts) l_LaneMap_drifts c_LaneMap_drifts k_LaneMap_drifts
    b_LaneMap_drifts := (fun_mk (st := s_LaneMap_drifts) l_LaneMap_drifts c_LaneMap_drifts k_LaneMap_drifts).binds (ps := ["self"]) fun _ _ _ _ _ _ us hl => match us, hl with | [_], _ => rfl
    me_LaneMap_drifts := ⟨a_LaneMap_drifts, i_LaneMap_drifts, k_LaneMap_drifts⟩
    a_LaneMap_bounds := f_LaneMap_bounds, fd_LaneMap_bounds := _, F_LaneMap_bounds := fun_mk (st := s_LaneMap_bounds) l_LaneMap_bounds c_LaneMap_bounds k_LaneMap_bounds
    b_LaneMap_bounds := (fun_mk (st := s_LaneMap_bounds) l_LaneMap_bounds c_LaneMap_bounds k_LaneMap_bounds).binds (ps := ["self"]) fun _ _ _ _ _ _ us hl => match us, hl with | [_], _ => rfl
    me_LaneMap_bounds := ⟨a_LaneMap_bounds, i_LaneMap_bounds, k_LaneMap_bounds⟩
    a_LaneMap_goal := f_LaneMap_goal, fd_LaneMap_goal := _, F_LaneMap_goal := fun_mk (st := s_LaneMap_goal) l_LaneMap_goal c_LaneMap_goal k_LaneMap_goal
    b_LaneMap_goal := (fun_mk (st := s_LaneMap_goal) l_LaneMap_goal c_LaneMap_goal k_LaneMap_goal).binds (ps := ["self", "place"]) fun _ _ _ _ _ _ us hl => match us, hl with | [_, _], _ => rfl
    me_LaneMap_goal := ⟨a_LaneMap_goal, i_LaneMap_goal, k_LaneMap_goal⟩
    a_identity := f_identity, fd_identity := _, F_identity := fun_mk (st := s_identity) l_identity c_identity k_identity
    b_identity := (fun_mk (st := s_identity) l_identity c_identity k_identity).binds (ps := ["lanes"]) fun _ _ _ _ _ _ us hl => match us, hl with | [_], _ => rfl
    m_identity := PySem.W.mg_of X G a_identity
    a_road_from := f_road_from, fd_road_from := _, F_road_from := fun_mk (st := s_road_from) l_road_from c_road_from k_road_from
    b_road_from := (fun_mk (st := s_road_from) l_road_from c_road_from k_road_from).binds (ps := ["lane_map", "entry"]) fun _ _ _ _ _ _ us hl => match us, hl with | [_, _], _ => rfl
    m_road_from := PySem.W.mg_of X G a_road_from
    a_cycle_from := f_cycle_from, fd_cycle_from := _, F_cycle_from := fun_mk (st := s_cycle_from) l_cycle_from c_cycle_from k_cycle_from
    b_cycle_from := (fun_mk (st := s_cycle_from) l_cycle_from c_cycle_from k_cycle_from).binds (ps := ["lane_map", "first"]) fun _ _ _ _ _ _ us hl => match us, hl with | [_, _], _ => rfl
    m_cycle_from := PySem.W.mg_of X G a_cycle_from
    a_Orbits_init := f_Orbits_init, fd_Orbits_init := _, F_Orbits_init := fun_mk (st := s_Orbits_init) l_Orbits_init c_Orbits_init k_Orbits_init
    b_Orbits_init := (fun_mk (st := s_Orbits_init) l_Orbits_init c_Orbits_init k_Orbits_init).binds (ps := ["self", "lane_map"]) fun _ _ _ _ _ _ us hl => match us, hl with | [_, _], _ => rfl
    mk_Orbits := ⟨mk_Orbits, a_Orbits_init, i_Orbits_init, kc_Orbits⟩
    a_Orbits_seat := f_Orbits_seat, fd_Orbits_seat := _, F_Orbits_seat := fun_mk (st := s_Orbits_seat) l_Orbits_seat c_Orbits_seat k_Orbits_seat
    b_Orbits_seat := (fun_mk (st := s_Orbits_seat) l_Orbits_seat c_Orbits_seat k_Orbits_seat).binds (ps := ["self", "kind", "orbits", "orbit"]) fun _ _ _ _ _ _ us hl => match us, hl with | [_, _, _, _], _ => rfl
    me_Orbits_seat := ⟨a_Orbits_seat, i_Orbits_seat, k_Orbits_seat⟩
    a_Orbits_sit := f_Orbits_sit, fd_Orbits_sit := _, F_Orbits_sit := fun_mk (st := s_Orbits_sit) l_Orbits_sit c_Orbits_sit k_Orbits_sit
    b_Orbits_sit := (fun_mk (st := s_Orbits_sit) l_Orbits_sit c_Orbits_sit k_Orbits_sit).binds (ps := ["self", "orbit"]) fun _ _ _ _ _ _ us hl => match us, hl with | [_, _], _ => rfl
    me_Orbits_sit := ⟨a_Orbits_sit, i_Orbits_sit, k_Orbits_sit⟩
    a_roads := f_roads, fd_roads := _, F_roads := FF_roads
    ds_roads := Classical.choose BB_roads, bd_roads := (Classical.choose_spec BB_roads).2, vd_roads := (Classical.choose_spec BB_roads).1, rd_roads := .cons .non .nil
    kb_roads_0 := KB_roads_0
    kb_roads_1 := KB_roads_1
    m_roads := PySem.W.mg_of X G a_roads
    a_law_bag := f_law_bag, fd_law_bag := _, F_law_bag := fun_mk (st := s_law_bag) l_law_bag c_law_bag k_law_bag
    b_law_bag := (fun_mk (st := s_law_bag) l_law_bag c_law_bag k_law_bag).binds (ps := ["_law_script"]) fun _ _ _ _ _ _ us hl => match us, hl with | [_], _ => rfl
    m_law_bag := PySem.W.mg_of X G a_law_bag
    a_law_pull := f_law_pull, fd_law_pull := _, F_law_pull := fun_mk (st := s_law_pull) l_law_pull c_law_pull k_law_pull
    b_law_pull := (fun_mk (st := s_law_pull) l_law_pull c_law_pull k_law_pull).binds (ps := ["_law_bag_here", "_law_size"]) fun _ _ _ _ _ _ us hl => match us, hl with | [_, _], _ => rfl
    m_law_pull := PySem.W.mg_of X G a_law_pull
    a_law_of := f_law_of, fd_law_of := _, F_law_of := fun_mk (st := s_law_of) l_law_of c_law_of k_law_of
    b_law_of := (fun_mk (st := s_law_of) l_law_of c_law_of k_law_of).binds (ps := ["_law_bag_here", "_law_some"]) fun _ _ _ _ _ _ us hl => match us, hl with | [_, _], _ => rfl
    m_law_of := PySem.W.mg_of X G a_law_of
    a_law_far := f_law_far, fd_law_far := _, F_law_far := fun_mk (st := s_law_far) l_law_far c_law_far k_law_far
    b_law_far := (fun_mk (st := s_law_far) l_law_far c_law_far k_law_far).binds (ps := ["_law_bag_here"]) fun _ _ _ _ _ _ us hl => match us, hl with | [_], _ => rfl
    m_law_far := PySem.W.mg_of X G a_law_far
    a_law_drifts := f_law_drifts, fd_law_drifts := _, F_law_drifts := fun_mk (st := s_law_drifts) l_law_drifts c_law_drifts k_law_drifts
    b_law_drifts := (fun_mk (st := s_law_drifts) l_law_drifts c_law_drifts k_law_drifts).binds (ps := ["_law_bag_here", "_law_wide", "_law_steps"]) fun _ _ _ _ _ _ us hl => match us, hl with | [_, _, _], _ => rfl
    m_law_drifts := PySem.W.mg_of X G a_law_drifts
    a_law_deal := f_law_deal, fd_law_deal := _, F_law_deal := fun_mk (st := s_law_deal) l_law_deal c_law_deal k_law_deal
    b_law_deal := (fun_mk (st := s_law_deal) l_law_deal c_law_deal k_law_deal).binds (ps := ["_law_bag_here", "_law_drifts_here", "_law_more"]) fun _ _ _ _ _ _ us hl => match us, hl with | [_, _, _], _ => rfl
    m_law_deal := PySem.W.mg_of X G a_law_deal
    a_law_any := f_law_any, fd_law_any := _, F_law_any := fun_mk (st := s_law_any) l_law_any c_law_any k_law_any
    b_law_any := (fun_mk (st := s_law_any) l_law_any c_law_any k_law_any).binds (ps := ["_law_bag_here", "_law_wide", "_law_steps", "_law_more"]) fun _ _ _ _ _ _ us hl => match us, hl with | [_, _, _, _], _ => rfl
    m_law_any := PySem.W.mg_of X G a_law_any
    a_law_least := f_law_least, fd_law_least := _, F_law_least := fun_mk (st := s_law_least) l_law_least c_law_least k_law_least
    b_law_least := (fun_mk (st := s_law_least) l_law_least c_law_least k_law_least).binds (ps := ["_law_d"]) fun _ _ _ _ _ _ us hl => match us, hl with | [_], _ => rfl
    m_law_least := PySem.W.mg_of X G a_law_least
    a_law_goal := f_law_goal, fd_law_goal := _, F_law_goal := fun_mk (st := s_law_goal) l_law_goal c_law_goal k_law_goal
    b_law_goal := (fun_mk (st := s_law_goal) l_law_goal c_law_goal k_law_goal).binds (ps := ["_law_d", "_law_place"]) fun _ _ _ _ _ _ us hl => match us, hl with | [_, _], _ => rfl
    m_law_goal := PySem.W.mg_of X G a_law_goal
    a_law_made := f_law_made, fd_law_made := _, F_law_made := fun_mk (st := s_law_made) l_law_made c_law_made k_law_made
    b_law_made := (fun_mk (st := s_law_made) l_law_made c_law_made k_law_made).binds (ps := ["_law_d"]) fun _ _ _ _ _ _ us hl => match us, hl with | [_], _ => rfl
    m_law_made := PySem.W.mg_of X G a_law_made
    a_law_like := f_law_like, fd_law_like := _, F_law_like := fun_mk (st := s_law_like) l_law_like c_law_like k_law_like
    b_law_like := (fun_mk (st := s_law_like) l_law_like c_law_like k_law_like).binds (ps := ["_law_found", "_law_due"]) fun _ _ _ _ _ _ us hl => match us, hl with | [_, _], _ => rfl
    m_law_like := PySem.W.mg_of X G a_law_like
    a_law_road := f_law_road, fd_law_road := _, F_law_road := fun_mk (st := s_law_road) l_law_road c_law_road k_law_road
    b_law_road := (fun_mk (st := s_law_road) l_law_road c_law_road k_law_road).binds (ps := ["_law_d", "_law_entry"]) fun _ _ _ _ _ _ us hl => match us, hl with | [_, _], _ => rfl
    m_law_road := PySem.W.mg_of X G a_law_road
    a_law_roads := f_law_roads, fd_law_roads := _, F_law_roads := fun_mk (st := s_law_roads) l_law_roads c_law_roads k_law_roads
    b_law_roads := (fun_mk (st := s_law_roads) l_law_roads c_law_roads k_law_roads).binds (ps := ["_law_d"]) fun _ _ _ _ _ _ us hl => match us, hl with | [_], _ => rfl
    m_law_roads := PySem.W.mg_of X G a_law_roads
    a_law := fa, fd_law := _, F_law := fun_mk (st := s_law) l_law c_law k_law
    b_law := (fun_mk (st := s_law) l_law c_law k_law).binds (ps := ["_law_script"]) fun _ _ _ _ _ _ us hl => match us, hl with | [_], _ => rfl
    m_law := PySem.W.mg_of X G a_law
    z_all := PySem.W.mg_none_of X G z_all
    z_bool := PySem.W.mg_none_of X G z_bool
    z_enumerate := PySem.W.mg_none_of X G z_enumerate
    z_int := PySem.W.mg_none_of X G z_int
    z_isinstance := PySem.W.mg_none_of X G z_isinstance
    z_len := PySem.W.mg_none_of X G z_len
    z_list := PySem.W.mg_none_of X G z_list
    z_max := PySem.W.mg_none_of X G z_max
    z_range := PySem.W.mg_none_of X G z_range
    z_sorted := PySem.W.mg_none_of X G z_sorted
    z_str := PySem.W.mg_none_of X G z_str
    z_sum := PySem.W.mg_none_of X G z_sum
    z_tuple := PySem.W.mg_none_of X G z_tuple
    t_MOST_GOALS := tk_MOST_GOALS, m_MOST_GOALS := PySem.W.mg_of X G m_MOST_GOALS
    t_MOST_LANES := tk_MOST_LANES, m_MOST_LANES := PySem.W.mg_of X G m_MOST_LANES
  }
  exact FnOk.imp (ok_all T) law_sp
theorem walk {l : PySem.W.OpenLaw} {q : Program} {loose : List Str} {XP : (Str → Option Value) → Heap → Prop} {YP : World → Heap → Prop} {d : DefRec} {K : Params → PySem.W.Frag} (hn : l.most = some 63) (hdf : d.params.defaults = [])
    (hY : ∀ (w : World) (h : Heap), YP w h → (K w.params).In h)
    (F : ∀ (w : World) (mg : Str → Option Value) (fa : Addr) (h : Heap), (K w.params).In h → h.Ns mainGlobals mg → mg d.name = some (.ref fa) →
      ∃ fd : FuncData, (∀ (s : Shared) (u : Value), BindsTo s fd ⟨[u], []⟩ [("_law_script", u)]) ∧ ∀ base : Heap, (K w.params).In base → base.Ns mainGlobals mg → FnOk l.prog w (K w.params) mg base (L2.CX l.prog w) 14 fa fd ["_law_script"] (spLaw (K w.params))) :
    PySem.W.WalkO q loose XP YP l.row.toRowW d [] (fun f vs => PySem.call f vs) :=
  L2.walk_of (n := 63) (k := 14) (x := "_law_script") (CX := fun w => L2.CX l.prog w) (sp := fun w => spLaw (K w.params)) hn (by decide) hdf ⟨rfl, by decide, by decide⟩ hY F (fun _ _ a ns hl _ hS => ⟨a, ns, rfl, hS, hl, fun _ => rfl⟩) fun _ _ _ _ _ z => law_CX z
end FL

open PySem PySem.W PyProof.Rows in
set_option maxRecDepth 100000 in
set_option maxHeartbeats 0 in
theorem PySem.Challenge.cw_farlanes_k12_roads_holds : PySem.Challenge.rw_farlanes_k12_roads.Holds := by
  w_on; o_law; k_head; (case hw => w_witness2)
  k_fill
  refine FL.walk (l := PySem.Challenge.rw_farlanes_k12_roads) rfl rfl (fun w h Y => PySem.W.kIn_of Y) ?F
  case F =>
    intro w mg fa h KX G hmg
    refine' FL.all_mk KX G hmg ?aC_LaneMap ?pg_LaneMap ?hd_LaneMap ?po_LaneMap ?sa_LaneMap ?aC_Orbits ?pg_Orbits ?hd_Orbits ?po_Orbits ?sa_Orbits ?n_LaneMap_inner ?n_LaneMap_sources ?n_LaneMap_steady ?n_Orbits_base ?n_Orbits_cycles ?n_Orbits_fixed ?n_Orbits_limits ?n_Orbits_roads ?n_Orbits_seats ?n_Orbits_steady ?a_is_place ?l_is_place ?c_is_place ?k_is_place ?a_need_place ?l_need_place ?c_need_place ?k_need_place ?a_need_lanes ?l_need_lanes ?c_need_lanes ?k_need_lanes ?a_least_goals ?l_least_goals ?c_least_goals ?k_least_goals ?a_need_goals ?l_need_goals ?c_need_goals ?k_need_goals ?a_need_bijection ?l_need_bijection ?c_need_bijection ?k_need_bijection ?a_LaneMap_init ?i_LaneMap_init ?l_LaneMap_init ?c_LaneMap_init ?k_LaneMap_init ?d_LaneMap_init ?t_LaneMap_init ?a_LaneMap_drifts ?i_LaneMap_drifts ?l_LaneMap_drifts ?c_LaneMap_drifts ?k_LaneMap_drifts ?a_LaneMap_bounds ?i_LaneMap_bounds ?l_LaneMap_bounds ?c_LaneMap_bounds ?k_LaneMap_bounds ?a_LaneMap_goal ?i_LaneMap_goal ?l_LaneMap_goal ?c_LaneMap_goal ?k_LaneMap_goal ?a_identity ?l_identity ?c_identity ?k_identity ?a_road_from ?l_road_from ?c_road_from ?k_road_from ?a_cycle_from ?l_cycle_from ?c_cycle_from ?k_cycle_from ?a_Orbits_init ?i_Orbits_init ?l_Orbits_init ?c_Orbits_init ?k_Orbits_init ?a_Orbits_seat ?i_Orbits_seat ?l_Orbits_seat ?c_Orbits_seat ?k_Orbits_seat ?a_Orbits_sit ?i_Orbits_sit ?l_Orbits_sit ?c_Orbits_sit ?k_Orbits_sit ?a_roads ?kd_roads_lane ?l_roads ?c_roads ?k_roads ?a_law_bag ?l_law_bag ?c_law_bag ?k_law_bag ?a_law_pull ?l_law_pull ?c_law_pull ?k_law_pull ?a_law_of ?l_law_of ?c_law_of ?k_law_of ?a_law_far ?l_law_far ?c_law_far ?k_law_far ?a_law_drifts ?l_law_drifts ?c_law_drifts ?k_law_drifts ?a_law_deal ?l_law_deal ?c_law_deal ?k_law_deal ?a_law_any ?l_law_any ?c_law_any ?k_law_any ?a_law_least ?l_law_least ?c_law_least ?k_law_least ?a_law_goal ?l_law_goal ?c_law_goal ?k_law_goal ?a_law_made ?l_law_made ?c_law_made ?k_law_made ?a_law_like ?l_law_like ?c_law_like ?k_law_like ?a_law_road ?l_law_road ?c_law_road ?k_law_road ?a_law_roads ?l_law_roads ?c_law_roads ?k_law_roads ?a_law ?l_law ?c_law ?k_law ?mk_LaneMap ?kc_LaneMap ?mk_Orbits ?kc_Orbits ?z_all ?z_bool ?z_enumerate ?z_int ?z_isinstance ?z_len ?z_list ?z_max ?z_range ?z_sorted ?z_str ?z_sum ?z_tuple ?m_MOST_GOALS ?m_MOST_LANES
    (case aC_LaneMap => k_is)
    (case pg_LaneMap => k_is)
    (case hd_LaneMap => k_is)
    (case po_LaneMap => k_is)
    (case sa_LaneMap => k_is)
    (case aC_Orbits => k_is)
    (case pg_Orbits => k_is)
    (case hd_Orbits => k_is)
    (case po_Orbits => k_is)
    (case sa_Orbits => k_is)
    (case n_LaneMap_inner => k_is)
    (case n_LaneMap_sources => k_is)
    (case n_LaneMap_steady => k_is)
    (case n_Orbits_base => k_is)
    (case n_Orbits_cycles => k_is)
    (case n_Orbits_fixed => k_is)
    (case n_Orbits_limits => k_is)
    (case n_Orbits_roads => k_is)
    (case n_Orbits_seats => k_is)
    (case n_Orbits_steady => k_is)
    (case a_is_place => k_is)
    (case l_is_place => k_is)
    (case c_is_place => k_is)
    (case k_is_place => k_is)
    (case a_need_place => k_is)
    (case l_need_place => k_is)
    (case c_need_place => k_is)
    (case k_need_place => k_is)
    (case a_need_lanes => k_is)
    (case l_need_lanes => k_is)
    (case c_need_lanes => k_is)
    (case k_need_lanes => k_is)
    (case a_least_goals => k_is)
    (case l_least_goals => k_is)
    (case c_least_goals => k_is)
    (case k_least_goals => k_is)
    (case a_need_goals => k_is)
    (case l_need_goals => k_is)
    (case c_need_goals => k_is)
    (case k_need_goals => k_is)
    (case a_need_bijection => k_is)
    (case l_need_bijection => k_is)
    (case c_need_bijection => k_is)
    (case k_need_bijection => k_is)
    (case a_LaneMap_init => k_is)
    (case i_LaneMap_init => k_is)
    (case l_LaneMap_init => k_is)
    (case c_LaneMap_init => k_is)
    (case k_LaneMap_init => k_is)
    (case d_LaneMap_init => k_is)
    (case t_LaneMap_init => k_is)
    (case a_LaneMap_drifts => k_is)
    (case i_LaneMap_drifts => k_is)
    (case l_LaneMap_drifts => k_is)
    (case c_LaneMap_drifts => k_is)
    (case k_LaneMap_drifts => k_is)
    (case a_LaneMap_bounds => k_is)
    (case i_LaneMap_bounds => k_is)
    (case l_LaneMap_bounds => k_is)
    (case c_LaneMap_bounds => k_is)
    (case k_LaneMap_bounds => k_is)
    (case a_LaneMap_goal => k_is)
    (case i_LaneMap_goal => k_is)
    (case l_LaneMap_goal => k_is)
    (case c_LaneMap_goal => k_is)
    (case k_LaneMap_goal => k_is)
    (case a_identity => k_is)
    (case l_identity => k_is)
    (case c_identity => k_is)
    (case k_identity => k_is)
    (case a_road_from => k_is)
    (case l_road_from => k_is)
    (case c_road_from => k_is)
    (case k_road_from => k_is)
    (case a_cycle_from => k_is)
    (case l_cycle_from => k_is)
    (case c_cycle_from => k_is)
    (case k_cycle_from => k_is)
    (case a_Orbits_init => k_is)
    (case i_Orbits_init => k_is)
    (case l_Orbits_init => k_is)
    (case c_Orbits_init => k_is)
    (case k_Orbits_init => k_is)
    (case a_Orbits_seat => k_is)
    (case i_Orbits_seat => k_is)
    (case l_Orbits_seat => k_is)
    (case c_Orbits_seat => k_is)
    (case k_Orbits_seat => k_is)
    (case a_Orbits_sit => k_is)
    (case i_Orbits_sit => k_is)
    (case l_Orbits_sit => k_is)
    (case c_Orbits_sit => k_is)
    (case k_Orbits_sit => k_is)
    (case a_roads => k_is)
    (case kd_roads_lane => k_is)
    (case l_roads => k_is)
    (case c_roads => k_is)
    (case k_roads => k_is)
    (case a_law_bag => k_is)
    (case l_law_bag => k_is)
    (case c_law_bag => k_is)
    (case k_law_bag => k_is)
    (case a_law_pull => k_is)
    (case l_law_pull => k_is)
    (case c_law_pull => k_is)
    (case k_law_pull => k_is)
    (case a_law_of => k_is)
    (case l_law_of => k_is)
    (case c_law_of => k_is)
    (case k_law_of => k_is)
    (case a_law_far => k_is)
    (case l_law_far => k_is)
    (case c_law_far => k_is)
    (case k_law_far => k_is)
    (case a_law_drifts => k_is)
    (case l_law_drifts => k_is)
    (case c_law_drifts => k_is)
    (case k_law_drifts => k_is)
    (case a_law_deal => k_is)
    (case l_law_deal => k_is)
    (case c_law_deal => k_is)
    (case k_law_deal => k_is)
    (case a_law_any => k_is)
    (case l_law_any => k_is)
    (case c_law_any => k_is)
    (case k_law_any => k_is)
    (case a_law_least => k_is)
    (case l_law_least => k_is)
    (case c_law_least => k_is)
    (case k_law_least => k_is)
    (case a_law_goal => k_is)
    (case l_law_goal => k_is)
    (case c_law_goal => k_is)
    (case k_law_goal => k_is)
    (case a_law_made => k_is)
    (case l_law_made => k_is)
    (case c_law_made => k_is)
    (case k_law_made => k_is)
    (case a_law_like => k_is)
    (case l_law_like => k_is)
    (case c_law_like => k_is)
    (case k_law_like => k_is)
    (case a_law_road => k_is)
    (case l_law_road => k_is)
    (case c_law_road => k_is)
    (case k_law_road => k_is)
    (case a_law_roads => k_is)
    (case l_law_roads => k_is)
    (case c_law_roads => k_is)
    (case k_law_roads => k_is)
    (case a_law => k_is)
    (case l_law => k_is)
    (case c_law => k_is)
    (case k_law => k_is)
    (case mk_LaneMap => k_is)
    (case kc_LaneMap => k_is)
    (case mk_Orbits => k_is)
    (case kc_Orbits => k_is)
    (case z_all => k_is)
    (case z_bool => k_is)
    (case z_enumerate => k_is)
    (case z_int => k_is)
    (case z_isinstance => k_is)
    (case z_len => k_is)
    (case z_list => k_is)
    (case z_max => k_is)
    (case z_range => k_is)
    (case z_sorted => k_is)
    (case z_str => k_is)
    (case z_sum => k_is)
    (case z_tuple => k_is)
    (case m_MOST_GOALS => k_is)
    (case m_MOST_LANES => k_is)
