import PyProof.Rows.All
import Wide.All
import OpenK.AllK
import Wide.FinOn
import HandS.ForMost
import HandS.ForExc
import HandS.CallSlots
import HandS.Walk
import KE.KUnpackStar
import HandS.Wide
import HandS.TupAny
import HandS.IsInst
import HandS.WordsDict
import PySem.Challenge.RW_farlanes_k48_programs_of_expressions
set_option Elab.async false
set_option linter.all false
set_option maxRecDepth 100000
set_option maxHeartbeats 8000000
namespace TL
open PySem PySem.Spec PyProof.Rows L2

/-! ### trees -/
inductive Shape where
  | lst
  | dT (ks : List (List Key))
  | dK (ks : List Key)
  | obj (C : Addr) (ns : List Str)
inductive D where
  | non | bl (b : Bool) | int (i : Int) | str (x : Str) | ref (a : Addr) | ty (n : String)
  | tup (ds : List D) | ro (ds : List D)
  | box (s : Shape) (ds : List D)
/-- a value that is held: known for good (fr), or owned with all that is below it -/
inductive L where
  | fr (d : D)
  | box (s : Shape) (ls : List L)
mutual
def L.toD : L → D
  | .fr d => d
  | .box s ls => .box s (L.toDs ls)
def L.toDs : List L → List D
  | [] => []
  | l :: r => l.toD :: L.toDs r
end
abbrev D.lst (ds : List D) : D := .box .lst ds
abbrev L.lst (ls : List L) : L := .box .lst ls
abbrev L.int (i : Int) : L := .fr (.int i)
theorem toDs_map : ∀ ls : List L, L.toDs ls = ls.map L.toD
  | [] => by simp [L.toDs]
  | l :: r => by simp [L.toDs, toDs_map r]
theorem toDs_fr : ∀ ds : List D, L.toDs (ds.map L.fr) = ds
  | [] => by simp [L.toDs]
  | d :: r => by simp [L.toDs, L.toD, toDs_fr r]

def Shape.ok : Shape → Nat → Prop
  | .lst, _ => True
  | .dT ks, n => ks.length = n
  | .dK ks, n => ks.length = n
  | .obj _ ns, n => ns.length = n
def Shape.ho (s : Shape) (dx : Addr) (vs : List V) : HO :=
  match s with
  | .lst => .lst vs
  | .dT ks => .dT (ks.zip vs)
  | .dK ks => .dK (ks.zip vs)
  | .obj C ns => .ins C dx (ns.zip vs)
def Shape.adr (s : Shape) (p dx : Addr) : List Addr :=
  match s with
  | .obj _ _ => [p, dx]
  | _ => [p]
def Shape.own (s : Shape) (H : Hp) (p dx : Addr) : Prop :=
  match s with
  | .obj _ _ => H dx = some (.own p)
  | _ => True
theorem Shape.own_mono {s : Shape} {H H' : Hp} {p dx : Addr} (h : s.own H p dx) (e : ∀ a ∈ s.adr p dx, H' a = H a) : s.own H' p dx := by
  cases s with
  | obj C ns => exact (e dx (by simp [Shape.adr])).trans h
  | _ => trivial
theorem Shape.own_same {s : Shape} {H H' : Hp} {p dx : Addr} (h : s.own H p dx) (e : Same H H') : s.own H' p dx := by
  cases s with
  | obj C ns => exact e _ _ h
  | _ => trivial
theorem Shape.mem_adr {s : Shape} {p dx : Addr} : p ∈ s.adr p dx := by cases s <;> simp [Shape.adr]

/-- a tuple that is tracked, or of the module -/
def TupAt (K : PySem.W.Frag) (F : Hp) (p : Addr) (vs : List V) : Prop :=
  F p = some (.tup vs) ∨ ∃ (o : Obj) (its : Array Value) (n : Nat), K.lookup p = some o ∧ o.cls = .type "tuple" ∧ o.data = .seq its n ∧ its.size ≤ sizeLine ∧ Vals vs its.toList
theorem TupAt.sq {K : PySem.W.Frag} {F : Hp} {p : Addr} {vs : List V} (h : TupAt K F p vs) : SqT K F p vs := h.elim (fun z => .inl (.inl z)) .inr
theorem TupAt.mono {K : PySem.W.Frag} {F F' : Hp} {p : Addr} {vs : List V} (h : TupAt K F p vs) (e : Same F F') : TupAt K F' p vs := h.elim (fun z => .inl (e _ _ z)) .inr
mutual
inductive Rep (K : PySem.W.Frag) (F : Hp) : V → D → Prop
  | non : Rep K F .non .non
  | bl (b : Bool) : Rep K F (.bl b) (.bl b)
  | int (i : Int) : Rep K F (.int i) (.int i)
  | str (x : Str) : Rep K F (.str x) (.str x)
  | ref (a : Addr) : Rep K F (.ref a) (.ref a)
  | ty (n : String) : Rep K F (.ty n) (.ty n)
  | tup {p : Addr} {vs : List V} {ds : List D} : TupAt K F p vs → Reps K F vs ds → Rep K F (.ref p) (.tup ds)
  | ro {p : Addr} {vs : List V} {ds : List D} : SqL K F p vs → Reps K F vs ds → Rep K F (.ref p) (.ro ds)
  | box {p dx : Addr} {s : Shape} {vs : List V} {ds : List D} : F p = some (s.ho dx vs) → s.ok vs.length → s.own F p dx → Reps K F vs ds → Rep K F (.ref p) (.box s ds)
inductive Reps (K : PySem.W.Frag) (F : Hp) : List V → List D → Prop
  | nil : Reps K F [] []
  | cons {v : V} {d : D} {vs : List V} {ds : List D} : Rep K F v d → Reps K F vs ds → Reps K F (v :: vs) (d :: ds)
end

theorem Same.seqT {K : PySem.W.Frag} {H H' : Hp} {a : Addr} {xs : List V} (e : Same H H') (h : SqT K H a xs) : SqT K H' a xs := by
  rcases h with (h | ⟨o, h⟩) | h
  · exact .inl (.inl (e _ _ h))
  · exact .inl (.inr ⟨o, e _ _ h⟩)
  · exact .inr h

section
variable {K : PySem.W.Frag} {F F' : Hp}
mutual
theorem Rep.mono (e : Same F F') : ∀ {v : V} {d : D}, Rep K F v d → Rep K F' v d
  | _, _, .non => .non
  | _, _, .bl b => .bl b
  | _, _, .int i => .int i
  | _, _, .str x => .str x
  | _, _, .ref a => .ref a
  | _, _, .ty a => .ty a
  | _, _, .tup h r => .tup (h.mono e) (Reps.mono e r)
  | _, _, .ro h r => .ro (e.seq h) (Reps.mono e r)
  | _, _, .box h o w r => .box (e _ _ h) o (Shape.own_same w e) (Reps.mono e r)
theorem Reps.mono (e : Same F F') : ∀ {vs : List V} {ds : List D}, Reps K F vs ds → Reps K F' vs ds
  | _, _, .nil => .nil
  | _, _, .cons h r => .cons (Rep.mono e h) (Reps.mono e r)
end
theorem Reps.length : ∀ {vs : List V} {ds : List D}, Reps K F vs ds → vs.length = ds.length
  | _, _, .nil => rfl
  | _, _, .cons _ r => by simp [Reps.length r]
end

mutual
inductive Own (K : PySem.W.Frag) (F H : Hp) : V → L → List Addr → Prop
  | fr {v : V} {d : D} : Rep K F v d → Own K F H v (.fr d) []
  | box {p dx : Addr} {s : Shape} {ls : List L} {As : List Addr} {vs : List V} : H p = some (s.ho dx vs) → s.ok vs.length → s.own H p dx → Owns K F H vs ls As → Own K F H (.ref p) (.box s ls) (s.adr p dx ++ As)
inductive Owns (K : PySem.W.Frag) (F H : Hp) : List V → List L → List Addr → Prop
  | nil : Owns K F H [] [] []
  | cons {v : V} {l : L} {As : List Addr} {vs : List V} {ls : List L} {Bs : List Addr} : Own K F H v l As → Owns K F H vs ls Bs → Owns K F H (v :: vs) (l :: ls) (As ++ Bs)
end
section
variable {K : PySem.W.Frag} {F F' H H' : Hp}
mutual
theorem Own.mono (e : Same F F') : ∀ {v : V} {l : L} {As : List Addr}, Own K F H v l As → (∀ a ∈ As, H' a = H a) → Own K F' H' v l As
  | _, _, _, .fr r, _ => .fr (r.mono e)
  | _, _, _, .box h o w r, k => .box ((k _ (List.mem_append_left _ Shape.mem_adr)).trans h) o (Shape.own_mono w fun a ha => k a (List.mem_append_left _ ha)) (Owns.mono e r fun a ha => k a (List.mem_append_right _ ha))
theorem Owns.mono (e : Same F F') : ∀ {vs : List V} {ls : List L} {As : List Addr}, Owns K F H vs ls As → (∀ a ∈ As, H' a = H a) → Owns K F' H' vs ls As
  | _, _, _, .nil, _ => .nil
  | _, _, _, .cons h r, k => .cons (Own.mono e h fun a ha => k a (List.mem_append_left _ ha)) (Owns.mono e r fun a ha => k a (List.mem_append_right _ ha))
end
mutual
theorem Own.frz (e : Same F F') : ∀ {v : V} {l : L} {As : List Addr}, Own K F H v l As → (∀ a ∈ As, F' a = H a) → Rep K F' v l.toD
  | _, _, _, .fr r, _ => by rw [L.toD]; exact r.mono e
  | _, _, _, .box h o w r, k => by
    rw [L.toD]
    exact .box ((k _ (List.mem_append_left _ Shape.mem_adr)).trans h) o (Shape.own_mono w fun a ha => k a (List.mem_append_left _ ha)) (Owns.frz e r fun a ha => k a (List.mem_append_right _ ha))
theorem Owns.frz (e : Same F F') : ∀ {vs : List V} {ls : List L} {As : List Addr}, Owns K F H vs ls As → (∀ a ∈ As, F' a = H a) → Reps K F' vs (L.toDs ls)
  | _, _, _, .nil, _ => by rw [L.toDs]; exact .nil
  | _, _, _, .cons h r, k => by
    rw [L.toDs]
    exact .cons (Own.frz e h fun a ha => k a (List.mem_append_left _ ha)) (Owns.frz e r fun a ha => k a (List.mem_append_right _ ha))
end
mutual
theorem Own.there : ∀ {v : V} {l : L} {As : List Addr}, Own K F H v l As → ∀ a ∈ As, ∃ o, H a = some o
  | _, _, _, .fr _, a, ha => absurd ha (by simp)
  | _, _, _, .box (s := s) h _ w r, a, ha => by
    rcases List.mem_append.mp ha with ha | ha
    · cases s with
      | obj C ns =>
        simp only [Shape.adr, List.mem_cons, List.not_mem_nil, or_false] at ha
        rcases ha with rfl | rfl
        · exact ⟨_, h⟩
        · exact ⟨_, w⟩
      | lst => simp only [Shape.adr, List.mem_cons, List.not_mem_nil, or_false] at ha; subst ha; exact ⟨_, h⟩
      | dT ks => simp only [Shape.adr, List.mem_cons, List.not_mem_nil, or_false] at ha; subst ha; exact ⟨_, h⟩
      | dK ks => simp only [Shape.adr, List.mem_cons, List.not_mem_nil, or_false] at ha; subst ha; exact ⟨_, h⟩
    · exact Owns.there r a ha
theorem Owns.there : ∀ {vs : List V} {ls : List L} {As : List Addr}, Owns K F H vs ls As → ∀ a ∈ As, ∃ o, H a = some o
  | _, _, _, .nil, a, ha => absurd ha (by simp)
  | _, _, _, .cons h r, a, ha => (List.mem_append.mp ha).elim (Own.there h a) (Owns.there r a)
end
theorem Owns.length : ∀ {vs : List V} {ls : List L} {As : List Addr}, Owns K F H vs ls As → vs.length = ls.length
  | _, _, _, .nil => rfl
  | _, _, _, .cons _ r => by simp [Owns.length r]
theorem Owns.append : ∀ {vs : List V} {ls : List L} {As : List Addr} {ws : List V} {ms : List L} {Bs : List Addr}, Owns K F H vs ls As → Owns K F H ws ms Bs → Owns K F H (vs ++ ws) (ls ++ ms) (As ++ Bs)
  | _, _, _, _, _, _, .nil, s => s
  | _, _, _, _, _, _, .cons h r, s => by
    rw [List.append_assoc]
    exact .cons h (Owns.append r s)
end
end TL

namespace TL
open PySem PySem.Spec PyProof.Rows L2

section
variable {K : PySem.W.Frag} {F F' R H H' : Hp}
theorem Owns.perm {ps qs : List (V × L)} (h : ps.Perm qs) : ∀ {As : List Addr}, Owns K F H (ps.map (·.1)) (ps.map (·.2)) As → ∃ Bs, As.Perm Bs ∧ Owns K F H (qs.map (·.1)) (qs.map (·.2)) Bs := by
  induction h with
  | nil => intro As o; exact ⟨As, .refl _, o⟩
  | cons x _ ih =>
    intro As o
    cases o with
    | cons o1 o2 =>
      obtain ⟨Bs, p, o3⟩ := ih o2
      exact ⟨_, List.Perm.append_left _ p, .cons o1 o3⟩
  | swap x y l =>
    intro As o
    cases o with
    | cons o1 o2 =>
      cases o2 with
      | cons o2 o3 =>
        refine ⟨_, ?_, .cons o2 (.cons o1 o3)⟩
        rw [← List.append_assoc, ← List.append_assoc]
        exact List.Perm.append_right _ List.perm_append_comm
  | trans _ _ ih1 ih2 =>
    intro As o
    obtain ⟨Bs, p, o1⟩ := ih1 o
    obtain ⟨Cs, q, o2⟩ := ih2 o1
    exact ⟨Cs, p.trans q, o2⟩
theorem Owns.split : ∀ {ps qs : List (V × L)} {As : List Addr}, Owns K F H ((ps ++ qs).map (·.1)) ((ps ++ qs).map (·.2)) As → ∃ A1 A2, As = A1 ++ A2 ∧ Owns K F H (ps.map (·.1)) (ps.map (·.2)) A1 ∧ Owns K F H (qs.map (·.1)) (qs.map (·.2)) A2
  | [], qs, As, o => ⟨[], As, rfl, .nil, o⟩
  | p :: ps, qs, _, .cons o1 o2 => by
    obtain ⟨A1, A2, e, a, b⟩ := Owns.split o2
    exact ⟨_, A2, by rw [e, List.append_assoc], .cons o1 a, b⟩
theorem Owns.join {ps qs : List (V × L)} {A1 A2 : List Addr} (a : Owns K F H (ps.map (·.1)) (ps.map (·.2)) A1) (b : Owns K F H (qs.map (·.1)) (qs.map (·.2)) A2) : Owns K F H ((ps ++ qs).map (·.1)) ((ps ++ qs).map (·.2)) (A1 ++ A2) := by
  rw [List.map_append, List.map_append]
  exact a.append b
theorem map_zip1 : ∀ {vs : List V} {ls : List L}, vs.length = ls.length → (vs.zip ls).map (·.1) = vs
  | [], _, _ => by simp
  | v :: vs, [], h => by simp at h
  | v :: vs, l :: ls, h => by simp [map_zip1 (vs := vs) (ls := ls) (by simpa using h)]
theorem map_zip2 : ∀ {vs : List V} {ls : List L}, vs.length = ls.length → (vs.zip ls).map (·.2) = ls
  | [], [], _ => by simp
  | [], l :: ls, h => by simp at h
  | v :: vs, [], h => by simp at h
  | v :: vs, l :: ls, h => by simp [map_zip2 (vs := vs) (ls := ls) (by simpa using h)]
end

/-- F: known for good; R: not to be touched; the ps are owned, with loose addresses Xs -/
structure Hold (K : PySem.W.Frag) (F R H : Hp) (Xs : List Addr) (ps : List (V × L)) : Prop where
  own : ∃ As, Owns K F H (ps.map (·.1)) (ps.map (·.2)) As ∧ (Xs ++ As).Nodup ∧ ∀ a ∈ Xs ++ As, F a = none ∧ R a = none ∧ ∃ o, H a = some o
  dis : ∀ a, R a = none ∨ F a = none
  hF : Same F H
  hR : Same R H

section
variable {K : PySem.W.Frag} {F F' R H H' : Hp} {Xs : List Addr} {ps qs : List (V × L)} {v : V} {l : L} {p dx : Addr} {o : HO}
theorem Hold.perm (h : Hold K F R H Xs ps) (e : ps.Perm qs) : Hold K F R H Xs qs := by
  obtain ⟨As, o, nd, n⟩ := h.own
  obtain ⟨Bs, q, o2⟩ := o.perm e
  have q2 := List.Perm.append_left Xs q
  exact ⟨⟨Bs, o2, q2.nodup_iff.mp nd, fun a ha => n a (q2.symm.subset ha)⟩, h.dis, h.hF, h.hR⟩
theorem Hold.dropN (h : Hold K F R H Xs (ps ++ qs)) : Hold K F R H Xs qs := by
  obtain ⟨As, o, nd, n⟩ := h.own
  obtain ⟨A1, A2, e, o1, o2⟩ := o.split
  subst e
  have sub : ∀ a, a ∈ Xs ++ A2 → a ∈ Xs ++ (A1 ++ A2) := fun a ha => by
    rcases List.mem_append.mp ha with ha | ha
    · exact List.mem_append_left _ ha
    · exact List.mem_append_right _ (List.mem_append_right _ ha)
  refine ⟨⟨A2, o2, ?_, fun a ha => n a (sub a ha)⟩, h.dis, h.hF, h.hR⟩
  refine List.Nodup.sublist ?_ nd
  exact List.Sublist.append (List.Sublist.refl _) (List.sublist_append_right _ _)
theorem Hold.drop {x : V × L} (h : Hold K F R H Xs (x :: ps)) : Hold K F R H Xs ps := Hold.dropN (ps := [x]) h
theorem Hold.takeN (h : Hold K F R H Xs (ps ++ qs)) : Hold K F R H Xs ps := (h.perm List.perm_append_comm).dropN
theorem Hold.head (h : Hold K F R H Xs ((v, .fr d) :: ps)) : Rep K F v d := by
  obtain ⟨As, o, nd, n⟩ := h.own
  cases o with
  | cons o1 o2 => cases o1 with | fr r => exact r
theorem Hold.push {d : D} (h : Hold K F R H Xs ps) (r : Rep K F v d) : Hold K F R H Xs ((v, .fr d) :: ps) := by
  obtain ⟨As, o, nd, n⟩ := h.own
  exact ⟨⟨[] ++ As, .cons (.fr r) o, nd, n⟩, h.dis, h.hF, h.hR⟩
theorem Hold.pushs : ∀ {vs : List V} {ds : List D}, Reps K F vs ds → Hold K F R H Xs ps → Hold K F R H Xs (vs.zip (ds.map L.fr) ++ ps)
  | _, _, .nil, h => h
  | _, _, .cons r rr, h => (Hold.pushs rr h).push r
/-- an object of no one's laid, F and R kept -/
theorem Hold.alloc (h : Hold K F R H Xs ps) (hp : H p = none) : Hold K F R (upd H p o) Xs ps := by
  obtain ⟨As, ow, nd, n⟩ := h.own
  have ne : ∀ a u, H a = some u → a ≠ p := fun a u e z => by rw [z, hp] at e; cases e
  refine ⟨⟨As, ow.mono (Same.refl _) fun a ha => ?_, nd, fun a ha => ?_⟩, h.dis, fun b u e => ?_, fun b u e => ?_⟩
  · obtain ⟨_, _, u, e⟩ := n a (List.mem_append_right _ ha)
    exact upd_ne (ne a u e)
  · obtain ⟨x, y, u, e⟩ := n a ha
    exact ⟨x, y, u, by rw [upd_ne (ne a u e)]; exact e⟩
  · rw [upd_ne (ne _ _ (h.hF _ _ e))]; exact h.hF _ _ e
  · rw [upd_ne (ne _ _ (h.hR _ _ e))]; exact h.hR _ _ e
/-- a new thing known for good -/
theorem Hold.known (h : Hold K F R H Xs ps) (hp : H p = none) : Same F (upd F p o) ∧ Hold K (upd F p o) R (upd H p o) Xs ps := by
  have hFp : F p = none := h.hF.free hp
  have hRp : R p = none := h.hR.free hp
  have s : Same F (upd F p o) := fun b u e => by
    rw [upd_ne (fun z => by rw [z, hFp] at e; cases e)]; exact e
  refine ⟨s, ?_⟩
  obtain ⟨As, ow, nd, n⟩ := h.own
  have ne : ∀ a ∈ Xs ++ As, a ≠ p := fun a ha z => by
    obtain ⟨_, _, u, e⟩ := n a ha
    rw [z, hp] at e
    cases e
  refine ⟨⟨As, ow.mono s fun a ha => upd_ne (ne a (List.mem_append_right _ ha)), nd, fun a ha => ?_⟩, fun a => ?_, fun b u e => ?_, fun b u e => ?_⟩
  · obtain ⟨x, y, u, e⟩ := n a ha
    exact ⟨by rw [upd_ne (ne a ha)]; exact x, y, u, by rw [upd_ne (ne a ha)]; exact e⟩
  · by_cases e : a = p
    · rw [e]; exact .inl hRp
    · rw [upd_ne e]; exact h.dis a
  · by_cases z : b = p
    · rw [z, upd_same] at e ⊢; exact e
    · rw [upd_ne z] at e ⊢; exact h.hF _ _ e
  · have z : b ≠ p := fun z => by rw [z, hRp] at e; cases e
    rw [upd_ne z]; exact h.hR _ _ e
/-- what is held becomes known for good -/
theorem Hold.frz (h : Hold K F R H Xs ((v, l) :: ps)) : ∃ F', Same F F' ∧ Hold K F' R H Xs ((v, .fr l.toD) :: ps) := by
  obtain ⟨As, ow, nd, n⟩ := h.own
  cases ow with
  | @cons _ _ A1 _ _ A2 o1 o2 =>
    have nF : ∀ a, a ∈ A1 → F a = none := fun a ha => (n a (List.mem_append_right _ (List.mem_append_left _ ha))).1
    have s : Same F (fun a => if a ∈ A1 then H a else F a) := fun b u e => by
      show (if b ∈ A1 then H b else F b) = some u
      rw [if_neg (fun z => by rw [nF b z] at e; cases e)]; exact e
    have nd2 : (Xs ++ A2).Nodup := List.Nodup.sublist (List.Sublist.append (List.Sublist.refl _) (List.sublist_append_right _ _)) nd
    have dj : ∀ a, a ∈ Xs ++ A2 → a ∉ A1 := fun a ha hb => by
      rw [← List.append_assoc] at nd
      rw [List.nodup_append] at nd
      obtain ⟨q1, q2, q3⟩ := nd
      rw [List.nodup_append] at q1
      obtain ⟨r1, r2, r3⟩ := q1
      rcases List.mem_append.mp ha with ha | ha
      · exact r3 a ha a hb rfl
      · exact q3 a (List.mem_append_right _ hb) a ha rfl
    refine ⟨fun a => if a ∈ A1 then H a else F a, s, ⟨[] ++ A2, .cons (.fr (o1.frz s fun a ha => if_pos ha)) (o2.mono s fun a _ => rfl), nd2, fun a ha => ?_⟩, fun a => ?_, fun b u e => ?_, h.hR⟩
    · have ha' : a ∈ Xs ++ (A1 ++ A2) := by
        rcases List.mem_append.mp ha with z | z
        · exact List.mem_append_left _ z
        · exact List.mem_append_right _ (List.mem_append_right _ z)
      obtain ⟨x, y, z⟩ := n a ha'
      exact ⟨by show (if a ∈ A1 then H a else F a) = none; rw [if_neg (dj a ha)]; exact x, y, z⟩
    · by_cases e : a ∈ A1
      · exact .inl (n a (List.mem_append_right _ (List.mem_append_left _ e))).2.1
      · rcases h.dis a with q | q
        · exact .inl q
        · exact .inr (by show (if a ∈ A1 then H a else F a) = none; rw [if_neg e]; exact q)
    · have e' : (if b ∈ A1 then H b else F b) = some u := e
      by_cases z : b ∈ A1
      · rw [if_pos z] at e'; exact e'
      · rw [if_neg z] at e'; exact h.hF _ _ e'
theorem perm_abc (X A B C : List Addr) : (X ++ ((A ++ B) ++ C)).Perm ((A ++ X) ++ (B ++ C)) := by
  simpa [List.append_assoc] using (List.perm_append_comm (l₁ := X) (l₂ := A)).append_right (B ++ C)
/-- what is held is looked into -/
theorem Hold.open {s : Shape} {ls : List L} (h : Hold K F R H Xs ((v, .box s ls) :: ps)) :
    ∃ p dx vs, v = .ref p ∧ H p = some (s.ho dx vs) ∧ s.ok vs.length ∧ s.own H p dx ∧ vs.length = ls.length ∧ Hold K F R H (s.adr p dx ++ Xs) (vs.zip ls ++ ps) := by
  obtain ⟨As, ow, nd, n⟩ := h.own
  cases ow with
  | cons o1 o2 =>
    cases o1 with
    | @box p dx _ _ As vs e1 e2 e3 r =>
      have hl := r.length
      have r2 : Owns K F H ((vs.zip ls).map (·.1)) ((vs.zip ls).map (·.2)) As := by rw [map_zip1 hl, map_zip2 hl]; exact r
      have q := perm_abc Xs (s.adr p dx) As
      exact ⟨p, dx, vs, rfl, e1, e2, e3, hl, ⟨_, r2.join o2, (q _).nodup_iff.mp nd, fun a ha => n a ((q _).symm.subset ha)⟩, h.dis, h.hF, h.hR⟩
/-- .. and closed again -/
theorem Hold.close {s : Shape} (h : Hold K F R H (s.adr p dx ++ Xs) (qs ++ ps)) (e1 : H p = some (s.ho dx (qs.map (·.1)))) (e2 : s.ok qs.length) (e3 : s.own H p dx) : Hold K F R H Xs ((.ref p, .box s (qs.map (·.2))) :: ps) := by
  obtain ⟨As, ow, nd, n⟩ := h.own
  obtain ⟨A1, A2, e, o1, o2⟩ := ow.split
  subst e
  have q := (perm_abc Xs (s.adr p dx) A1 A2).symm
  exact ⟨⟨_, .cons (.box e1 (by simpa using e2) e3 o1) o2, q.nodup_iff.mp nd, fun a ha => n a (q.symm.subset ha)⟩, h.dis, h.hF, h.hR⟩
/-- a loose object is written -/
theorem Hold.write (h : Hold K F R H Xs ps) (hp : p ∈ Xs) : Hold K F R (upd H p o) Xs ps := by
  obtain ⟨As, ow, nd, n⟩ := h.own
  have ne : ∀ a ∈ As, a ≠ p := fun a ha z => by
    rw [List.nodup_append] at nd
    exact nd.2.2 p hp a ha z.symm
  refine ⟨⟨As, ow.mono (Same.refl _) fun a ha => upd_ne (ne a ha), nd, fun a ha => ?_⟩, h.dis, fun b u e => ?_, fun b u e => ?_⟩
  · obtain ⟨x, y, u, e⟩ := n a ha
    refine ⟨x, y, ?_⟩
    by_cases z : a = p
    · exact ⟨o, by rw [z, upd_same]⟩
    · exact ⟨u, by rw [upd_ne z]; exact e⟩
  · have z : b ≠ p := fun z => by rw [z, (n p (List.mem_append_left _ hp)).1] at e; cases e
    rw [upd_ne z]; exact h.hF _ _ e
  · have z : b ≠ p := fun z => by rw [z, (n p (List.mem_append_left _ hp)).2.1] at e; cases e
    rw [upd_ne z]; exact h.hR _ _ e
theorem Shape.own_upd {s : Shape} {o : HO} (h : s.own H p dx) (ne : dx ≠ p) : s.own (upd H p o) p dx := by
  cases s with
  | obj C ns => exact (upd_ne ne).trans h
  | _ => trivial
theorem Shape.ne_of_nodup {s : Shape} {Zs : List Addr} (h : ((s.adr p dx ++ Xs) ++ Zs).Nodup) (hs : ∀ C ns, s = .obj C ns → True) : s.own H p dx → (∀ o, s.own (upd H p o) p dx) := by
  intro w o
  cases s with
  | obj C ns =>
    refine (upd_ne ?_).trans w
    intro z
    subst z
    simp [Shape.adr] at h
  | _ => trivial
/-- .. written and closed -/
theorem Hold.closeW {s s' : Shape} (h : Hold K F R H (s.adr p dx ++ Xs) (qs ++ ps)) (e2 : s'.ok qs.length) (e3 : s.own H p dx) (ha : s'.adr p dx = s.adr p dx) (hs : s.own = s'.own) :
    Hold K F R (upd H p (s'.ho dx (qs.map (·.1)))) Xs ((.ref p, .box s' (qs.map (·.2))) :: ps) := by
  have g := h.write (o := s'.ho dx (qs.map (·.1))) (p := p) (List.mem_append_left _ Shape.mem_adr)
  obtain ⟨As, ow, nd, n⟩ := h.own
  rw [← ha] at g
  exact g.close upd_same e2 (by rw [← hs]; exact Shape.ne_of_nodup nd (fun _ _ _ => trivial) e3 _)
/-- a new box, not an instance -/
theorem Hold.new {s : Shape} (h : Hold K F R H Xs (qs ++ ps)) (hp : H p = none) (hs : s.adr p p = [p]) (hw : s.own (upd H p (s.ho p (qs.map (·.1)))) p p) (e2 : s.ok qs.length) :
    Hold K F R (upd H p (s.ho p (qs.map (·.1)))) Xs ((.ref p, .box s (qs.map (·.2))) :: ps) := by
  have g := h.alloc (o := s.ho p (qs.map (·.1))) hp
  obtain ⟨As, ow, nd, n⟩ := h.own
  have hn : ∀ a ∈ Xs ++ As, a ≠ p := fun a z e => by
    obtain ⟨_, _, u, q⟩ := n a z
    rw [e, hp] at q
    cases q
  refine Hold.close (dx := p) (s := s) ?_ upd_same e2 hw
  rw [hs]
  refine ⟨⟨As, ow.mono (Same.refl _) fun a ha => upd_ne (hn a (List.mem_append_right _ ha)), ?_, fun a ha => ?_⟩, g.dis, g.hF, g.hR⟩
  · show (p :: (Xs ++ As)).Nodup
    exact List.nodup_cons.mpr ⟨fun z => hn p z rfl, nd⟩
  · rcases List.mem_cons.mp (show a ∈ p :: (Xs ++ As) from ha) with z | z
    · subst z
      exact ⟨h.hF.free hp, h.hR.free hp, _, upd_same⟩
    · obtain ⟨x, y, u, q⟩ := n a z
      exact ⟨x, y, u, by rw [upd_ne (hn a z)]; exact q⟩
/-- a part of what is held is lent: it is not to be touched -/
theorem Hold.frame (h : Hold K F R H Xs (ps ++ qs)) : ∃ R', Same R R' ∧ Hold K F R' H [] ps ∧ ∀ F' H' ps', Same F F' → Hold K F' R' H' [] ps' → Hold K F' R H' Xs (ps' ++ qs) := by
  obtain ⟨As, ow, nd, n⟩ := h.own
  obtain ⟨A1, A2, e, o1, o2⟩ := ow.split
  subst e
  have nX : ∀ a, a ∈ Xs ++ A2 → F a = none ∧ R a = none ∧ ∃ o, H a = some o := fun a ha => by
    rcases List.mem_append.mp ha with z | z
    · exact n a (List.mem_append_left _ z)
    · exact n a (List.mem_append_right _ (List.mem_append_right _ z))
  have ndX : (Xs ++ A2).Nodup := List.Nodup.sublist (List.Sublist.append (List.Sublist.refl _) (List.sublist_append_right _ _)) nd
  have dj : ∀ a, a ∈ A1 → a ∉ Xs ++ A2 := fun a h1 h2 => by
    rw [List.nodup_append] at nd
    obtain ⟨q1, q2, q3⟩ := nd
    rw [List.nodup_append] at q2
    rcases List.mem_append.mp h2 with z | z
    · exact q3 a z a (List.mem_append_left _ h1) rfl
    · exact q2.2.2 a h1 a z rfl
  have sR : Same R (fun a => if a ∈ Xs ++ A2 then H a else R a) := fun b u e => by
    show (if b ∈ Xs ++ A2 then H b else R b) = some u
    rw [if_neg (fun z => by rw [(nX b z).2.1] at e; cases e)]
    exact e
  refine ⟨fun a => if a ∈ Xs ++ A2 then H a else R a, sR, ⟨⟨A1, o1, ?_, fun a ha => ?_⟩, fun a => ?_, h.hF, fun b u e => ?_⟩, fun F' H' ps' s g => ?_⟩
  · rw [List.nodup_append] at nd
    exact (List.nodup_append.mp nd.2.1).1
  · have ha : a ∈ A1 := ha
    obtain ⟨x, y, z⟩ := n a (List.mem_append_right _ (List.mem_append_left _ ha))
    exact ⟨x, by show (if a ∈ Xs ++ A2 then H a else R a) = none; rw [if_neg (dj a ha)]; exact y, z⟩
  · by_cases e : a ∈ Xs ++ A2
    · exact .inr (nX a e).1
    · rcases h.dis a with q | q
      · exact .inl (by show (if a ∈ Xs ++ A2 then H a else R a) = none; rw [if_neg e]; exact q)
      · exact .inr q
  · have e' : (if b ∈ Xs ++ A2 then H b else R b) = some u := e
    by_cases z : b ∈ Xs ++ A2
    · rw [if_pos z] at e'; exact e'
    · rw [if_neg z] at e'; exact h.hR _ _ e'
  · obtain ⟨B, ob, ndB, nB⟩ := g.own
    have Rin : ∀ a, a ∈ Xs ++ A2 → (if a ∈ Xs ++ A2 then H a else R a) = H a := fun a ha => if_pos ha
    have there : ∀ a, a ∈ Xs ++ A2 → H' a = H a := fun a ha => by
      obtain ⟨_, _, u, q⟩ := nX a ha
      rw [q]
      exact g.hR _ _ ((Rin a ha).trans q)
    have djB : ∀ a, a ∈ B → a ∉ Xs ++ A2 := fun a ha hb => by
      have z : (if a ∈ Xs ++ A2 then H a else R a) = none := (nB a ha).2.1
      obtain ⟨_, _, u, q⟩ := nX a hb
      rw [if_pos hb, q] at z
      cases z
    refine ⟨⟨B ++ A2, ob.join (o2.mono s fun a ha => there a (List.mem_append_right _ ha)), ?_, fun a ha => ?_⟩, fun a => ?_, g.hF, fun b u e => g.hR _ _ (sR b u e)⟩
    · rw [List.nodup_append] at ndX ⊢
      refine ⟨ndX.1, ?_, fun a ha b hb => ?_⟩
      · rw [List.nodup_append]
        exact ⟨ndB, ndX.2.1, fun a ha b hb e => djB a ha (List.mem_append_right _ (e ▸ hb))⟩
      · rcases List.mem_append.mp hb with z | z
        · exact fun e => djB b z (List.mem_append_left _ (e ▸ ha))
        · exact ndX.2.2 a ha b z
    · have hc : a ∈ B ∨ a ∈ Xs ++ A2 := by
        rcases List.mem_append.mp ha with z | z
        · exact .inr (List.mem_append_left _ z)
        · rcases List.mem_append.mp z with z | z
          · exact .inl z
          · exact .inr (List.mem_append_right _ z)
      rcases hc with z | z
      · obtain ⟨x, y, w⟩ := nB a z
        have y : (if a ∈ Xs ++ A2 then H a else R a) = none := y
        rw [if_neg (djB a z)] at y
        exact ⟨x, y, w⟩
      · obtain ⟨_, y, u, q⟩ := nX a z
        refine ⟨?_, y, u, (there a z).trans q⟩
        rcases g.dis a with d | d
        · have d : (if a ∈ Xs ++ A2 then H a else R a) = none := d
          rw [if_pos z, q] at d
          cases d
        · exact d
    · rcases g.dis a with d | d
      · have d : (if a ∈ Xs ++ A2 then H a else R a) = none := d
        by_cases z : a ∈ Xs ++ A2
        · exact .inl (nX a z).2.1
        · rw [if_neg z] at d; exact .inl d
      · exact .inr d
theorem Hold.monoF (h : Hold K F R H Xs ps) : Same F H := h.hF
end

/-! ### slots -/
def slotsP : List (Option V) → List (Option L) → List (V × L)
  | some v :: σ, some l :: env => (v, l) :: slotsP σ env
  | _ :: σ, _ :: env => slotsP σ env
  | _, _ => []
/-- what is told of a slot is of a value -/
def Wf : List (Option V) → List (Option L) → Prop
  | [], [] => True
  | o :: σ, e :: env => (e.isSome = true → o.isSome = true) ∧ Wf σ env
  | _, _ => False
theorem slotsP_none (o : Option V) (σ : List (Option V)) (env : List (Option L)) : slotsP (o :: σ) (none :: env) = slotsP σ env := by
  cases o <;> simp [slotsP]
theorem Wf.get : ∀ {σ : List (Option V)} {env : List (Option L)} {i : Nat} {l : L}, Wf σ env → env[i]? = some (some l) → ∃ v, σ[i]? = some (some v)
  | o :: σ, e :: env, 0, l, h, q => by
    simp at q
    subst q
    have := h.1 rfl
    cases o with
    | none => cases this
    | some v => exact ⟨v, by simp⟩
  | o :: σ, e :: env, i + 1, l, h, q => by
    obtain ⟨v, r⟩ := Wf.get (i := i) h.2 (by simpa using q)
    exact ⟨v, by simpa using r⟩
  | [], [], _, _, _, q => by simp at q
theorem Wf.none : ∀ {σ : List (Option V)} {env : List (Option L)} {i : Nat}, Wf σ env → Wf σ (env.set i .none)
  | [], [], _, _ => trivial
  | o :: σ, e :: env, 0, h => ⟨(fun q => by cases q), h.2⟩
  | o :: σ, e :: env, i + 1, h => ⟨h.1, Wf.none h.2⟩
theorem Wf.setV : ∀ {σ : List (Option V)} {env : List (Option L)} {i : Nat} {v : V} {e : Option L}, Wf σ env → Wf (σ.set i (some v)) (env.set i e)
  | [], [], _, _, _, _ => trivial
  | o :: σ, e :: env, 0, v, _, h => ⟨fun _ => rfl, h.2⟩
  | o :: σ, e :: env, i + 1, v, _, h => ⟨h.1, Wf.setV h.2⟩
theorem Wf.setL : ∀ {σ : List (Option V)} {env : List (Option L)} {i : Nat} {v : V} {e : Option L}, Wf σ env → σ[i]? = some (some v) → Wf σ (env.set i e)
  | [], [], _, _, _, _, _ => trivial
  | o :: σ, e :: env, 0, v, _, h, q => ⟨fun _ => by simp at q; subst q; rfl, h.2⟩
  | o :: σ, e :: env, i + 1, v, _, h, q => ⟨h.1, Wf.setL h.2 (by simpa using q)⟩
theorem Wf.len : ∀ {σ : List (Option V)} {env : List (Option L)}, Wf σ env → σ.length = env.length
  | [], [], _ => rfl
  | o :: σ, e :: env, h => by simp [Wf.len h.2]
theorem slots_get : ∀ {σ : List (Option V)} {env : List (Option L)} {i : Nat} {l : L} {v : V}, env[i]? = some (some l) → σ[i]? = some (some v) → (slotsP σ env).Perm ((v, l) :: slotsP σ (env.set i none))
  | o :: σ, e :: env, 0, l, v, h, q => by
    simp at h q
    subst h; subst q
    simp only [List.set_cons_zero, slotsP_none, slotsP]
    exact .refl _
  | o :: σ, e :: env, i + 1, l, v, h, q => by
    have ih := slots_get (σ := σ) (env := env) (i := i) (by simpa using h) (by simpa using q)
    rw [List.set_cons_succ]
    cases o with
    | none => simpa only [slotsP] using ih
    | some w =>
      cases e with
      | none => simpa only [slotsP] using ih
      | some m =>
        simp only [slotsP]
        exact (List.Perm.cons _ ih).trans (List.Perm.swap _ _ _)
  | [], _, _, _, _, _, q => by simp at q
  | _ :: _, [], _, _, _, h, _ => by simp at h
theorem slots_set : ∀ {σ : List (Option V)} {env : List (Option L)} {i : Nat} {l : L} {v : V}, i < σ.length → σ.length = env.length → (slotsP (σ.set i (some v)) (env.set i (some l))).Perm ((v, l) :: slotsP σ (env.set i none))
  | o :: σ, e :: env, 0, l, v, h, q => by
    simp only [List.set_cons_zero, slotsP_none, slotsP]
    exact .refl _
  | o :: σ, e :: env, i + 1, l, v, h, q => by
    have ih := slots_set (σ := σ) (env := env) (i := i) (l := l) (v := v) (by simpa using h) (by simpa using q)
    rw [List.set_cons_succ, List.set_cons_succ, List.set_cons_succ]
    cases o with
    | none => simpa only [slotsP] using ih
    | some w =>
      cases e with
      | none => simpa only [slotsP] using ih
      | some m =>
        simp only [slotsP]
        exact (List.Perm.cons _ ih).trans (List.Perm.swap _ _ _)
  | [], _, _, _, _, h, _ => by simp at h
  | _ :: _, [], _, _, _, _, q => by simp at q
theorem slots_setN : ∀ {σ : List (Option V)} {env : List (Option L)} {i : Nat} {o : Option V}, slotsP (σ.set i o) (env.set i none) = slotsP σ (env.set i none)
  | o :: σ, e :: env, 0, _ => by simp only [List.set_cons_zero, slotsP_none]
  | o :: σ, e :: env, i + 1, _ => by
    have ih := fun o => slots_setN (σ := σ) (env := env) (i := i) (o := o)
    rw [List.set_cons_succ, List.set_cons_succ]
    cases o <;> cases e <;> simp only [slotsP, ih]
  | [], _, _, _ => by simp
  | _ :: _, [], i, _ => by cases i <;> simp [slotsP]
theorem slots_put : ∀ {σ : List (Option V)} {env : List (Option L)} {i : Nat} {l : L} {v : V}, σ[i]? = some (some v) → i < env.length → (slotsP σ (env.set i (some l))).Perm ((v, l) :: slotsP σ (env.set i none)) := fun {σ env i l v} h q => by
  have r := slots_get (σ := σ) (env := env.set i (some l)) (i := i) (l := l) (v := v) (by simp [q]) h
  simpa using r
end TL

namespace TL
open PySem PySem.Spec PyProof.Rows L2

/-! ### what stands in the slots, as trees -/
abbrev Ev := List (Option L)
abbrev DE := Ev → (L → Ev → Prop) → Prop
abbrev DT := Ev → (Bool → Ev → Prop) → Prop
abbrev DA := Ev → (List (L × Option Nat) → Ev → Prop) → Prop
structure DEnds where
  nx : Ev → Prop
  rt : L → Ev → Prop
  bk : Ev → Prop := fun _ => False
  ct : Ev → Prop := fun _ => False
abbrev DS := DEnds → Ev → Prop
abbrev DG := L → Ev → (Ev → Prop) → Prop
abbrev DGs := List L → Ev → (Ev → Prop) → Prop
/-- an exception: its class, its fields -/
structure DX where
  cls : Value
  ns : List Str
  ds : List D
/-- a def's contract: the arguments, what is wanted of the answer and the arguments behind it, what is wanted of an exception -/
abbrev Con := List L → (L → List L → Prop) → (DX → List L → Prop) → Prop

/-- the frame of one call: what is known and what is not to be touched at its entry, the slots that keep their value -/
structure Act where
  F0 : Hp
  R0 : Hp
  fx : List (Nat × Option V)
  n : Nat
structure At (Y : Act) (K : PySem.W.Frag) (F R H : Hp) (σ : L2.St) (env : Ev) : Prop where
  f : Same Y.F0 F
  r : Same Y.R0 R
  fx : ∀ q ∈ Y.fx, σ[q.1]? = some q.2
  len : σ.length = Y.n
  wf : Wf σ env
  hold : Hold K F R H [] (slotsP σ env)
theorem At.to {Y : Act} {K : PySem.W.Frag} {F F' R H H' : Hp} {σ : L2.St} {env env' : Ev} (a : At Y K F R H σ env) (s : Same F F') (w : Wf σ env') (h : Hold K F' R H' [] (slotsP σ env')) : At Y K F' R H' σ env' :=
  ⟨a.f.trans s, a.r, a.fx, a.len, w, h⟩

def lift (Y : Act) (K : PySem.W.Frag) (t : DE) : TE := fun σ H Q => ∃ F R env k, At Y K F R H σ env ∧ t env k ∧
  ∀ l env' v F' H', k l env' → Same F F' → Wf σ env' → Hold K F' R H' [] ((v, l) :: slotsP σ env') → Q v H'
def liftT (Y : Act) (K : PySem.W.Frag) (t : DT) : TT := fun σ H Q => ∃ F R env k, At Y K F R H σ env ∧ t env k ∧
  ∀ b env' F' H', k b env' → Same F F' → Wf σ env' → Hold K F' R H' [] (slotsP σ env') → Q b H'
def Marks (σ : L2.St) : List V → List (L × Option Nat) → Prop
  | [], [] => True
  | v :: vs, x :: xs => (∀ i, x.2 = some i → σ[i]? = some (some v)) ∧ Marks σ vs xs
  | _, _ => False
def liftA (Y : Act) (K : PySem.W.Frag) (t : DA) : TA := fun σ H Q => ∃ F R env k, At Y K F R H σ env ∧ t env k ∧
  ∀ xs env' vs F' H', k xs env' → Same F F' → Wf σ env' → Marks σ vs xs → Hold K F' R H' [] (vs.zip (xs.map (·.1)) ++ slotsP σ env') → Q vs H'
structure Link (Y : Act) (K : PySem.W.Frag) (F R : Hp) (De : DEnds) (D : Ends) : Prop where
  nx : ∀ env' σ' F' H', De.nx env' → Same F F' → At Y K F' R H' σ' env' → D.nx σ' H'
  rt : ∀ l env' v σ' F' H', De.rt l env' → Same F F' → (∀ q ∈ Y.fx, σ'[q.1]? = some q.2) → Wf σ' env' → Hold K F' R H' [] ((v, l) :: slotsP σ' env') → D.rt v H'
  bk : ∀ env' σ' F' H', De.bk env' → Same F F' → At Y K F' R H' σ' env' → D.bk σ' H'
  ct : ∀ env' σ' F' H', De.ct env' → Same F F' → At Y K F' R H' σ' env' → D.ct σ' H'
theorem Link.to {Y : Act} {K : PySem.W.Frag} {F F' R : Hp} {De : DEnds} {D : Ends} (k : Link Y K F R De D) (s : Same F F') : Link Y K F' R De D :=
  ⟨fun _ _ _ _ h e => k.nx _ _ _ _ h (s.trans e), fun _ _ _ _ _ _ h e => k.rt _ _ _ _ _ _ h (s.trans e), fun _ _ _ _ h e => k.bk _ _ _ _ h (s.trans e), fun _ _ _ _ h e => k.ct _ _ _ _ h (s.trans e)⟩
def liftS (Y : Act) (K : PySem.W.Frag) (t : DS) : TS := fun D σ H => ∃ F R env De, At Y K F R H σ env ∧ t De env ∧ Link Y K F R De D
def liftG (Y : Act) (K : PySem.W.Frag) (g : DG) : TG := fun v σ H Q => ∃ F R env l k, At Y K F R H σ env ∧ Hold K F R H [] ((v, l) :: slotsP σ env) ∧ g l env k ∧
  ∀ env' σ' F' H', k env' → Same F F' → At Y K F' R H' σ' env' → Q σ' H'
def liftGs (Y : Act) (K : PySem.W.Frag) (g : DGs) : TGs := fun vs σ H Q => ∃ F R env ls k, At Y K F R H σ env ∧ vs.length = ls.length ∧ Hold K F R H [] (vs.zip ls ++ slotsP σ env) ∧ g ls env k ∧
  ∀ env' σ' F' H', k env' → Same F F' → At Y K F' R H' σ' env' → Q σ' H'

/-- weaker readings -/
theorem PE.imp {X : Cx} {e : Expr} {t t' : TE} (h : PE X e t) (i : ∀ σ H Q, t' σ H Q → t σ H Q) : PE X e t' := ⟨fun pins s σ H Q I q => h.run pins s σ H Q I (i _ _ _ q)⟩
theorem PT.imp {X : Cx} {e : Expr} {t t' : TT} (h : PT X e t) (i : ∀ σ H Q, t' σ H Q → t σ H Q) : PT X e t' := ⟨fun pins s σ H Q I q => h.run pins s σ H Q I (i _ _ _ q)⟩
theorem PW.imp {X : Cx} {e : Expr} {t t' : TT} (h : PW X e t) (i : ∀ σ H Q, t' σ H Q → t σ H Q) : PW X e t' := ⟨fun wh pins s σ H Q I q => h.run wh pins s σ H Q I (i _ _ _ q)⟩
theorem PA.imp {X : Cx} {e : List Expr} {t t' : TA} (h : PA X e t) (i : ∀ σ H Q, t' σ H Q → t σ H Q) : PA X e t' := ⟨fun p pins s σ H Q I q => h.run p pins s σ H Q I (i _ _ _ q)⟩
theorem PS.imp {X : Cx} {e : Stmt} {t t' : TS} (h : PS X e t) (i : ∀ D σ H, t' D σ H → t D σ H) : PS X e t' := ⟨fun pins s σ H Q I q => h.run pins s σ H Q I (i _ _ _ q)⟩
theorem PSs.imp {X : Cx} {e : List Stmt} {t t' : TS} (h : PSs X e t) (i : ∀ D σ H, t' D σ H → t D σ H) : PSs X e t' := ⟨fun pins s σ H Q I q => h.run pins s σ H Q I (i _ _ _ q)⟩
theorem PG.imp {X : Cx} {e : Expr} {t t' : TG} (h : PG X e t) (i : ∀ v σ H Q, t' v σ H Q → t v σ H Q) : PG X e t' := ⟨fun pins s σ H v u Q I r q => h.run pins s σ H v u Q I r (i _ _ _ _ q)⟩
theorem PGs.imp {X : Cx} {e : List Expr} {t t' : TGs} (h : PGs X e t) (i : ∀ v σ H Q, t' v σ H Q → t v σ H Q) : PGs X e t' := ⟨fun pins s σ H v u Q I r q => h.run pins s σ H v u Q I r (i _ _ _ _ q)⟩

section
variable {X : Cx} {Y : Act} {e a b c : Expr} {es : List Expr} {pos : Pos} {ta tb : DE} {t u : DE}

/-! ### names, constants -/
/-- the name's value; what was owned is known from now on -/
def dVar (i : Nat) : DE := fun env Q => match env[i]? with
  | some (some (.fr d)) => Q (.fr d) env
  | some (some l) => Q (.fr l.toD) (env.set i (some (.fr l.toD)))
  | _ => False
/-- the name's value is handed on, with all that it owns -/
def dTake (i : Nat) : DE := fun env Q => match env[i]? with
  | some (some l) => Q l (env.set i none)
  | _ => False
def dC (d : D) : DE := fun env Q => Q (.fr d) env
theorem set_self : ∀ {env : Ev} {i : Nat} {o : Option L}, env[i]? = some o → env.set i o = env := fun {env i o} h => by
  obtain ⟨hi, e⟩ := List.getElem?_eq_some_iff.mp h
  rw [← e]
  exact List.set_getElem_self hi
theorem de_take {i : Nat} (h : PE X e (tVar i)) : PE X e (lift Y X.K (dTake i)) := by
  refine PE.imp h fun σ H Q ⟨F, R, env, k, a, q, kk⟩ => ?_
  unfold dTake at q
  cases he : env[i]? with
  | none => rw [he] at q; exact q.elim
  | some o =>
    cases o with
    | none => rw [he] at q; exact q.elim
    | some l =>
      rw [he] at q
      obtain ⟨v, hv⟩ := a.wf.get he
      exact ⟨v, hv, kk _ _ v F H q (Same.refl _) a.wf.none (a.hold.perm (slots_get he hv))⟩
theorem de_var {i : Nat} (h : PE X e (tVar i)) : PE X e (lift Y X.K (dVar i)) := by
  refine PE.imp h fun σ H Q ⟨F, R, env, k, a, q, kk⟩ => ?_
  unfold dVar at q
  cases he : env[i]? with
  | none => rw [he] at q; exact q.elim
  | some o =>
    cases o with
    | none => rw [he] at q; exact q.elim
    | some l =>
      obtain ⟨v, hv⟩ := a.wf.get he
      have hp := a.hold.perm (slots_get he hv)
      have hi : i < env.length := (List.getElem?_eq_some_iff.mp he).1
      cases l with
      | fr d =>
        rw [he] at q
        exact ⟨v, hv, kk _ _ v F H q (Same.refl _) a.wf (a.hold.push hp.head)⟩
      | box s ls =>
        rw [he] at q
        obtain ⟨F', s', g⟩ := hp.frz
        exact ⟨v, hv, kk _ _ v F' H q s' (a.wf.setL hv) (Hold.push (g.perm (slots_put hv hi).symm) g.head)⟩
theorem de_c {v : V} {d : D} (h : PE X e (tC v)) (r : ∀ F, Rep X.K F v d) : PE X e (lift Y X.K (dC d)) := by
  refine PE.imp h fun σ H Q ⟨F, R, env, k, a, q, kk⟩ => ?_
  exact kk _ _ v F H q (Same.refl _) a.wf (a.hold.push (r F))
theorem de_int {i j} : PE X (.Constant (.int i) j pos) (lift Y X.K (dC (.int i))) := de_c pe_int fun _ => .int i
theorem de_bl {i j} : PE X (.Constant (.bool i) j pos) (lift Y X.K (dC (.bl i))) := de_c pe_bl fun _ => .bl i
theorem de_non {j} : PE X (.Constant .none j pos) (lift Y X.K (dC .non)) := de_c pe_non fun _ => .non
theorem de_str {i j} : PE X (.Constant (.str i) j pos) (lift Y X.K (dC (.str i))) := de_c pe_str fun _ => .str i

/-! ### operators by trees -/
abbrev Op2 := D → D → (L → Prop) → Prop
def liftO (K : PySem.W.Frag) (f : Op2) : R2 := fun x y H Q => ∃ F R ps da db k, Hold K F R H [] ps ∧ Rep K F x da ∧ Rep K F y db ∧ f da db k ∧
  ∀ l v F' H', k l → Same F F' → Hold K F' R H' [] ((v, l) :: ps) → Q v H'
def dOp (f : Op2) (ta tb : DE) : DE := fun env Q => ta env fun la env1 => tb env1 fun lb env2 => f la.toD lb.toD fun r => Q r env2
theorem lift_op {f : Op2} {σ : L2.St} {H : Hp} {Q : VK} (h : lift Y X.K (dOp f ta tb) σ H Q) : tOp (liftO X.K f) (lift Y X.K ta) (lift Y X.K tb) σ H Q := by
  obtain ⟨F, R, env, k, a, q, kk⟩ := h
  refine ⟨F, R, env, _, a, q, fun la env1 x F1 H1 q1 s1 w1 g1 => ?_⟩
  obtain ⟨F2, s2, g2⟩ := g1.frz
  refine ⟨F2, R, env1, _, a.to (s1.trans s2) w1 g2.drop, q1, fun lb env2 y F3 H3 q3 s3 w3 g3 => ?_⟩
  obtain ⟨F4, s4, g4⟩ := g3.frz
  exact ⟨F4, R, _, _, _, _, g4.drop, (g2.head).mono (s3.trans s4), g4.head, q3, fun l v F5 H5 q5 s5 g5 => kk l env2 v F5 H5 q5 (((s1.trans s2).trans (s3.trans s4)).trans s5) w3 g5⟩
theorem de_op {op : Operator} {f : Op2} (ho : OpR X (binaryOp op) (liftO X.K f)) (ha : PE X a (lift Y X.K ta)) (hb : PE X b (lift Y X.K tb)) : PE X (.BinOp a op b pos) (lift Y X.K (dOp f ta tb)) :=
  PE.imp (pe_op ho ha hb) fun _ _ _ h => lift_op h
theorem de_cmp {op : CmpOp} {f : Op2} (ho : OpR X (compareOp op) (liftO X.K f)) (ha : PE X a (lift Y X.K ta)) (hb : PE X b (lift Y X.K tb)) (hm : behindInMarks op b = false) : PE X (.Compare a [op] [b] pos) (lift Y X.K (dOp f ta tb)) :=
  PE.imp (pe_cmpR ho ha hb hm) fun _ _ _ h => lift_op h
/-- a value that is a bool, as a test -/
def dB (t : DE) : DT := fun env Q => t env fun l env' => ∃ c, l = .fr (.bl c) ∧ Q c env'
theorem Rep.bl_inv {K : PySem.W.Frag} {F : Hp} {v : V} {c : Bool} (h : Rep K F v (.bl c)) : v = .bl c := by cases h; rfl
theorem Rep.int_inv {K : PySem.W.Frag} {F : Hp} {v : V} {c : Int} (h : Rep K F v (.int c)) : v = .int c := by cases h; rfl
theorem Rep.str_inv {K : PySem.W.Frag} {F : Hp} {v : V} {c : Str} (h : Rep K F v (.str c)) : v = .str c := by cases h; rfl
theorem Rep.non_inv {K : PySem.W.Frag} {F : Hp} {v : V} (h : Rep K F v .non) : v = .non := by cases h; rfl
theorem lift_b {t : DE} {σ : L2.St} {H : Hp} {Q : Bool → Hp → Prop} (h : liftT Y X.K (dB t) σ H Q) : (lift Y X.K t) σ H fun x H1 => ∃ c, x = .bl c ∧ Q c H1 := by
  obtain ⟨F, R, env, k, a, q, kk⟩ := h
  refine ⟨F, R, env, _, a, q, fun l env' v F' H' ⟨c, e, q'⟩ s w g => ?_⟩
  subst e
  exact ⟨c, g.head.bl_inv, kk c env' F' H' q' s w g.drop⟩
theorem dt_val {t : DE} (h : PE X e (lift Y X.K t)) (he : ∀ whole, isTrue e X.env whole = (do let v ← whole; standAt e.pos; holding [v] (truthy v)) := by intro _; rfl) : PT X e (liftT Y X.K (dB t)) :=
  PT.imp (pt_val h he) fun _ _ _ h => lift_b h
theorem dt_cmp {op : CmpOp} {f : Op2} (ho : OpR X (compareOp op) (liftO X.K f)) (ha : PE X a (lift Y X.K ta)) (hb : PE X b (lift Y X.K tb)) (hm : behindInMarks op b = false) : PT X (.Compare a [op] [b] pos) (liftT Y X.K (dB (dOp f ta tb))) :=
  PT.imp (pt_cmpR ho ha hb hm) fun σ H Q h => by
    obtain ⟨F, R, env, k, a, q, kk⟩ := h
    refine lift_op (Y := Y) ⟨F, R, env, _, a, q, fun l env' v F' H' ⟨c, e, q'⟩ s w g => ?_⟩
    subst e
    exact ⟨c, g.head.bl_inv, kk c env' F' H' q' s w g.drop⟩
/-- a chain of two comparisons -/
def dChain (f f' : Op2) (ta tb tc : DE) : DE := fun env Q => ta env fun la env1 => tb env1 fun lb env2 => f la.toD lb.toD fun r => ∃ c, r = .fr (.bl c) ∧
  (if c = true then tc env2 fun lc env3 => f' lb.toD lc.toD fun r' => Q r' env3 else Q (.fr (.bl false)) env2)
theorem lift_chain {f f' : Op2} {tc : DE} {σ : L2.St} {H : Hp} {Q : VK} (h : lift Y X.K (dChain f f' ta tb tc) σ H Q) : tChain (liftO X.K f) (liftO X.K f') (lift Y X.K ta) (lift Y X.K tb) (lift Y X.K tc) σ H Q := by
  obtain ⟨F, R, env, k, a, q, kk⟩ := h
  refine ⟨F, R, env, _, a, q, fun la env1 x F1 H1 q1 s1 w1 g1 => ?_⟩
  obtain ⟨F2, s2, g2⟩ := g1.frz
  refine ⟨F2, R, env1, _, a.to (s1.trans s2) w1 g2.drop, q1, fun lb env2 y F3 H3 q3 s3 w3 g3 => ?_⟩
  obtain ⟨F4, s4, g4⟩ := g3.frz
  refine ⟨F4, R, _, _, _, _, g4.drop, (g2.head).mono (s3.trans s4), g4.head, q3, fun l v F5 H5 q5 s5 g5 => ?_⟩
  obtain ⟨c, e, q5⟩ := q5
  subst e
  refine ⟨c, g5.head.bl_inv, ?_⟩
  have s05 := ((s1.trans s2).trans (s3.trans s4)).trans s5
  cases c with
  | false =>
    rw [if_neg Bool.false_ne_true] at q5 ⊢
    exact kk _ env2 _ F5 H5 q5 s05 w3 (g5.drop.push (.bl false))
  | true =>
    rw [if_pos rfl] at q5 ⊢
    refine ⟨F5, R, env2, _, a.to s05 w3 g5.drop, q5, fun lc env3 z F6 H6 q6 s6 w6 g6 => ?_⟩
    obtain ⟨F7, s7, g7⟩ := g6.frz
    exact ⟨F7, R, _, _, _, _, g7.drop, (g4.head).mono (s5.trans (s6.trans s7)), g7.head, q6, fun l v F8 H8 q8 s8 g8 => kk l env3 v F8 H8 q8 (s05.trans ((s6.trans s7).trans s8)) w6 g8⟩
theorem de_chain {op op' : CmpOp} {f f' : Op2} {tc : DE} (ho : OpR X (compareOp op) (liftO X.K f)) (ho' : OpR X (compareOp op') (liftO X.K f')) (ha : PE X a (lift Y X.K ta)) (hb : PE X b (lift Y X.K tb)) (hc : PE X c (lift Y X.K tc))
    (hm : lastMarks [op, op'] [b, c] = false := by with_unfolding_all rfl) : PE X (.Compare a [op, op'] [b, c] pos) (lift Y X.K (dChain f f' ta tb tc)) :=
  PE.imp (pe_chain ho ho' ha hb hc hm) fun _ _ _ h => lift_chain h
theorem dt_chain {op op' : CmpOp} {f f' : Op2} {tc : DE} (ho : OpR X (compareOp op) (liftO X.K f)) (ho' : OpR X (compareOp op') (liftO X.K f')) (ha : PE X a (lift Y X.K ta)) (hb : PE X b (lift Y X.K tb)) (hc : PE X c (lift Y X.K tc))
    (hm : lastMarks [op, op'] [b, c] = false := by with_unfolding_all rfl) : PT X (.Compare a [op, op'] [b, c] pos) (liftT Y X.K (dB (dChain f f' ta tb tc))) :=
  PT.imp (pt_chain ho ho' ha hb hc hm) fun σ H Q h => by
    obtain ⟨F, R, env, k, a, q, kk⟩ := h
    refine lift_chain (Y := Y) ⟨F, R, env, _, a, q, fun l env' v F' H' ⟨c, e, q'⟩ s w g => ?_⟩
    subst e
    exact ⟨c, g.head.bl_inv, kk c env' F' H' q' s w g.drop⟩

/-! ### and, or, not, if else -/
def dAnd (t u : DT) : DT := fun env Q => t env fun c env1 => if c = true then u env1 Q else Q false env1
def dOr (t u : DT) : DT := fun env Q => t env fun c env1 => if c = true then Q true env1 else u env1 Q
def dNot (t : DT) : DT := fun env Q => t env fun c env1 => Q (!c) env1
theorem dw_and1 {tA : DT} (h : PT X a (liftT Y X.K tA)) : PW X (.BoolOp .And [a] pos) (liftT Y X.K tA) := pw_and1 h
theorem dw_or1 {tA : DT} (h : PT X a (liftT Y X.K tA)) : PW X (.BoolOp .Or [a] pos) (liftT Y X.K tA) := pw_or1 h
theorem dw_and {tA tB' : DT} {rest : List Expr} (ha : PT X a (liftT Y X.K tA)) (hb : PW X (.BoolOp .And (b :: rest) pos) (liftT Y X.K tB')) : PW X (.BoolOp .And (a :: b :: rest) pos) (liftT Y X.K (dAnd tA tB')) :=
  PW.imp (pw_and ha hb) fun σ H Q ⟨F, R, env, k, a, q, kk⟩ => by
    refine ⟨F, R, env, _, a, q, fun c env' F' H' q' s w g => ?_⟩
    cases c with
    | true => exact ⟨F', R, env', k, a.to s w g, (if_pos rfl).mp q', fun b env2 F2 H2 q2 s2 w2 g2 => kk b env2 F2 H2 q2 (s.trans s2) w2 g2⟩
    | false => exact kk false env' F' H' ((if_neg Bool.false_ne_true).mp q') s w g
theorem dw_or {tA tB' : DT} {rest : List Expr} (ha : PT X a (liftT Y X.K tA)) (hb : PW X (.BoolOp .Or (b :: rest) pos) (liftT Y X.K tB')) : PW X (.BoolOp .Or (a :: b :: rest) pos) (liftT Y X.K (dOr tA tB')) :=
  PW.imp (pw_or ha hb) fun σ H Q ⟨F, R, env, k, a, q, kk⟩ => by
    refine ⟨F, R, env, _, a, q, fun c env' F' H' q' s w g => ?_⟩
    cases c with
    | false => exact ⟨F', R, env', k, a.to s w g, (if_neg Bool.false_ne_true).mp q', fun b env2 F2 H2 q2 s2 w2 g2 => kk b env2 F2 H2 q2 (s.trans s2) w2 g2⟩
    | true => exact kk true env' F' H' ((if_pos rfl).mp q') s w g
theorem dt_not {tA : DT} (ha : PT X a (liftT Y X.K tA)) : PT X (.UnaryOp .Not a pos) (liftT Y X.K (dNot tA)) :=
  PT.imp (pt_not ha) fun σ H Q ⟨F, R, env, k, a, q, kk⟩ => ⟨F, R, env, _, a, q, fun c env' F' H' q' s w g => kk _ env' F' H' q' s w g⟩
/-- .. as values -/
def dAndV (ta tb : DE) : DE := fun env Q => ta env fun l env1 => ∃ c, l = .fr (.bl c) ∧ if c = true then tb env1 Q else Q (.fr (.bl false)) env1
def dOrV (ta tb : DE) : DE := fun env Q => ta env fun l env1 => ∃ c, l = .fr (.bl c) ∧ if c = true then Q (.fr (.bl true)) env1 else tb env1 Q
def dNotV (ta : DE) : DE := fun env Q => ta env fun l env1 => ∃ c, l = .fr (.bl c) ∧ Q (.fr (.bl (!c))) env1
theorem de_one {op} (h : PE X a (lift Y X.K t)) : PE X (.BoolOp op [a] pos) (lift Y X.K t) := pe_one h
theorem de_and {rest : List Expr} (ha : PE X a (lift Y X.K ta)) (hb : PE X (.BoolOp .And (b :: rest) pos) (lift Y X.K tb)) : PE X (.BoolOp .And (a :: b :: rest) pos) (lift Y X.K (dAndV ta tb)) :=
  PE.imp (pe_and ha hb) fun σ H Q ⟨F, R, env, k, a, q, kk⟩ => by
    refine ⟨F, R, env, _, a, q, fun l env' v F' H' ⟨c, e, q'⟩ s w g => ?_⟩
    subst e
    refine ⟨c, g.head.bl_inv, ?_⟩
    cases c with
    | true => exact (if_pos rfl).mpr ⟨F', R, env', k, a.to s w g.drop, (if_pos rfl).mp q', fun l env2 v F2 H2 q2 s2 w2 g2 => kk l env2 v F2 H2 q2 (s.trans s2) w2 g2⟩
    | false => exact (if_neg Bool.false_ne_true).mpr (kk _ env' _ F' H' ((if_neg Bool.false_ne_true).mp q') s w (g.drop.push (.bl false)))
theorem de_or {rest : List Expr} (ha : PE X a (lift Y X.K ta)) (hb : PE X (.BoolOp .Or (b :: rest) pos) (lift Y X.K tb)) : PE X (.BoolOp .Or (a :: b :: rest) pos) (lift Y X.K (dOrV ta tb)) :=
  PE.imp (pe_or ha hb) fun σ H Q ⟨F, R, env, k, a, q, kk⟩ => by
    refine ⟨F, R, env, _, a, q, fun l env' v F' H' ⟨c, e, q'⟩ s w g => ?_⟩
    subst e
    refine ⟨c, g.head.bl_inv, ?_⟩
    cases c with
    | false => exact (if_neg Bool.false_ne_true).mpr ⟨F', R, env', k, a.to s w g.drop, (if_neg Bool.false_ne_true).mp q', fun l env2 v F2 H2 q2 s2 w2 g2 => kk l env2 v F2 H2 q2 (s.trans s2) w2 g2⟩
    | true => exact (if_pos rfl).mpr (kk _ env' _ F' H' ((if_pos rfl).mp q') s w (g.drop.push (.bl true)))
theorem de_not (ha : PE X a (lift Y X.K ta)) : PE X (.UnaryOp .Not a pos) (lift Y X.K (dNotV ta)) :=
  PE.imp (pe_not ha) fun σ H Q ⟨F, R, env, k, a, q, kk⟩ => by
    refine ⟨F, R, env, _, a, q, fun l env' v F' H' ⟨c, e, q'⟩ s w g => ?_⟩
    subst e
    exact ⟨c, g.head.bl_inv, kk _ env' _ F' H' q' s w (g.drop.push (.bl _))⟩
def dIf (t : DT) (ta tb : DE) : DE := fun env Q => t env fun c env1 => if c = true then ta env1 Q else tb env1 Q
theorem de_if {tc : DT} (hc : PT X c (liftT Y X.K tc)) (ha : PE X a (lift Y X.K ta)) (hb : PE X b (lift Y X.K tb)) : PE X (.IfExp c a b pos) (lift Y X.K (dIf tc ta tb)) :=
  PE.imp (pe_ifExp hc ha hb) fun σ H Q ⟨F, R, env, k, a, q, kk⟩ => by
    refine ⟨F, R, env, _, a, q, fun c env' F' H' q' s w g => ?_⟩
    cases c with
    | true => exact (if_pos rfl).mpr ⟨F', R, env', k, a.to s w g, (if_pos rfl).mp q', fun l env2 v F2 H2 q2 s2 w2 g2 => kk l env2 v F2 H2 q2 (s.trans s2) w2 g2⟩
    | false => exact (if_neg Bool.false_ne_true).mpr ⟨F', R, env', k, a.to s w g, (if_neg Bool.false_ne_true).mp q', fun l env2 v F2 H2 q2 s2 w2 g2 => kk l env2 v F2 H2 q2 (s.trans s2) w2 g2⟩

/-! ### arguments, displays -/
def daNil : DA := fun env Q => Q [] env
/-- by value: known for good from now on -/
def daCons (t : DE) (r : DA) : DA := fun env Q => t env fun l env1 => r env1 fun xs env2 => Q ((.fr l.toD, none) :: xs) env2
/-- handed on with all that it owns -/
def daOwn (t : DE) (r : DA) : DA := fun env Q => t env fun l env1 => r env1 fun xs env2 => Q ((l, none) :: xs) env2
/-- lent by the slot i, behind the arguments that follow -/
def daBor (i : Nat) (r : DA) : DA := fun env Q => match env[i]? with
  | some (some _) => r env fun xs env2 => (match env2[i]? with
    | some (some l) => Q ((l, some i) :: xs) (env2.set i none)
    | _ => False)
  | _ => False
theorem da_nil : PA X [] (liftA Y X.K daNil) := PA.imp pa_nil fun σ H Q ⟨F, R, env, k, a, q, kk⟩ => kk [] env [] F H q (Same.refl _) a.wf True.intro a.hold
theorem da_cons {r : DA} (ha : PE X e (lift Y X.K t)) (hr : PA X es (liftA Y X.K r)) (hs : starEach (e :: es) X.env = (false, eval e X.env) :: starEach es X.env := by rfl) : PA X (e :: es) (liftA Y X.K (daCons t r)) :=
  PA.imp (pa_cons ha hr hs) fun σ H Q ⟨F, R, env, k, a, q, kk⟩ => by
    refine ⟨F, R, env, _, a, q, fun l env1 v F1 H1 q1 s1 w1 g1 => ?_⟩
    obtain ⟨F2, s2, g2⟩ := g1.frz
    refine ⟨F2, R, env1, _, a.to (s1.trans s2) w1 g2.drop, q1, fun xs env2 vs F3 H3 q3 s3 w3 m3 g3 => ?_⟩
    exact kk _ env2 (v :: vs) F3 H3 q3 ((s1.trans s2).trans s3) w3 ⟨fun i z => by (simp at z), m3⟩ (g3.push (g2.head.mono s3))
theorem da_own {r : DA} (ha : PE X e (lift Y X.K t)) (hr : PA X es (liftA Y X.K r)) (hs : starEach (e :: es) X.env = (false, eval e X.env) :: starEach es X.env := by rfl) : PA X (e :: es) (liftA Y X.K (daOwn t r)) :=
  PA.imp (pa_cons ha hr hs) fun σ H Q ⟨F, R, env, k, a, q, kk⟩ => by
    refine ⟨F, R, env, _, a, q, fun l env1 v F1 H1 q1 s1 w1 g1 => ?_⟩
    obtain ⟨R', sR, g2, back⟩ := Hold.frame (ps := slotsP σ env1) (qs := [(v, l)]) (g1.perm (List.perm_append_comm (l₁ := [(v, l)])))
    refine ⟨F1, R', env1, _, ⟨a.f.trans s1, a.r.trans sR, a.fx, a.len, w1, g2⟩, q1, fun xs env2 vs F3 H3 q3 s3 w3 m3 g3 => ?_⟩
    refine kk _ env2 (v :: vs) F3 H3 q3 (s1.trans s3) w3 ⟨fun i z => by (simp at z), m3⟩ ?_
    refine (back F3 H3 _ s3 g3).perm ?_
    exact (List.perm_append_comm (l₂ := [(v, l)]))
theorem da_bor {i : Nat} {r : DA} (ha : PE X e (tVar i)) (hr : PA X es (liftA Y X.K r)) (hs : starEach (e :: es) X.env = (false, eval e X.env) :: starEach es X.env := by rfl) : PA X (e :: es) (liftA Y X.K (daBor i r)) :=
  PA.imp (pa_cons ha hr hs) fun σ H Q ⟨F, R, env, k, a, q, kk⟩ => by
    unfold daBor at q
    cases he0 : env[i]? with
    | none => rw [he0] at q; exact q.elim
    | some o =>
      cases o with
      | none => rw [he0] at q; exact q.elim
      | some l0 =>
        rw [he0] at q
        obtain ⟨v, hv⟩ := a.wf.get he0
        refine ⟨v, hv, F, R, env, _, a, q, fun xs env2 vs F3 H3 q3 s3 w3 m3 g3 => ?_⟩
        cases he : env2[i]? with
        | none => rw [he] at q3; exact q3.elim
        | some o =>
          cases o with
          | none => rw [he] at q3; exact q3.elim
          | some l =>
            rw [he] at q3
            have g4 : Hold X.K F3 R H3 [] (slotsP σ env2 ++ vs.zip (xs.map (·.1))) := g3.perm List.perm_append_comm
            have g5 : Hold X.K F3 R H3 [] ((v, l) :: (slotsP σ (env2.set i none) ++ vs.zip (xs.map (·.1)))) := g4.perm (List.Perm.append_right _ (slots_get he hv))
            refine kk _ (env2.set i none) (v :: vs) F3 H3 q3 s3 w3.none ⟨fun j z => ?_, m3⟩ (g5.perm (List.Perm.cons _ List.perm_append_comm))
            have z : some i = some j := z
            cases z
            exact hv
theorem Marks.len : ∀ {σ : L2.St} {vs : List V} {xs : List (L × Option Nat)}, Marks σ vs xs → vs.length = xs.length
  | _, [], [], _ => rfl
  | σ, v :: vs, x :: xs, h => by simp [Marks.len h.2]
/-- a list of written items: owned, with what it is made of -/
def dLst (t : DA) : DE := fun env Q => t env fun xs env1 => xs.length ≤ sizeLine ∧ Q (.lst (xs.map (·.1))) env1
/-- a tuple of them: known for good -/
def dTup (t : DA) : DE := fun env Q => t env fun xs env1 => xs.length ≤ sizeLine ∧ Q (.fr (.tup (L.toDs (xs.map (·.1))))) env1
theorem de_lst {t : DA} (h : PA X es (liftA Y X.K t)) : PE X (.List es pos) (lift Y X.K (dLst t)) :=
  PE.imp (pe_lst h) fun σ H Q ⟨F, R, env, k, a, q, kk⟩ => by
    refine ⟨F, R, env, _, a, q, fun xs env1 vs F1 H1 ⟨z, q1⟩ s1 w1 m1 g1 => ⟨by rw [m1.len]; exact z, fun p hp => ?_⟩⟩
    have hl : vs.length = (xs.map (·.1)).length := by rw [m1.len, List.length_map]
    have := Hold.new (s := .lst) g1 hp rfl True.intro True.intro
    rw [map_zip1 hl, map_zip2 hl] at this
    exact kk _ env1 _ F1 _ q1 s1 w1 this
theorem Hold.frzs {K : PySem.W.Frag} {R H : Hp} {Xs : List Addr} : ∀ {vs : List V} {ls : List L} {F : Hp} {ps : List (V × L)}, vs.length = ls.length → Hold K F R H Xs (vs.zip ls ++ ps) → ∃ F', Same F F' ∧ Reps K F' vs (L.toDs ls) ∧ Hold K F' R H Xs ps
  | [], [], F, ps, _, h => ⟨F, Same.refl _, by rw [L.toDs]; exact .nil, h⟩
  | v :: vs, l :: ls, F, ps, e, h => by
    obtain ⟨F1, s1, g1⟩ := Hold.frz (ps := vs.zip ls ++ ps) h
    obtain ⟨F2, s2, r, g2⟩ := Hold.frzs (by simpa using e) g1.drop
    exact ⟨F2, s1.trans s2, by rw [L.toDs]; exact .cons (g1.head.mono s2) r, g2⟩
  | [], _ :: _, _, _, e, _ => by simp at e
  | _ :: _, [], _, _, e, _ => by simp at e
theorem de_tup {t : DA} {x1} (h : PA X es (liftA Y X.K t)) : PE X (.Tuple es x1 pos) (lift Y X.K (dTup t)) :=
  PE.imp (pe_tup h) fun σ H Q ⟨F, R, env, k, a, q, kk⟩ => by
    refine ⟨F, R, env, _, a, q, fun xs env1 vs F1 H1 ⟨z, q1⟩ s1 w1 m1 g1 => ⟨by rw [m1.len]; exact z, fun p hp => ?_⟩⟩
    have hl : vs.length = (xs.map (·.1)).length := by rw [m1.len, List.length_map]
    obtain ⟨F2, s2, r, g2⟩ := g1.frzs hl
    obtain ⟨s3, g3⟩ := g2.known (o := .tup vs) hp
    exact kk _ env1 _ _ _ q1 ((s1.trans s2).trans s3) w1 (g3.push (.tup (.inl upd_same) (r.mono s3)))
end
end TL

namespace TL
open PySem PySem.Spec PyProof.Rows L2

/-! ### contracts -/
def RepX (K : PySem.W.Frag) (F : Hp) (x : DX) (cls : Value) (d : Option Addr) : Prop :=
  x.cls = cls ∧ ∃ dd vs, d = some dd ∧ F dd = some (.xd (x.ns.zip vs)) ∧ x.ns.length = vs.length ∧ Reps K F vs x.ds
def spD (K : PySem.W.Frag) (C : Con) : Sp := fun vs H Q E => ∃ F R ls k kx, vs.length = ls.length ∧ Hold K F R H [] (vs.zip ls) ∧ C ls k kx ∧
  (∀ r ls' v F' H', k r ls' → Same F F' → ls'.length = vs.length → Hold K F' R H' [] ((v, r) :: vs.zip ls') → Q v H') ∧
  (∀ x ls' cls d F' H', kx x ls' → Same F F' → ls'.length = vs.length → RepX K F' x cls d → Hold K F' R H' [] (vs.zip ls') → E cls d H')
/-- what was lent comes back -/
def restore : Ev → List (Option Nat) → List L → Ev
  | env, some i :: ms, l :: ls => restore (env.set i (some l)) ms ls
  | env, none :: ms, _ :: ls => restore env ms ls
  | env, _, _ => env
def kF : DX → List L → Prop := fun _ _ => False
def dCall (C : Con) (dds : List D) (t : DA) : DE := fun env Q => t env fun xs env1 => C (xs.map (·.1) ++ dds.map L.fr) (fun r ls' => Q r (restore env1 (xs.map (·.2)) ls')) kF

theorem Hold.unslot {K : PySem.W.Frag} {F R H : Hp} {Xs : List Addr} {σ : L2.St} {env : Ev} {qs : List (V × L)} (i : Nat) (w : Wf σ env) (h : Hold K F R H Xs (slotsP σ env ++ qs)) : Hold K F R H Xs (slotsP σ (env.set i none) ++ qs) := by
  cases he : env[i]? with
  | none =>
    rw [List.set_eq_of_length_le (List.getElem?_eq_none_iff.mp he)]
    exact h
  | some o =>
    cases o with
    | none => rw [set_self he]; exact h
    | some l =>
      obtain ⟨v, hv⟩ := w.get he
      exact (h.perm (List.Perm.append_right qs (slots_get he hv))).drop
theorem restore_wf : ∀ {σ : L2.St} {vs : List V} {xs : List (L × Option Nat)} {env : Ev} (ls : List L), Marks σ vs xs → Wf σ env → Wf σ (restore env (xs.map (·.2)) ls)
  | σ, [], [], env, ls, _, w => by cases ls <;> simpa [restore] using w
  | σ, v :: vs, (x, none) :: xs, env, [], m, w => by simpa [restore] using w
  | σ, v :: vs, (x, some i) :: xs, env, [], m, w => by simpa [restore] using w
  | σ, v :: vs, (x, none) :: xs, env, l :: ls, m, w => by
    have := restore_wf (xs := xs) ls m.2 w
    simpa [restore] using this
  | σ, v :: vs, (x, some i) :: xs, env, l :: ls, m, w => by
    have := restore_wf (xs := xs) (env := env.set i (some l)) ls m.2 (w.setL (m.1 i rfl))
    simpa [restore] using this
theorem Hold.restore {K : PySem.W.Frag} {F R H : Hp} {Xs : List Addr} : ∀ {σ : L2.St} {vs : List V} {xs : List (L × Option Nat)} {env : Ev} {ls : List L} {qs : List (V × L)}, Marks σ vs xs → Wf σ env → vs.length ≤ ls.length →
    Hold K F R H Xs (vs.zip ls ++ (slotsP σ env ++ qs)) → Hold K F R H Xs (slotsP σ (restore env (xs.map (·.2)) ls) ++ qs)
  | σ, [], [], env, ls, qs, _, w, _, h => by
    have e : TL.restore env [] ls = env := by cases ls <;> rfl
    simpa [e] using h
  | σ, v :: vs, x :: xs, env, [], qs, m, w, z, h => by simp at z
  | σ, v :: vs, (x, none) :: xs, env, l :: ls, qs, m, w, z, h => by
    have := Hold.restore (xs := xs) m.2 w (by simpa using z) (Hold.drop (ps := vs.zip ls ++ (slotsP σ env ++ qs)) h)
    simpa [TL.restore] using this
  | σ, v :: vs, (x, some i) :: xs, env, l :: ls, qs, m, w, z, h => by
    have hv := m.1 i rfl
    have h1 : Hold K F R H Xs (slotsP σ env ++ ((v, l) :: (vs.zip ls ++ qs))) := h.perm (by
      show ((v, l) :: (vs.zip ls ++ (slotsP σ env ++ qs))).Perm (slotsP σ env ++ ((v, l) :: (vs.zip ls ++ qs)))
      refine List.Perm.trans ?_ (List.perm_middle.symm)
      refine List.Perm.cons _ ?_
      rw [← List.append_assoc, ← List.append_assoc]
      exact List.Perm.append_right _ List.perm_append_comm)
    have h2 := h1.unslot i w
    have hi : i < env.length := by
      rw [← w.len]
      exact (List.getElem?_eq_some_iff.mp hv).1
    have h3 : Hold K F R H Xs (vs.zip ls ++ (slotsP σ (env.set i (some l)) ++ qs)) := h2.perm (by
      refine List.Perm.trans List.perm_middle ?_
      refine List.Perm.trans ?_ (List.Perm.append_left _ (List.Perm.append_right qs (slots_put hv hi).symm))
      show ((v, l) :: (slotsP σ (env.set i none) ++ (vs.zip ls ++ qs))).Perm (vs.zip ls ++ ((v, l) :: (slotsP σ (env.set i none) ++ qs)))
      refine List.Perm.trans ?_ (List.perm_middle.symm)
      refine List.Perm.cons _ ?_
      rw [← List.append_assoc, ← List.append_assoc]
      exact List.Perm.append_right _ List.perm_append_comm)
    have := Hold.restore (xs := xs) m.2 (w.setL hv) (by simpa using z) h3
    simpa [TL.restore] using this
theorem perm_call {α : Type} (a : α) (x y z : List α) : ((a :: (x ++ y)) ++ z).Perm (y ++ (x ++ (z ++ [a]))) := by
  have e1 : ((a :: (x ++ y)) ++ z) = [a] ++ ((x ++ y) ++ z) := rfl
  have e2 : y ++ (x ++ (z ++ [a])) = ((y ++ x) ++ z) ++ [a] := by simp [List.append_assoc]
  rw [e1, e2]
  exact List.perm_append_comm.trans (List.Perm.append_right _ (List.Perm.append_right _ List.perm_append_comm))
theorem zip_app {vs ws : List V} {ls ms : List L} (h : vs.length = ls.length) : (vs ++ ws).zip (ls ++ ms) = vs.zip ls ++ ws.zip ms := List.zip_append h

section
variable {X : Cx} {Y : Act}
theorem lift_call {C : Con} {dds : List D} {dvs : List V} {t : DA} {E : XK} (hd : Reps X.K (fun _ => none) dvs dds) {σ : L2.St} {H : Hp} {Q : VK} (h : lift Y X.K (dCall C dds t) σ H Q) : liftA Y X.K t σ H fun vs H1 => spD X.K C (vs ++ dvs) H1 Q E := by
  obtain ⟨F, R, env, k, a, q, kk⟩ := h
  refine ⟨F, R, env, _, a, q, fun xs env1 vs F1 H1 q1 s1 w1 m1 g1 => ?_⟩
  obtain ⟨R', sR, g2, back⟩ := Hold.frame g1
  have hl : vs.length = (xs.map (·.1)).length := by rw [m1.len, List.length_map]
  have rd : Reps X.K F1 dvs dds := hd.mono fun _ _ e => by cases e
  have g3 : Hold X.K F1 R' H1 [] ((vs ++ dvs).zip (xs.map (·.1) ++ dds.map L.fr)) := by
    rw [zip_app hl]
    exact (Hold.pushs rd g2).perm List.perm_append_comm
  refine ⟨F1, R', _, _, _, by rw [List.length_append, List.length_append, hl, List.length_map, List.length_map, rd.length], g3, q1, fun r ls' v F' H' q2 s2 z g4 => ?_, fun x ls' cls d F' H' q2 => q2.elim⟩
  have g5 := back F' H' _ s2 g4
  have z' : ls'.length = vs.length + dvs.length := by rw [z, List.length_append]
  have g6 : Hold X.K F' R H' [] (vs.zip ls' ++ (slotsP σ env1 ++ [(v, r)])) := by
    have e : ls' = ls'.take vs.length ++ ls'.drop vs.length := (List.take_append_drop _ _).symm
    have hl2 : vs.length = (ls'.take vs.length).length := by rw [List.length_take]; omega
    rw [e, zip_app hl2] at g5
    have e2 : vs.zip ls' = vs.zip (ls'.take vs.length) := by
      conv => lhs; rw [e]
      have := zip_app (ws := []) (ms := ls'.drop vs.length) hl2
      simpa using this
    rw [e2]
    refine Hold.dropN (ps := dvs.zip (ls'.drop vs.length)) (g5.perm ?_)
    exact perm_call _ _ _ _
  have g7 := Hold.restore m1 w1 (by omega) g6
  exact kk _ _ v F' H' q2 (s1.trans s2) (restore_wf ls' m1 w1) (g7.perm List.perm_append_comm)
theorem de_call {C : Con} {dds : List D} {dvs : List V} {ds : List Value} {t : DA} {k : Nat} {f : Addr} {fd : FuncData} {ps : List Str} {x : Str} {p pos : Pos} {e : Expr} {es : List Expr}
    (F : FnOk X.prog X.w X.K X.mg X.base (L2.CX X.prog X.w) k f fd ps (spD X.K C)) (hr : Room k X.A) (hg : Gl X x) (hm : X.mg x = some (.ref f)) (hk : PySem.W.keepIn X.K (.ref f) = true) (hb : Binds X.K fd ps ds) (hd : Vals dvs ds) (hD : Reps X.K (fun _ => none) dvs dds)
    (ha : PA X (e :: es) (liftA Y X.K t)) (hdb : (x == ("__debug__" : Str)) = false := by decide) (he : starEach (e :: es) X.env = (false, eval e X.env) :: starEach es X.env := by rfl) (hpl : (backTo pos (starEach es X.env)).any (·.1) = false := by rfl) :
    PE X (.Call (.Name x p) (e :: es) [] pos) (lift Y X.K (dCall C dds t)) :=
  PE.imp (pe_call F hr hg hm hk hb hd passL ha hdb he hpl) fun _ _ _ h => lift_call hD h
/-- a built-in, by its contract -/
def BiOk (X : Cx) (f : Value) (C : Con) : Prop := CallR X f fun vs H Q => spD X.K C vs H Q E0
theorem de_bi {C : Con} {t : DA} {id : String} {x : Str} {p pos : Pos} {e : Expr} {es : List Expr} (hc : BiOk X (.builtin id) C) (hg : Gl X x) (hm : X.mg x = none) (hv : bootBuiltins x = some (.builtin id)) (ha : PA X (e :: es) (liftA Y X.K t))
    (hn : x ≠ "__name__" := by decide) (hdb : (x == ("__debug__" : Str)) = false := by decide) (he : starEach (e :: es) X.env = (false, eval e X.env) :: starEach es X.env := by rfl) (hpl : (backTo pos (starEach es X.env)).any (·.1) = false := by rfl) :
    PE X (.Call (.Name x p) (e :: es) [] pos) (lift Y X.K (dCall C [] t)) :=
  PE.imp (pe_callB hc hg hm hv ha hn hdb he hpl) fun _ _ _ h => by
    have := lift_call (dvs := []) (E := E0) .nil h
    unfold tCB
    simpa only [List.append_nil] using this
theorem de_ty {C : Con} {t : DA} {id : String} {x : Str} {p pos : Pos} {e : Expr} {es : List Expr} (hc : BiOk X (.type id) C) (hg : Gl X x) (hm : X.mg x = none) (hv : bootBuiltins x = some (.type id)) (ha : PA X (e :: es) (liftA Y X.K t))
    (hn : x ≠ "__name__" := by decide) (hdb : (x == ("__debug__" : Str)) = false := by decide) (he : starEach (e :: es) X.env = (false, eval e X.env) :: starEach es X.env := by rfl) (hpl : (backTo pos (starEach es X.env)).any (·.1) = false := by rfl) :
    PE X (.Call (.Name x p) (e :: es) [] pos) (lift Y X.K (dCall C [] t)) :=
  PE.imp (pe_callTy hc hg hm hv ha hn hdb he hpl) fun _ _ _ h => by
    have := lift_call (dvs := []) (E := E0) .nil h
    unfold tCB
    simpa only [List.append_nil] using this
end
end TL

namespace TL
open PySem PySem.Spec PyProof.Rows L2

section
variable {X : Cx} {Y : Act} {e a b c : Expr} {es : List Expr} {pos : Pos} {st : Stmt} {rest body : List Stmt}

/-! ### blocks -/
def dsNext : DS := fun De env => De.nx env
def dsSeq (t u : DS) : DS := fun De env => t { De with nx := u De } env
theorem dss_nil : PSs X [] (liftS Y X.K dsNext) := PSs.imp pss_nil fun D σ H ⟨F, R, env, De, a, q, k⟩ => k.nx _ _ _ _ q (Same.refl _) a
theorem dss_cons {t u : DS} (h1 : PS X st (liftS Y X.K t)) (h2 : PSs X rest (liftS Y X.K u)) : PSs X (st :: rest) (liftS Y X.K (dsSeq t u)) :=
  PSs.imp (pss_cons h1 h2) fun D σ H ⟨F, R, env, De, a, q, k⟩ =>
    ⟨F, R, env, { De with nx := u De }, a, q, ⟨fun env' σ' F' H' q' s a' => ⟨F', R, env', De, a', q', k.to s⟩, k.rt, k.bk, k.ct⟩⟩
theorem dss_one {t : DS} (h1 : PS X st (liftS Y X.K t)) : PSs X [st] (liftS Y X.K t) := pss_one h1
theorem ds_pass : PS X (.Pass pos) (liftS Y X.K dsNext) := PS.imp ps_pass fun D σ H ⟨F, R, env, De, a, q, k⟩ => k.nx _ _ _ _ q (Same.refl _) a
def dsExpr (t : DE) : DS := fun De env => t env fun _ env1 => De.nx env1
theorem ds_expr {t : DE} (he : PE X e (lift Y X.K t)) (hs : swapsWith e none pos.line X.env = pure false := by rfl) : PS X (.Expr e pos) (liftS Y X.K (dsExpr t)) :=
  PS.imp (ps_expr he hs) fun D σ H ⟨F, R, env, De, a, q, k⟩ => ⟨F, R, env, _, a, q, fun l env' v F' H' q' s w g => k.nx _ _ _ _ q' s (a.to s w g.drop)⟩
def dsRet (t : DE) : DS := fun De env => t env De.rt
theorem ds_ret {t : DE} (he : PE X e (lift Y X.K t)) : PS X (.Return (some e) pos) (liftS Y X.K (dsRet t)) :=
  PS.imp (ps_ret he) fun D σ H ⟨F, R, env, De, a, q, k⟩ => ⟨F, R, env, _, a, q, fun l env' v F' H' q' s w g => k.rt _ _ _ _ _ _ q' s a.fx w g⟩
def dsRetN : DS := fun De env => De.rt (.fr .non) env
theorem ds_retN : PS X (.Return none pos) (liftS Y X.K dsRetN) :=
  PS.imp ps_retN fun D σ H ⟨F, R, env, De, a, q, k⟩ => k.rt _ _ _ _ _ _ q (Same.refl _) a.fx a.wf (a.hold.push .non)
def dsIf (c : DT) (t u : DS) : DS := fun De env => c env fun b env1 => if b = true then t De env1 else u De env1
theorem ds_if {p q : List Stmt} {tc : DT} {t u : DS} (hc : PT X c (liftT Y X.K tc)) (ha : PSs X p (liftS Y X.K t)) (hb : PSs X q (liftS Y X.K u)) : PS X (.If c p q pos) (liftS Y X.K (dsIf tc t u)) :=
  PS.imp (ps_if hc ha hb) fun D σ H ⟨F, R, env, De, a, q, k⟩ => by
    refine ⟨F, R, env, _, a, q, fun b env' F' H' q' s w g => ?_⟩
    cases b with
    | true => exact (if_pos rfl).mpr ⟨F', R, env', De, a.to s w g, (if_pos rfl).mp q', k.to s⟩
    | false => exact (if_neg Bool.false_ne_true).mpr ⟨F', R, env', De, a.to s w g, (if_neg Bool.false_ne_true).mp q', k.to s⟩
def dsNever : DS := fun _ _ => False
theorem ds_never : PS X st (liftS Y X.K dsNever) := PS.imp ps_never fun D σ H ⟨_, _, _, _, _, q, _⟩ => q

/-! ### stores -/
theorem At.set {K : PySem.W.Frag} {F F' R H H' : Hp} {σ : L2.St} {env env' : Ev} {i : Nat} {v : V} {l : L} (a : At Y K F R H σ env) (s : Same F F') (hx : ∀ q ∈ Y.fx, q.1 ≠ i) (w : Wf σ env') (g : Hold K F' R H' [] ((v, l) :: slotsP σ env')) :
    At Y K F' R H' (σ.set i (some v)) (env'.set i (some l)) := by
  refine ⟨a.f.trans s, a.r, fun q hq => ?_, by rw [List.length_set]; exact a.len, w.setV, ?_⟩
  · rw [List.getElem?_set_ne (Ne.symm (hx q hq))]
    exact a.fx q hq
  · by_cases hi : i < σ.length
    · have g1 : Hold K F' R H' [] (slotsP σ env' ++ [(v, l)]) := g.perm (List.perm_append_comm (l₁ := [(v, l)]))
      have g2 := g1.unslot i w
      refine (g2.perm List.perm_append_comm).perm ?_
      exact (slots_set hi w.len).symm
    · rw [List.set_eq_of_length_le (by omega), List.set_eq_of_length_le (by rw [← w.len]; omega)]
      exact g.drop
def dsSet (i : Nat) (t : DE) : DS := fun De env => t env fun l env1 => De.nx (env1.set i (some l))
theorem ds_set {i : Nat} {x : Str} {t : DE} {pos' : Pos} (hx0 : ∀ q ∈ Y.fx, q.1 ≠ i) (hN : X.N.Nodup) (hi : X.N[i]? = some x) (hx : Loc X.env.scope x) (he : PE X e (lift Y X.K t)) (hs : swapsWith e (some (.Name x pos')) pos.line X.env = pure false := by rfl)
    (hf : X.fn x = true ∨ X.env.scope.names.lookup x = some .local := by first | exact .inl rfl | exact .inr rfl | assumption) : PS X (.Assign [.Name x pos'] e pos) (liftS Y X.K (dsSet i t)) :=
  PS.imp (ps_set hN hi hx he hs hf) fun D σ H ⟨F, R, env, De, a, q, k⟩ => ⟨F, R, env, _, a, q, fun l env' v F' H' q' s w g => k.nx _ _ _ _ q' s (a.set s hx0 w g)⟩
def dgName (i : Nat) : DG := fun l env Q => Q (env.set i (some l))
theorem dg_name {i : Nat} {x : Str} (hx0 : ∀ q ∈ Y.fx, q.1 ≠ i) (hN : X.N.Nodup) (hi : X.N[i]? = some x) (hx : Loc X.env.scope x) (hf : X.fn x = true ∨ X.env.scope.names.lookup x = some .local := by first | exact .inl rfl | exact .inr rfl | assumption) : PG X (.Name x pos) (liftG Y X.K (dgName i)) :=
  PG.imp (pg_name hN hi hx hf) fun v σ H Q ⟨F, R, env, l, k, a, g, q, kk⟩ => kk _ _ F H q (Same.refl _) (a.set (Same.refl _) hx0 a.wf g)
def dgsNil : DGs := fun ls env Q => ls = [] ∧ Q env
def dgsCons (g : DG) (gs : DGs) : DGs := fun ls env Q => match ls with
  | l :: r => g l env fun env1 => gs r env1 Q
  | [] => False
theorem dgs_nil : PGs X [] (liftGs Y X.K dgsNil) := PGs.imp pgs_nil fun vs σ H Q ⟨F, R, env, ls, k, a, hl, g, ⟨e, q⟩, kk⟩ => by
  subst e
  exact ⟨List.length_eq_zero_iff.mp hl, kk _ _ F H q (Same.refl _) a⟩
theorem lift_gs {g : DG} {gs : DGs} {vs : List V} {σ : L2.St} {H : Hp} {Q : L2.St → Hp → Prop} (h : liftGs Y X.K (dgsCons g gs) vs σ H Q) : gCons (liftG Y X.K g) (liftGs Y X.K gs) vs σ H Q := by
  obtain ⟨F, R, env, ls, k, a, hl, g0, q, kk⟩ := h
  cases ls with
  | nil => exact q.elim
  | cons l ls =>
    cases vs with
    | nil => simp at hl
    | cons v vs =>
      obtain ⟨R', sR, g1, back⟩ := Hold.frame (ps := (v, l) :: slotsP σ env) (qs := vs.zip ls) (g0.perm (by
        show ((v, l) :: (vs.zip ls ++ slotsP σ env)).Perm ((v, l) :: (slotsP σ env ++ vs.zip ls))
        exact List.Perm.cons _ List.perm_append_comm))
      refine ⟨v, vs, rfl, F, R', env, l, _, ⟨a.f, a.r.trans sR, a.fx, a.len, a.wf, g1.drop⟩, g1, q, fun env' σ' F' H' q' s a' => ?_⟩
      have g2 := back F' H' _ s a'.hold
      exact ⟨F', R, env', ls, k, ⟨a.f.trans s, a.r, a'.fx, a'.len, a'.wf, g2.takeN⟩, by simpa using hl, g2.perm List.perm_append_comm, q', fun env2 σ2 F2 H2 q2 s2 a2 => kk _ _ _ _ q2 (s.trans s2) a2⟩
theorem dgs_cons {g : DG} {gs : DGs} (h1 : PG X e (liftG Y X.K g)) (h2 : PGs X es (liftGs Y X.K gs)) (hs : (assignEach (e :: es) X.env).map (·.2) = assign e X.env :: (assignEach es X.env).map (·.2) := by rfl) : PGs X (e :: es) (liftGs Y X.K (dgsCons g gs)) :=
  PGs.imp (pgs_cons h1 h2 hs) fun _ _ _ _ h => lift_gs h
theorem dgs_star {g : DG} {gs : DGs} {p : Pos} (h1 : PG X e (liftG Y X.K g)) (h2 : PGs X es (liftGs Y X.K gs)) (hs : (assignEach (.Starred e p :: es) X.env).map (·.2) = assign e X.env :: (assignEach es X.env).map (·.2) := by rfl) :
    PGs X (.Starred e p :: es) (liftGs Y X.K (dgsCons g gs)) := by
  refine PGs.imp (t := gCons (liftG Y X.K g) (liftGs Y X.K gs)) ⟨fun pins s σ H vs us Q I r h => ?_⟩ fun _ _ _ _ h => lift_gs h
  obtain ⟨v, vr, e1, h⟩ := h
  subst e1
  cases r with
  | cons r rr =>
    rw [hs]
    refine assignInOrder_cons (thn (h1.run pins s σ H _ _ _ I r h) fun _ s1 ⟨σ1, H1, I1, q1⟩ => ?_)
    exact h2.run pins s1 σ1 H1 _ _ Q I1 rr q1
def dgTup (n : Nat) (gs : DGs) : DG := fun l env Q => match l.toD with
  | .tup ds => ds.length = n ∧ gs (ds.map L.fr) env Q
  | _ => False
theorem Rep.tup_inv {K : PySem.W.Frag} {F : Hp} {v : V} {ds : List D} (h : Rep K F v (.tup ds)) : ∃ p vs, v = .ref p ∧ TupAt K F p vs ∧ Reps K F vs ds := by
  cases h with
  | tup a b => exact ⟨_, _, rfl, a, b⟩
theorem Rep.lst_inv {K : PySem.W.Frag} {F : Hp} {v : V} {ds : List D} (h : Rep K F v (.box .lst ds)) : ∃ p vs, v = .ref p ∧ F p = some (.lst vs) ∧ Reps K F vs ds := by
  cases h with
  | box a b c d => exact ⟨_, _, rfl, a, d⟩
theorem Rep.ro_inv {K : PySem.W.Frag} {F : Hp} {v : V} {ds : List D} (h : Rep K F v (.ro ds)) : ∃ p vs, v = .ref p ∧ SqL K F p vs ∧ Reps K F vs ds := by
  cases h with
  | ro a b => exact ⟨_, _, rfl, a, b⟩
theorem dg_tup {k n : Nat} {gs : DGs} (hc : X.calm = true) (h : PGs X es (liftGs Y X.K gs)) (hn : (assignEach es X.env).length = n := by rfl) (hst : (assignEach es X.env).findIdx? (·.1) = none := by rfl) :
    PG X (.Tuple es k pos) (liftG Y X.K (dgTup n gs)) :=
  PG.imp (pg_tup hc h hn hst) fun v σ H Q ⟨F, R, env, l, k, a, g, q, kk⟩ => by
    obtain ⟨F1, s1, g1⟩ := g.frz
    unfold dgTup at q
    have hr := g1.head
    cases hl : l.toD with
    | tup ds =>
      rw [hl] at q hr
      obtain ⟨p, vs, e, t, r⟩ := hr.tup_inv
      exact ⟨p, vs, e, Same.seqT g1.hF t.sq, by rw [r.length]; exact q.1, F1, R, env, ds.map L.fr, k, a.to s1 a.wf g1.drop, by rw [r.length, List.length_map], Hold.pushs r g1.drop, q.2, fun env2 σ2 F2 H2 q2 s2 a2 => kk _ _ _ _ q2 (s1.trans s2) a2⟩
    | _ => rw [hl] at q; exact q.elim
def dsAsg (t : DE) (g : DG) : DS := fun De env => t env fun l env1 => g l env1 De.nx
theorem ds_asg {tg : Expr} {t : DE} {g : DG} (he : PE X e (lift Y X.K t)) (hg : PG X tg (liftG Y X.K g)) (hs : swapsWithSole [tg] e pos.line X.env = pure false := by rfl) (hw : swappedStores [tg] e X.env = pure none := by rfl)
    (h1 : (assignEach [tg] X.env).map (·.2) = [assign tg X.env] := by rfl) : PS X (.Assign [tg] e pos) (liftS Y X.K (dsAsg t g)) :=
  PS.imp (ps_asg he hg hs hw h1) fun D σ H ⟨F, R, env, De, a, q, k⟩ =>
    ⟨F, R, env, _, a, q, fun l env' v F' H' q' s w g => ⟨F', R, env', l, _, a.to s w g.drop, g, q', fun env2 σ2 F2 H2 q2 s2 a2 => k.nx _ _ _ _ q2 (s.trans s2) a2⟩⟩
/-- a, b = x, y -/
def dsPar (i j : Nat) (t : DA) : DS := fun De env => t env fun xs env1 => match xs with
  | [(l, _), (m, _)] => De.nx ((env1.set i (some l)).set j (some m))
  | _ => False
theorem ds_par {i j : Nat} {x y : Str} {t : DA} {px py pt : Pos} {kt k2 pt2} (hx0 : ∀ q ∈ Y.fx, q.1 ≠ i) (hy0 : ∀ q ∈ Y.fx, q.1 ≠ j) (hc : X.calm = true) (hN : X.N.Nodup) (hi : X.N[i]? = some x) (hj : X.N[j]? = some y) (hij : i ≠ j)
    (hx : X.env.scope.names.lookup x = some .local) (hy : X.env.scope.names.lookup y = some .local) (ha : PA X [a, b] (liftA Y X.K t))
    (hw : swappedStores [.Tuple [.Name x px, .Name y py] kt pt] (.Tuple [a, b] k2 pt2) X.env = pure (some [x, y]))
    (hs : swapsWithSole [.Tuple [.Name x px, .Name y py] kt pt] (.Tuple [a, b] k2 pt2) pos.line X.env = pure false := by rfl) :
    PS X (.Assign [.Tuple [.Name x px, .Name y py] kt pt] (.Tuple [a, b] k2 pt2) pos) (liftS Y X.K (dsPar i j t)) :=
  PS.imp (ps_par hc hN hi hj hij hx hy ha hw hs) fun D σ H ⟨F, R, env, De, a, q, k⟩ => by
    refine ⟨F, R, env, _, a, q, fun xs env' vs F' H' q' s w m g => ?_⟩
    match xs, vs, m, q' with
    | [(l, o1), (m1, o2)], [v, u], m, q' =>
      refine ⟨v, u, rfl, k.nx _ _ _ _ q' s ?_⟩
      have g : Hold X.K F' R H' [] ((v, l) :: (u, m1) :: slotsP σ env') := g
      obtain ⟨R', sR, g2, back⟩ := Hold.frame (ps := (v, l) :: slotsP σ env') (qs := [(u, m1)]) (g.perm ((List.Perm.swap _ _ _).trans (List.perm_append_comm (l₁ := [(u, m1)]))))
      have a1 : At ⟨Y.F0, R', Y.fx, Y.n⟩ X.K F' R' H' σ env' := ⟨a.f.trans s, Same.refl _, a.fx, a.len, w, g2.drop⟩
      have a2 := At.set (i := i) a1 (Same.refl _) hx0 w g2
      have g3 := back F' H' _ (Same.refl _) a2.hold
      have a3 : At Y X.K F' R H' (σ.set i (some v)) (env'.set i (some l)) := ⟨a.f.trans s, a.r, a2.fx, a2.len, a2.wf, g3.takeN⟩
      exact a3.set (Same.refl _) hy0 a2.wf (g3.perm (List.perm_append_comm (l₂ := [(u, m1)])))
    | [], _, _, q' => exact q'.elim
    | [_], _, _, q' => exact q'.elim
    | _ :: _ :: _ :: _, _, _, q' => exact q'.elim
def dsAug (i : Nat) (t : DE) (f : Op2) : DS := fun De env => match env[i]? with
  | some (some (.fr d)) => t env fun l env1 => f d l.toD fun r => De.nx (env1.set i (some r))
  | _ => False
theorem ds_aug {i : Nat} {x : Str} {t : DE} {f : Op2} {op : Operator} {pos' : Pos} (hx0 : ∀ q ∈ Y.fx, q.1 ≠ i) (hN : X.N.Nodup) (hi : X.N[i]? = some x) (hx : Loc X.env.scope x) (he : PE X e (lift Y X.K t)) (ho : OpR X (inplaceOp op) (liftO X.K f))
    (hf : X.fn x = true ∨ X.env.scope.names.lookup x = some .local := by first | exact .inl rfl | exact .inr rfl | assumption) : PS X (.AugAssign (.Name x pos') op e pos) (liftS Y X.K (dsAug i t f)) :=
  PS.imp (ps_aug hN hi hx he ho hf) fun D σ H ⟨F, R, env, De, a, q, k⟩ => by
    unfold dsAug at q
    cases hev : env[i]? with
    | none => rw [hev] at q; exact q.elim
    | some o =>
      rw [hev] at q
      cases o with
      | none => exact q.elim
      | some l =>
        cases l with
        | box s ls => exact q.elim
        | fr d =>
          obtain ⟨v, hv⟩ := a.wf.get hev
          have hr := (a.hold.perm (slots_get hev hv)).head
          refine ⟨v, hv, F, R, env, _, a, q, fun l env' u F' H' q' s w g => ?_⟩
          obtain ⟨F1, s1, g1⟩ := g.frz
          exact ⟨F1, R, _, _, _, _, g1.drop, hr.mono (s.trans s1), g1.head, q', fun r z F2 H2 q2 s2 g2 => k.nx _ _ _ _ q2 ((s.trans s1).trans s2) (a.set ((s.trans s1).trans s2) hx0 w g2)⟩

/-! ### while -/
def whileN (c : DT) (tb : DS) (De : DEnds) : Nat → Ev → Prop
  | 0, _ => False
  | n + 1, env => c env fun b env1 => if b = true then tb { De with nx := whileN c tb De n, ct := whileN c tb De n, bk := De.nx } env1 else De.nx env1
def dsWhile (c : DT) (tb : DS) : DS := fun De env => ∃ n, whileN c tb De n env
theorem ds_while {c : Expr} {tc : DT} {tb : DS} (hp : PassesOwn (model X.prog X.w) X.A X.env X.xe) (hc : PT X c (liftT Y X.K tc)) (hb : PSs X body (liftS Y X.K tb)) : PS X (.While c body [] pos) (liftS Y X.K (dsWhile tc tb)) :=
  PS.imp (ps_while hp hc hb) fun D σ H ⟨F, R, env, De, a, ⟨n, q⟩, k⟩ => by
    refine ⟨fun m σ' H' => ∃ F' env', Same F F' ∧ At Y X.K F' R H' σ' env' ∧ whileN tc tb De m env', ⟨n, F, env, Same.refl _, a, q⟩, ?_⟩
    rintro m σ' H' ⟨F', env', s, a', q'⟩
    cases m with
    | zero => exact q'.elim
    | succ m =>
      refine ⟨F', R, env', _, a', q', fun b env2 F2 H2 q2 s2 w2 g2 => ?_⟩
      cases b with
      | false => exact (if_neg Bool.false_ne_true).mpr (k.nx _ _ _ _ ((if_neg Bool.false_ne_true).mp q2) (s.trans s2) (a'.to s2 w2 g2))
      | true =>
        refine (if_pos rfl).mpr ⟨fun σ' H' => ∃ F' env', Same F F' ∧ At Y X.K F' R H' σ' env' ∧ whileN tc tb De m env', fun σ3 H3 h3 => ⟨m, Nat.lt_succ_self m, h3⟩, ?_⟩
        exact ⟨F2, R, env2, _, a'.to s2 w2 g2, (if_pos rfl).mp q2, ⟨fun env3 σ3 F3 H3 q3 s3 a3 => ⟨F3, env3, (s.trans s2).trans s3, a3, q3⟩, (k.to (s.trans s2)).rt, (k.to (s.trans s2)).nx, fun env3 σ3 F3 H3 q3 s3 a3 => ⟨F3, env3, (s.trans s2).trans s3, a3, q3⟩⟩⟩

/-! ### what a loop walks -/
structure WalkD (K : PySem.W.Frag) (F : Hp) (J : It) (ds : List D) : Prop where
  goes : ∀ i F' H, i < ds.length → Same F F' → Same F' H → J.go i H
  stops : ∀ F' H, Same F F' → Same F' H → J.stop ds.length H
  yields : ∀ i x H H' F' R Xs ps d, J.yld i H x H' → ds[i]? = some d → Same F F' → Hold K F' R H Xs ps → ∃ F3, Same F' F3 ∧ Hold K F3 R H' Xs ps ∧ Rep K F3 x d
theorem WalkD.mono {K : PySem.W.Frag} {F F' : Hp} {J : It} {ds : List D} (w : WalkD K F J ds) (s : Same F F') : WalkD K F' J ds :=
  ⟨fun i F2 H h a b => w.goes i F2 H h (s.trans a) b, fun F2 H a b => w.stops F2 H (s.trans a) b, fun i x H H' F2 R Xs ps d y e a g => w.yields i x H H' F2 R Xs ps d y e (s.trans a) g⟩
abbrev DI := Ev → (List D → Ev → Prop) → Prop
def liftI (Y : Act) (K : PySem.W.Frag) (t : DI) : TI := fun σ H Q => ∃ F R env k, At Y K F R H σ env ∧ t env k ∧
  ∀ ds env' F' H' J, k ds env' → Same F F' → Wf σ env' → Hold K F' R H' [] (slotsP σ env') → WalkD K F' J ds → Q J H'
theorem PI.imp {tg : Expr} {t t' : TI} (h : PI X tg e t) (i : ∀ σ H Q, t' σ H Q → t σ H Q) : PI X tg e t' := ⟨fun pins s σ H Q I q => h.run pins s σ H Q I (i _ _ _ q)⟩
def forD (g : DG) (tb : DS) (De : DEnds) : List D → Ev → Prop
  | [], env => De.nx env
  | d :: ds, env => g (.fr d) env fun env1 => tb { De with nx := forD g tb De ds, ct := forD g tb De ds, bk := De.nx } env1
def dsFor (ti : DI) (g : DG) (tb : DS) : DS := fun De env => ti env fun ds env1 => forD g tb De ds env1
theorem ds_for {tg iter : Expr} {ti : DI} {g : DG} {tb : DS} (hp : PassesOwn (model X.prog X.w) X.A X.env X.xe) (hc : X.calm = true) (hi : PI X tg iter (liftI Y X.K ti)) (hg : PG X tg (liftG Y X.K g)) (hb : PSs X body (liftS Y X.K tb)) (hs : ∀ x, foldedSetIterable iter X.env x = pure x := by intro _; rfl) :
    PS X (.For tg iter body [] pos) (liftS Y X.K (dsFor ti g tb)) :=
  PS.imp (ps_for hp hc hi hg hb hs) fun D σ H ⟨F, R, env, De, a, q, k⟩ => by
    refine ⟨F, R, env, _, a, q, fun ds env1 F1 H1 J q1 s1 w1 g1 wk => ?_⟩
    refine ⟨fun i m σ' H' => m = ds.length - i ∧ i ≤ ds.length ∧ ∃ F' env', Same F1 F' ∧ At Y X.K F' R H' σ' env' ∧ forD g tb De (ds.drop i) env', ⟨_, rfl, Nat.zero_le _, F1, env1, Same.refl _, a.to s1 w1 g1, q1⟩, ?_⟩
    rintro i m σ' H' ⟨rfl, hi, F', env', s, a', q'⟩
    by_cases hlt : i < ds.length
    · refine .inr ⟨wk.goes i F' H' hlt s a'.hold.hF, fun σ' H' => ∃ F' env', Same F1 F' ∧ At Y X.K F' R H' σ' env' ∧ forD g tb De (ds.drop (i + 1)) env', fun σ3 H3 h3 => ⟨ds.length - (i + 1), by omega, rfl, hlt, h3⟩, fun x H2 y => ?_⟩
      have hd : ds[i]? = some ds[i] := List.getElem?_eq_getElem hlt
      obtain ⟨F3, s3, g3, r3⟩ := wk.yields i x H' H2 F' R [] _ _ y hd s a'.hold
      rw [List.drop_eq_getElem_cons hlt] at q'
      refine ⟨F3, R, env', _, _, a'.to s3 a'.wf g3, g3.push r3, q', fun env4 σ4 F4 H4 q4 s4 a4 => ?_⟩
      have s04 := s.trans (s3.trans s4)
      refine ⟨F4, R, env4, _, a4, q4, ⟨fun env5 σ5 F5 H5 q5 s5 a5 => ⟨F5, env5, s04.trans s5, a5, q5⟩, (k.to (s1.trans s04)).rt, (k.to (s1.trans s04)).nx, fun env5 σ5 F5 H5 q5 s5 a5 => ⟨F5, env5, s04.trans s5, a5, q5⟩⟩⟩
    · have e : i = ds.length := by omega
      subst e
      rw [List.drop_length] at q'
      exact .inl ⟨wk.stops F' H' s a'.hold.hF, k.nx _ _ _ _ q' (s1.trans s) a'⟩
end
end TL

namespace TL
open PySem PySem.Spec PyProof.Rows L2

theorem Reps.get {K : PySem.W.Frag} {F : Hp} : ∀ {vs : List V} {ds : List D} {i : Nat} {v : V} {d : D}, Reps K F vs ds → vs[i]? = some v → ds[i]? = some d → Rep K F v d
  | _, _, 0, _, _, .cons r _, h, q => by simp at h q; subst h; subst q; exact r
  | _, _, i + 1, _, _, .cons _ r, h, q => Reps.get (i := i) r (by simpa using h) (by simpa using q)
  | _, _, _, _, _, .nil, h, _ => by simp at h
theorem Reps.some {K : PySem.W.Frag} {F : Hp} {vs : List V} {ds : List D} {i : Nat} (r : Reps K F vs ds) (h : i < ds.length) : ∃ v, vs[i]? = Option.some v :=
  ⟨_, List.getElem?_eq_getElem (by rw [r.length]; exact h)⟩
section
variable {K : PySem.W.Frag} {F : Hp} {p : Addr} {vs : List V} {ds : List D}
theorem walkL (h : SqL K F p vs) (r : Reps K F vs ds) : WalkD K F (Itl K p) ds where
  goes := fun i F' H hi s s' => by
    obtain ⟨v, hv⟩ := r.some hi
    exact ⟨vs, v, (s.trans s').seq h, hv⟩
  stops := fun F' H s s' => ⟨vs, (s.trans s').seq h, by rw [r.length]; exact Nat.le_refl _⟩
  yields := fun i x H H' F' R Xs ps d ⟨e, y⟩ hd s g => by
    subst e
    exact ⟨F', Same.refl _, g, (r.get (y vs ((s.trans g.hF).seq h)) hd).mono s⟩
theorem walkT (h : SqT K F p vs) (r : Reps K F vs ds) : WalkD K F (Itt K p) ds where
  goes := fun i F' H hi s s' => by
    obtain ⟨v, hv⟩ := r.some hi
    exact ⟨vs, v, Same.seqT (s.trans s') h, hv⟩
  stops := fun F' H s s' => ⟨vs, Same.seqT (s.trans s') h, by rw [r.length]; exact Nat.le_refl _⟩
  yields := fun i x H H' F' R Xs ps d ⟨e, y⟩ hd s g => by
    subst e
    exact ⟨F', Same.refl _, g, (r.get (y vs (Same.seqT (s.trans g.hF) h)) hd).mono s⟩
/-- the ints from lo on -/
def rngD (lo : Int) (n : Nat) : List D := (List.range n).map fun i : Nat => D.int (lo + (i : Int))
theorem rngD_length (lo : Int) (n : Nat) : (rngD lo n).length = n := by simp [rngD]
theorem walkR (lo : Int) (n : Nat) : WalkD K F (Itr lo n) (rngD lo n) where
  goes := fun i F' H hi s s' => by rw [rngD_length] at hi; exact hi
  stops := fun F' H s s' => by rw [rngD_length]; exact Nat.le_refl _
  yields := fun i x H H' F' R Xs ps d ⟨e, y⟩ hd s g => by
    subst e; subst y
    have hi : i < n := by
      have := (List.getElem?_eq_some_iff.mp hd).1
      rwa [rngD_length] at this
    simp [rngD, hi] at hd
    subst hd
    exact ⟨F', Same.refl _, g, .int _⟩
end

section
variable {X : Cx} {Y : Act} {e a b c : Expr} {es : List Expr} {pos : Pos} {tg : Expr}
def diSeq (t : DE) : DI := fun env Q => t env fun l env1 => match l.toD with
  | .box .lst ds => Q ds env1
  | _ => False
def diTup (t : DE) : DI := fun env Q => t env fun l env1 => match l.toD with
  | .tup ds => Q ds env1
  | _ => False
theorem di_list {t : DE} (h : PE X e (lift Y X.K t)) : PI X tg e (liftI Y X.K (diSeq t)) :=
  PI.imp (pi_list h) fun σ H Q ⟨F, R, env, k, a, q, kk⟩ => by
    refine ⟨F, R, env, _, a, q, fun l env1 v F1 H1 q1 s1 w1 g1 => ?_⟩
    obtain ⟨F2, s2, g2⟩ := g1.frz
    have hr := g2.head
    split at q1
    · rename_i ds hl
      rw [hl] at hr
      obtain ⟨p, vs, e, h, r⟩ := hr.lst_inv
      have hs : SqL X.K F2 p vs := SqL.of h
      exact ⟨p, e, ⟨vs, g2.hF.seq hs⟩, kk _ _ F2 H1 _ q1 (s1.trans s2) w1 g2.drop (walkL hs r)⟩
    · exact q1.elim
theorem di_tup {t : DE} (h : PE X e (lift Y X.K t)) : PI X tg e (liftI Y X.K (diTup t)) :=
  PI.imp (pi_tup h) fun σ H Q ⟨F, R, env, k, a, q, kk⟩ => by
    refine ⟨F, R, env, _, a, q, fun l env1 v F1 H1 q1 s1 w1 g1 => ?_⟩
    obtain ⟨F2, s2, g2⟩ := g1.frz
    have hr := g2.head
    split at q1
    · rename_i ds hl
      rw [hl] at hr
      obtain ⟨p, vs, e, h, r⟩ := hr.tup_inv
      exact ⟨p, e, ⟨vs, Same.seqT g2.hF h.sq⟩, kk _ _ F2 H1 _ q1 (s1.trans s2) w1 g2.drop (walkT h.sq r)⟩
    · exact q1.elim
def diRange1 (t : DA) : DI := fun env Q => t env fun xs env1 => match xs with
  | [(.fr (.int j), _)] => (-(2 ^ 62) ≤ j ∧ j < 2 ^ 62) ∧ Q (rngD 0 j.toNat) env1
  | _ => False
def diRange2 (t : DA) : DI := fun env Q => t env fun xs env1 => match xs with
  | [(.fr (.int i), _), (.fr (.int j), _)] => (-(2 ^ 62) ≤ i ∧ i < 2 ^ 62 ∧ -(2 ^ 62) ≤ j ∧ j < 2 ^ 62) ∧ Q (rngD i (j - i).toNat) env1
  | _ => False
theorem di_range1 {t : DA} {p : Pos} (hg : Gl X "range") (hm : X.mg "range" = none) (ha : PA X [a] (liftA Y X.K t)) (hs : starEach [a] X.env = [(false, eval a X.env)] := by rfl) : PI X tg (.Call (.Name "range" p) [a] [] pos) (liftI Y X.K (diRange1 t)) :=
  PI.imp (pi_range1 hg hm ha hs) fun σ H Q ⟨F, R, env, k, a, q, kk⟩ => by
    refine ⟨F, R, env, _, a, q, fun xs env1 vs F1 H1 q1 s1 w1 m1 g1 => ?_⟩
    split at q1
    · rename_i j o
      match vs, m1 with
      | [v], m =>
        have g : Hold X.K F1 R H1 [] ((v, .fr (.int j)) :: slotsP σ env1) := g1
        exact ⟨j, by rw [g.head.int_inv], q1.1.1, q1.1.2, kk _ _ F1 H1 _ q1.2 s1 w1 g.drop (walkR 0 _)⟩
    · exact q1.elim
theorem di_range2 {t : DA} {p : Pos} (hg : Gl X "range") (hm : X.mg "range" = none) (ha : PA X [a, b] (liftA Y X.K t)) (hs : starEach [a, b] X.env = [(false, eval a X.env), (false, eval b X.env)] := by rfl) (hs2 : starEach [b] X.env = [(false, eval b X.env)] := by rfl) :
    PI X tg (.Call (.Name "range" p) [a, b] [] pos) (liftI Y X.K (diRange2 t)) :=
  PI.imp (pi_range2 hg hm ha hs hs2) fun σ H Q ⟨F, R, env, k, a, q, kk⟩ => by
    refine ⟨F, R, env, _, a, q, fun xs env1 vs F1 H1 q1 s1 w1 m1 g1 => ?_⟩
    split at q1
    · rename_i i o j o'
      match vs, m1 with
      | [v, u], m =>
        have g : Hold X.K F1 R H1 [] ((v, .fr (.int i)) :: (u, .fr (.int j)) :: slotsP σ env1) := g1
        exact ⟨i, j, by rw [g.head.int_inv, g.drop.head.int_inv], q1.1, kk _ _ F1 H1 _ q1.2 s1 w1 g.drop.drop (walkR i _)⟩
    · exact q1.elim
end

/-! ### comprehensions -/
def wipeE : Ev → List Nat → Ev
  | env, [] => env
  | env, v :: vs => (wipeE env vs).set v none
theorem wipeE_wf : ∀ {own : List Nat} {σ : L2.St} {env : Ev}, Wf σ env → Wf σ (wipeE env own)
  | [], _, _, w => w
  | v :: vs, _, _, w => (wipeE_wf (own := vs) w).none
theorem wipeE_length : ∀ {own : List Nat} {env : Ev}, (wipeE env own).length = env.length
  | [], _ => rfl
  | v :: vs, env => by rw [wipeE, List.length_set, wipeE_length]
theorem wipeE_at : ∀ {own : List Nat} {env : Ev} {i : Nat}, i ∈ own → i < env.length → (wipeE env own)[i]? = some none
  | v :: vs, env, i, h, hl => by
    rw [wipeE]
    by_cases e : i = v
    · rw [e, List.getElem?_set_self (by rw [wipeE_length]; omega)]
    · rw [List.getElem?_set_ne (Ne.symm e)]
      rcases List.mem_cons.mp h with z | z
      · exact absurd z e
      · exact wipeE_at z hl
theorem wipe_at : ∀ {own : List Nat} {σ : L2.St} {i : Nat}, i ∈ own → i < σ.length → (wipe σ own)[i]? = some none
  | v :: vs, σ, i, h, hl => by
    rw [wipe]
    by_cases e : i = v
    · rw [e, List.getElem?_set_self (by rw [wipe_length]; omega)]
    · rw [List.getElem?_set_ne (Ne.symm e)]
      rcases List.mem_cons.mp h with z | z
      · exact absurd z e
      · exact wipe_at z hl
theorem slots_wipe : ∀ {own : List Nat} {σ : L2.St} {env : Ev}, (∀ i ∈ own, i < env.length → env[i]? = some none) → slotsP (wipe σ own) env = slotsP σ env
  | [], _, _, _ => rfl
  | v :: vs, σ, env, h => by
    rw [wipe]
    by_cases hv : v < env.length
    · conv => lhs; rw [← set_self (h v List.mem_cons_self hv)]
      rw [slots_setN, set_self (h v List.mem_cons_self hv)]
      exact slots_wipe fun i hi => h i (List.mem_cons_of_mem _ hi)
    · have e : ∀ {τ : L2.St}, slotsP (τ.set v none) env = slotsP τ env := fun {τ} => by
        have e2 : env = env.set v none := (List.set_eq_of_length_le (by omega)).symm
        rw [e2, slots_setN, ← e2]
      rw [e]
      exact slots_wipe fun i hi => h i (List.mem_cons_of_mem _ hi)
theorem Wf.unset : ∀ {σ : L2.St} {env : Ev} {v : Nat}, Wf (σ.set v .none) env → Wf σ env
  | [], [], _, _ => trivial
  | [], _ :: _, v, h => by simp [Wf] at h
  | o :: σ, e :: env, 0, h => ⟨(fun q => by have := h.1 q; cases this), h.2⟩
  | o :: σ, e :: env, v + 1, h => ⟨h.1, Wf.unset h.2⟩
  | o :: σ, [], v, h => by cases v <;> simp [Wf] at h
theorem Wf.unwipe : ∀ {own : List Nat} {σ : L2.St} {env : Ev}, Wf (wipe σ own) env → Wf σ env
  | [], _, _, w => w
  | v :: vs, _, _, w => Wf.unwipe (own := vs) (Wf.unset w)
theorem Wf.reset : ∀ {σ : L2.St} {env : Ev} {v : Nat}, (v < env.length → env[v]? = Option.some Option.none) → Wf σ env → Wf (σ.set v Option.none) env
  | [], [], _, _, _ => trivial
  | o :: σ, e :: env, 0, h, w => ⟨(fun q => by have := h (by simp); simp at this; subst this; cases q), w.2⟩
  | o :: σ, e :: env, v + 1, h, w => ⟨w.1, Wf.reset (fun hl => by simpa using h (by simpa using hl)) w.2⟩
theorem Wf.wipe : ∀ {own : List Nat} {σ : L2.St} {env : Ev}, (∀ i ∈ own, i < env.length → env[i]? = some Option.none) → Wf σ env → Wf (L2.wipe σ own) env
  | [], _, _, _, w => w
  | v :: vs, σ, env, h, w => Wf.reset (h v List.mem_cons_self) (Wf.wipe (own := vs) (fun i hi => h i (List.mem_cons_of_mem _ hi)) w)
theorem Hold.unwipe {K : PySem.W.Frag} {F R H : Hp} {Xs : List Addr} {qs : List (V × L)} : ∀ {own : List Nat} {σ : L2.St} {env : Ev}, Wf σ env → Hold K F R H Xs (slotsP σ env ++ qs) → Hold K F R H Xs (slotsP σ (wipeE env own) ++ qs)
  | [], _, _, _, h => h
  | v :: vs, σ, env, w, h => (Hold.unwipe (own := vs) w h).unslot v (wipeE_wf w)

def compD (own : List Nat) (g : DG) (tt : DT) (te : DE) (Q : List L → Ev → Prop) : List D → List L → Ev → Prop
  | [], acc, env => Q acc env
  | d :: ds, acc, env => g (.fr d) env fun env1 => tt env1 fun b env2 => if b = true then te env2 fun l env3 => acc.length < sizeLine ∧ compD own g tt te Q ds (acc ++ [l]) (wipeE env3 own) else compD own g tt te Q ds acc (wipeE env2 own)
def dComp (ti : DI) (own : List Nat) (g : DG) (tt : DT) (te : DE) : DE := fun env Q => ti env fun ds env1 => compD own g tt te (fun acc env2 => Q (.lst acc) env2) ds [] (wipeE env1 own)
def dtYes : DT := fun env Q => Q true env
/-- the frame of a comprehension's turn -/
def blkFx (σ : L2.St) (own : List Nat) : List (Nat × Option V) := (List.range σ.length).filterMap fun i => if i ∈ own then none else some (i, (σ[i]?).getD none)
theorem blkFx_out {σ : L2.St} {own : List Nat} : ∀ q ∈ blkFx σ own, q.1 ∉ own := fun q h => by
  obtain ⟨i, hi, e⟩ := List.mem_filterMap.mp h
  split at e
  · cases e
  · cases e; assumption
theorem blkFx_in {σ : L2.St} {own : List Nat} : ∀ q ∈ blkFx σ own, σ[q.1]? = some q.2 := fun q h => by
  obtain ⟨i, hi, e⟩ := List.mem_filterMap.mp h
  split at e
  · cases e
  · cases e
    have hl : i < σ.length := List.mem_range.mp hi
    show σ[i]? = some ((σ[i]?).getD none)
    rw [List.getElem?_eq_getElem hl]
    rfl
theorem blkFx_mem {σ : L2.St} {own : List Nat} {i : Nat} (h : i < σ.length) (ho : i ∉ own) : (i, (σ[i]?).getD none) ∈ blkFx σ own :=
  List.mem_filterMap.mpr ⟨i, List.mem_range.mpr h, by rw [if_neg ho]⟩
theorem wipe_eq {σ σ2 : L2.St} {own : List Nat} (hl : σ2.length = σ.length) (h : ∀ q ∈ blkFx (L2.wipe σ own) own, σ2[q.1]? = some q.2) : L2.wipe σ2 own = L2.wipe σ own := by
  refine List.ext_getElem? fun i => ?_
  by_cases hi : i < σ.length
  · by_cases ho : i ∈ own
    · rw [wipe_at ho hi, wipe_at ho (by omega)]
    · rw [wipe_out ho]
      have := h _ (blkFx_mem (σ := L2.wipe σ own) (by rw [wipe_length]; exact hi) ho)
      rw [this]
      have hl : i < (L2.wipe σ own).length := by rw [wipe_length]; exact hi
      rw [List.getElem?_eq_getElem hl]
      rfl
  · rw [List.getElem?_eq_none_iff.mpr (by rw [wipe_length]; omega), List.getElem?_eq_none_iff.mpr (by rw [wipe_length]; omega)]

section
variable {X : Cx} {Y : Act} {elt tg iter : Expr} {pos : Pos}
/-- some frame of a turn -/
def YOk (own : List Nat) (Y : Act) : Prop := ∀ q ∈ Y.fx, q.1 ∉ own
theorem pg_some {X : Cx} {g : DG} {own : List Nat} (h : ∀ Y, YOk own Y → PG X tg (liftG Y X.K g)) : PG X tg (fun v σ H Q => ∃ Y, YOk own Y ∧ liftG Y X.K g v σ H Q) :=
  ⟨fun pins s σ H v u Q I r ⟨Y, y, q⟩ => (h Y y).run pins s σ H v u Q I r q⟩
theorem pe_some {X : Cx} {t : DE} {own : List Nat} (h : ∀ Y, YOk own Y → PE X elt (lift Y X.K t)) : PE X elt (fun σ H Q => ∃ Y, YOk own Y ∧ lift Y X.K t σ H Q) :=
  ⟨fun pins s σ H Q I ⟨Y, y, q⟩ => (h Y y).run pins s σ H Q I q⟩
theorem pts_some {X : Cx} {ifs : List Expr} {t : DT} {own : List Nat} (h : ∀ Y, YOk own Y → PTs X ifs (liftT Y X.K t)) : PTs X ifs (fun σ H Q => ∃ Y, YOk own Y ∧ liftT Y X.K t σ H Q) :=
  ⟨fun pins s σ H Q I ⟨Y, y, q⟩ => (h Y y).run pins s σ H Q I q⟩
theorem PTs.imp {X : Cx} {ifs : List Expr} {t t' : TT} (h : PTs X ifs t) (i : ∀ σ H Q, t' σ H Q → t σ H Q) : PTs X ifs t' := ⟨fun pins s σ H Q I q => h.run pins s σ H Q I (i _ _ _ q)⟩
theorem dts_nil : PTs X [] (liftT Y X.K dtYes) := PTs.imp pts_nil fun σ H Q ⟨F, R, env, k, a, q, kk⟩ => kk _ _ F H q (Same.refl _) a.wf a.hold
theorem dts_one {c : Expr} {t : DT} (h : PT X c (liftT Y X.K t)) : PTs X [c] (liftT Y X.K t) := pts_one h

theorem lift_comp {ti : DI} {own : List Nat} {g : DG} {tt : DT} {te : DE} {σ : L2.St} {H : Hp} {Q : VK} (h : lift Y X.K (dComp ti own g tt te) σ H Q) :
    tLc (liftI Y X.K ti) (fun v σ H Q => ∃ Y, YOk own Y ∧ liftG Y X.K g v σ H Q) (fun σ H Q => ∃ Y, YOk own Y ∧ liftT Y X.K tt σ H Q) (fun σ H Q => ∃ Y, YOk own Y ∧ lift Y X.K te σ H Q) own σ H Q := by
  obtain ⟨F, R, env, k, a, q, kk⟩ := h
  refine ⟨F, R, env, _, a, q, fun ds env1 F1 H1 J q1 s1 w1 g1 wk Da hD => ?_⟩
  have no1 : ∀ (e : Ev), ∀ i ∈ own, i < (wipeE e own).length → (wipeE e own)[i]? = some none := fun e i hi hl => wipeE_at hi (by rw [wipeE_length] at hl; exact hl)
  have sl : ∀ (e : Ev), slotsP (L2.wipe σ own) (wipeE e own) = slotsP σ (wipeE e own) := fun e => slots_wipe (no1 e)
  have g1' : Hold X.K F1 R H1 [] (slotsP (L2.wipe σ own) (wipeE env1 own)) := by
    rw [sl]
    have := Hold.unwipe (own := own) (qs := []) w1 (by simpa using g1)
    simpa using this
  have g2 : Hold X.K F1 R (upd H1 Da (.lst [])) [] ((.ref Da, .lst []) :: slotsP (L2.wipe σ own) (wipeE env1 own)) := Hold.new (s := .lst) (qs := []) g1' hD rfl True.intro True.intro
  refine ⟨fun i m H' => m = ds.length - i ∧ i ≤ ds.length ∧ ∃ F' env' acc, Same F1 F' ∧ (∀ i ∈ own, i < env'.length → env'[i]? = some none) ∧ Wf (L2.wipe σ own) env' ∧ Hold X.K F' R H' [] ((.ref Da, .lst acc) :: slotsP (L2.wipe σ own) env') ∧
      compD own g tt te (fun acc env2 => k (.lst acc) env2) (ds.drop i) acc env', ⟨_, rfl, Nat.zero_le _, F1, wipeE env1 own, [], Same.refl _, no1 env1, Wf.wipe (no1 env1) (wipeE_wf w1), g2, q1⟩, ?_⟩
  rintro i m H' ⟨rfl, hi, F', env', acc, s, no, w, g, q'⟩
  by_cases hlt : i < ds.length
  · refine .inr ⟨wk.goes i F' H' hlt s g.hF, fun H' => ∃ F' env' acc, Same F1 F' ∧ (∀ i ∈ own, i < env'.length → env'[i]? = some none) ∧ Wf (L2.wipe σ own) env' ∧ Hold X.K F' R H' [] ((.ref Da, .lst acc) :: slotsP (L2.wipe σ own) env') ∧
        compD own _ tt te (fun acc env2 => k (.lst acc) env2) (ds.drop (i + 1)) acc env', fun H3 h3 => ⟨ds.length - (i + 1), by omega, rfl, hlt, h3⟩, fun x H2 y => ?_⟩
    have hd : ds[i]? = some ds[i] := List.getElem?_eq_getElem hlt
    obtain ⟨R', sR, ga, back⟩ := Hold.frame (ps := slotsP (L2.wipe σ own) env') (qs := [(.ref Da, .lst acc)]) (g.perm (List.perm_append_comm (l₁ := [(V.ref Da, L.lst acc)])))
    obtain ⟨F3, s3, g3, r3⟩ := wk.yields i x H' H2 F' R' [] _ _ y hd s ga
    rw [List.drop_eq_getElem_cons hlt] at q'
    have hY : YOk own ⟨F3, R', blkFx (L2.wipe σ own) own, σ.length⟩ := blkFx_out
    have hA : At ⟨F3, R', blkFx (L2.wipe σ own) own, σ.length⟩ X.K F3 R' H2 (L2.wipe σ own) env' := ⟨Same.refl _, Same.refl _, blkFx_in, wipe_length σ own, w, g3⟩
    refine ⟨_, hY, F3, R', env', _, _, hA, g3.push r3, q', fun env4 σ4 F4 H4 q4 s4 a4 => ?_⟩
    have we : L2.wipe σ4 own = L2.wipe σ own := wipe_eq a4.len a4.fx
    refine ⟨we, ?_⟩
    have hY4 : YOk own ⟨F4, R', blkFx (L2.wipe σ own) own, σ.length⟩ := blkFx_out
    have sl4 : ∀ (e : Ev), slotsP σ4 (wipeE e own) = slotsP (L2.wipe σ own) (wipeE e own) := fun e => by rw [← we]; exact (slots_wipe (no1 e)).symm
    refine ⟨_, hY4, F4, R', env4, _, ⟨Same.refl _, Same.refl _, a4.fx, a4.len, a4.wf, a4.hold⟩, q4, fun b env5 F5 H5 q5 s5 w5 g5 => ?_⟩
    have s05 : Same F' F5 := s3.trans (s4.trans s5)
    cases b with
    | false =>
      refine (if_neg Bool.false_ne_true).mpr ⟨F5, wipeE env5 own, acc, s.trans s05, no1 env5, ?_, ?_, (if_neg Bool.false_ne_true).mp q5⟩
      · rw [← we]; exact Wf.wipe (no1 env5) (wipeE_wf w5)
      · have b1 := back F5 H5 _ s05 g5
        have b2 := Hold.unwipe (own := own) w5 b1
        rw [sl4] at b2
        exact b2.perm (List.perm_append_comm (l₂ := [(V.ref Da, L.lst acc)]))
    | true =>
      have hY5 : YOk own ⟨F5, R', blkFx (L2.wipe σ own) own, σ.length⟩ := blkFx_out
      refine (if_pos rfl).mpr ⟨_, hY5, F5, R', env5, _, ⟨Same.refl _, Same.refl _, a4.fx, a4.len, w5, g5⟩, (if_pos rfl).mp q5, fun l env6 v F6 H6 q6 s6 w6 g6 => ?_⟩
      have b1 := back F6 H6 _ (s05.trans s6) g6
      have b2 : Hold X.K F6 R H6 [] ((.ref Da, .lst acc) :: ((v, l) :: slotsP σ4 env6)) := b1.perm (List.perm_append_comm (l₂ := [(V.ref Da, L.lst acc)]))
      obtain ⟨p, dx, vs, ep, eH, _, _, el, b3⟩ := b2.open
      cases ep
      have hlen : acc.length < sizeLine := q6.1
      refine ⟨vs, eH, by rw [el]; exact hlen, ?_⟩
      have b4 : Hold X.K F6 R H6 (Shape.lst.adr Da dx ++ []) ((vs.zip acc ++ [(v, l)]) ++ slotsP σ4 env6) := b3.perm (by simp)
      have b5 := Hold.closeW (s := .lst) (s' := .lst) b4 True.intro True.intro rfl rfl
      have e1 : (vs.zip acc ++ [(v, l)]).map (·.1) = vs ++ [v] := by rw [List.map_append, map_zip1 el]; rfl
      have e2 : (vs.zip acc ++ [(v, l)]).map (·.2) = acc ++ [l] := by rw [List.map_append, map_zip2 el]; rfl
      rw [e1, e2] at b5
      have b6 : Hold X.K F6 R (upd H6 Da (.lst (vs ++ [v]))) [] (slotsP σ4 env6 ++ [(.ref Da, .lst (acc ++ [l]))]) := b5.perm (List.perm_append_comm (l₁ := [(V.ref Da, L.lst (acc ++ [l]))]))
      have b7 := Hold.unwipe (own := own) w6 b6
      rw [sl4] at b7
      refine ⟨F6, wipeE env6 own, acc ++ [l], (s.trans s05).trans s6, no1 env6, ?_, b7.perm (List.perm_append_comm (l₂ := [(V.ref Da, L.lst (acc ++ [l]))])), q6.2⟩
      rw [← we]; exact Wf.wipe (no1 env6) (wipeE_wf w6)
  · have e : i = ds.length := by omega
    subst e
    rw [List.drop_length] at q'
    refine .inl ⟨wk.stops F' H' s g.hF, kk _ _ _ F' H' q' (s1.trans s) w.unwipe ?_⟩
    rw [slots_wipe no] at g
    exact g
theorem de_comp {scope : Scope} {ifs : List Expr} {own : List (Str × Nat)} {ti : DI} {g : DG} {tt : DT} {te : DE} (hc : X.calm = true) (hN : X.N.Nodup) (hi : PI X tg iter (liftI Y X.K ti)) (ok : BlkOk X.N X.env.scope scope own)
    (hg : ∀ (Y : Act), YOk (own.map (·.2)) Y → ∀ (s : Shared) (H : Hp) (C : Addr) (cl : List (Str × Addr)) (fp : List Addr), PG (X.blk s H scope (compEnvC scope cl C X.env) fp) tg (liftG Y X.K g))
    (ht : ∀ (Y : Act), YOk (own.map (·.2)) Y → ∀ (s : Shared) (H : Hp) (C : Addr) (cl : List (Str × Addr)) (fp : List Addr), PTs (X.blk s H scope (compEnvC scope cl C X.env) fp) ifs (liftT Y X.K tt))
    (he : ∀ (Y : Act), YOk (own.map (·.2)) Y → ∀ (s : Shared) (H : Hp) (C : Addr) (cl : List (Str × Addr)) (fp : List Addr), PE (X.blk s H scope (compEnvC scope cl C X.env) fp) elt (lift Y X.K te)) (hs : ∀ x, foldedSetIterable iter X.env x = pure x := by intro _; rfl) :
    PE X (.ListComp elt [⟨tg, iter, ifs, 0⟩] scope pos) (lift Y X.K (dComp ti (own.map (·.2)) g tt te)) :=
  PE.imp (pe_lc hc hN hi ok (fun s H C cl fp => pg_some (X := X.blk s H scope (compEnvC scope cl C X.env) fp) fun Y y => hg Y y s H C cl fp) (fun s H C cl fp => pts_some (X := X.blk s H scope (compEnvC scope cl C X.env) fp) fun Y y => ht Y y s H C cl fp)
    (fun s H C cl fp => pe_some (X := X.blk s H scope (compEnvC scope cl C X.env) fp) fun Y y => he Y y s H C cl fp) hs) fun _ _ _ h => lift_comp h
end
end TL

namespace TL
open PySem PySem.Spec PyProof.Rows L2

/-! ### a def keeps its contract -/
def entryL (bs : List Nat) : Nat → List L → List L
  | _, [] => []
  | j, l :: ls => (if j ∈ bs then l else .fr l.toD) :: entryL bs (j + 1) ls
def entry (bs : List Nat) (n : Nat) (ls : List L) : Ev := (entryL bs 0 ls).map some ++ List.replicate (n - ls.length) none
def slotL (env : Ev) (j : Nat) : Option L := (env[j]?).getD none
def outs (bs : List Nat) (env : Ev) : Nat → List L → List L
  | _, [] => []
  | j, l :: ls => (if j ∈ bs then (slotL env j).getD (.fr .non) else .fr l.toD) :: outs bs env (j + 1) ls
def OutOk : List Nat → Ev → Prop
  | [], _ => True
  | j :: bs, env => (slotL env j).isSome = true ∧ OutOk bs env
theorem OutOk.get : ∀ {bs : List Nat} {env : Ev} {j : Nat}, OutOk bs env → j ∈ bs → ∃ l, env[j]? = some (some l) ∧ slotL env j = some l
  | b :: bs, env, j, h, hj => by
    rcases List.mem_cons.mp hj with e | e
    · subst e
      have h1 := h.1
      unfold slotL at h1 ⊢
      cases q : env[j]? with
      | none => rw [q] at h1; cases h1
      | some o =>
        rw [q] at h1
        cases o with
        | none => cases h1
        | some l => exact ⟨l, rfl, rfl⟩
    · exact OutOk.get h.2 e
theorem entryL_length (bs : List Nat) : ∀ (j : Nat) (ls : List L), (entryL bs j ls).length = ls.length
  | _, [] => rfl
  | j, l :: ls => by simp [entryL, entryL_length bs (j + 1) ls]
theorem outs_length (bs : List Nat) (env : Ev) : ∀ (j : Nat) (ls : List L), (outs bs env j ls).length = ls.length
  | _, [] => rfl
  | j, l :: ls => by simp [outs, outs_length bs env (j + 1) ls]
theorem slotsP_nil : ∀ (m n : Nat), slotsP (List.replicate m none) (List.replicate n none) = []
  | 0, n => by simp [slotsP]
  | m + 1, 0 => by simp [slotsP]
  | m + 1, n + 1 => by simp only [List.replicate_succ, slotsP_none]; exact slotsP_nil m n
theorem slots_entry : ∀ (vs : List V) (ls : List L) (m n : Nat), vs.length = ls.length → slotsP (vs.map some ++ List.replicate m none) (ls.map some ++ List.replicate n none) = vs.zip ls
  | [], [], m, n, _ => by simpa using slotsP_nil m n
  | v :: vs, l :: ls, m, n, h => by
    simp only [List.map_cons, List.cons_append, slotsP, List.zip_cons_cons]
    rw [slots_entry vs ls m n (by simpa using h)]
  | [], l :: ls, _, _, h => by simp at h
  | v :: vs, [], _, _, h => by simp at h
theorem Wf_nil : ∀ m : Nat, Wf (List.replicate m none) (List.replicate m none)
  | 0 => trivial
  | m + 1 => by
    simp only [List.replicate_succ]
    exact ⟨(fun q => by cases q), Wf_nil m⟩
theorem Wf_entry : ∀ (vs : List V) (ls : List L) (m : Nat), vs.length = ls.length → Wf (vs.map some ++ List.replicate m none) (ls.map some ++ List.replicate m none)
  | [], [], m, _ => by simpa using Wf_nil m
  | v :: vs, l :: ls, m, h => ⟨fun _ => rfl, Wf_entry vs ls m (by simpa using h)⟩
  | [], l :: ls, _, h => by simp at h
  | v :: vs, [], _, h => by simp at h
/-- by-value arguments become known for good -/
theorem Hold.entry {K : PySem.W.Frag} {R H : Hp} {Xs : List Addr} {bs : List Nat} : ∀ {vs : List V} {ls : List L} {F : Hp} {qs : List (V × L)} (j : Nat), vs.length = ls.length → Hold K F R H Xs (vs.zip ls ++ qs) →
    ∃ F', Same F F' ∧ Hold K F' R H Xs (vs.zip (entryL bs j ls) ++ qs)
  | [], [], F, qs, j, _, h => ⟨F, Same.refl _, h⟩
  | v :: vs, l :: ls, F, qs, j, e, h => by
    have e' : vs.length = ls.length := by simpa using e
    by_cases hj : j ∈ bs
    · obtain ⟨F', s, g⟩ := Hold.entry (bs := bs) (qs := (v, l) :: qs) (j + 1) e' (h.perm (List.perm_middle.symm))
      refine ⟨F', s, ?_⟩
      simp only [entryL, if_pos hj]
      exact g.perm List.perm_middle
    · obtain ⟨F1, s1, g1⟩ := Hold.frz (ps := vs.zip ls ++ qs) h
      obtain ⟨F', s, g⟩ := Hold.entry (bs := bs) (qs := (v, .fr l.toD) :: qs) (j + 1) e' (g1.perm (List.perm_middle.symm))
      refine ⟨F', s1.trans s, ?_⟩
      simp only [entryL, if_neg hj]
      exact g.perm List.perm_middle
  | [], _ :: _, _, _, _, e, _ => by simp at e
  | _ :: _, [], _, _, _, e, _ => by simp at e
/-- what is known of the by-value arguments -/
def Known (K : PySem.W.Frag) (F : Hp) (bs : List Nat) : Nat → List V → List L → Prop
  | _, [], [] => True
  | j, v :: vs, l :: ls => (j ∉ bs → Rep K F v l.toD) ∧ Known K F bs (j + 1) vs ls
  | _, _, _ => False
theorem Known.mono {K : PySem.W.Frag} {F F' : Hp} {bs : List Nat} (s : Same F F') : ∀ {j : Nat} {vs : List V} {ls : List L}, Known K F bs j vs ls → Known K F' bs j vs ls
  | _, [], [], _ => trivial
  | j, v :: vs, l :: ls, h => ⟨fun q => (h.1 q).mono s, Known.mono s h.2⟩
theorem Known.of {K : PySem.W.Frag} {F R H : Hp} {Xs : List Addr} {bs : List Nat} : ∀ {vs : List V} {ls : List L} {qs : List (V × L)} (j : Nat), vs.length = ls.length → Hold K F R H Xs (vs.zip (entryL bs j ls) ++ qs) → Known K F bs j vs ls
  | [], [], qs, j, _, _ => trivial
  | v :: vs, l :: ls, qs, j, e, h => by
    refine ⟨fun q => ?_, Known.of (j + 1) (by simpa using e) (Hold.drop h)⟩
    simp only [entryL, if_neg q] at h
    exact Hold.head h
  | [], _ :: _, _, _, e, _ => by simp at e
  | _ :: _, [], _, _, e, _ => by simp at e
theorem outs_set {bs : List Nat} {env : Ev} {i : Nat} {o : Option L} : ∀ {j : Nat} {ls : List L}, i < j → outs bs (env.set i o) j ls = outs bs env j ls
  | _, [], _ => rfl
  | j, l :: ls, h => by
    have e : slotL (env.set i o) j = slotL env j := by unfold slotL; rw [List.getElem?_set_ne (by omega)]
    simp only [outs, e, outs_set (ls := ls) (show i < j + 1 by omega)]
theorem Hold.outs {K : PySem.W.Frag} {F R H : Hp} {Xs : List Addr} {bs : List Nat} {σ : L2.St} : ∀ {vs : List V} {ls : List L} {env : Ev} {qs : List (V × L)} (j : Nat), vs.length = ls.length → Wf σ env → (∀ i, i ∈ bs → j ≤ i → ∃ l, env[i]? = some (some l) ∧ slotL env i = some l) →
    (∀ i v, i ∈ bs → vs[i - j]? = some v → j ≤ i → σ[i]? = some (some v)) → Known K F bs j vs ls → Hold K F R H Xs (slotsP σ env ++ qs) → Hold K F R H Xs (vs.zip (TL.outs bs env j ls) ++ qs)
  | [], [], env, qs, j, _, w, _, _, _, h => Hold.dropN h
  | v :: vs, l :: ls, env, qs, j, e, w, ho, hs, kn, h => by
    have e' : vs.length = ls.length := by simpa using e
    by_cases hj : j ∈ bs
    · obtain ⟨m, h1, h2⟩ := ho j hj (Nat.le_refl _)
      have hv : σ[j]? = some (some v) := hs j v hj (by simp) (Nat.le_refl _)
      have g : Hold K F R H Xs (slotsP σ (env.set j none) ++ ((v, m) :: qs)) := h.perm ((List.Perm.append_right qs (slots_get h1 hv)).trans List.perm_middle.symm)
      have g2 := Hold.outs (bs := bs) (env := env.set j none) (j + 1) e' w.none (fun i hi hl => by
        obtain ⟨m', q1, q2⟩ := ho i hi (by omega)
        refine ⟨m', by rw [List.getElem?_set_ne (by omega)]; exact q1, ?_⟩
        unfold slotL at q2 ⊢
        rw [List.getElem?_set_ne (by omega)]; exact q2) (fun i v' hi hv' hl => hs i v' hi (by
          have : i - j = (i - (j + 1)) + 1 := by omega
          rw [this]; simpa using hv') (by omega)) kn.2 g
      rw [outs_set (show j < j + 1 by omega)] at g2
      simp only [TL.outs, if_pos hj, h2, Option.getD_some]
      exact g2.perm List.perm_middle
    · have g2 := Hold.outs (bs := bs) (env := env) (qs := qs) (j + 1) e' w (fun i hi hl => ho i hi (by omega)) (fun i v' hi hv' hl => hs i v' hi (by
          have : i - j = (i - (j + 1)) + 1 := by omega
          rw [this]; simpa using hv') (by omega)) kn.2 h
      simp only [TL.outs, if_neg hj]
      exact g2.push (kn.1 hj)
  | [], _ :: _, _, _, _, e, _, _, _, _, _ => by simp at e
  | _ :: _, [], _, _, _, e, _, _, _, _, _ => by simp at e

/-- the frame of a def whose slots bs keep their value -/
def YFn (bs : List Nat) (Y : Act) : Prop := ∀ q ∈ Y.fx, q.1 ∈ bs
theorem nofx {bs : List Nat} {Y : Act} {i : Nat} (h : YFn bs Y) (hi : i ∉ bs) : ∀ q ∈ Y.fx, q.1 ≠ i := fun q hq e => hi (e ▸ h q hq)
theorem nofxB {own : List Nat} {Y : Act} {i : Nat} (h : YOk own Y) (hi : i ∈ own) : ∀ q ∈ Y.fx, q.1 ≠ i := fun q hq e => h q hq (e ▸ hi)
/-- the ends of a def: what was lent comes back -/
def endsOf (bs : List Nat) (ls : List L) (k : L → List L → Prop) : DEnds := { nx := fun env => OutOk bs env ∧ k (.fr .non) (outs bs env 0 ls), rt := fun r env => OutOk bs env ∧ k r (outs bs env 0 ls) }
section
variable {P : Program} {w : World} {K : PySem.W.Frag} {mg : Str → Option Value} {base : Heap}
theorem okD {x qual : Str} {st : Stmt} {f : Addr} {fd : FuncData} {N ps : List Str} {k : Nat} {C : Con} (bs : List Nat) (F : Fun K x qual st f fd) (S : FnScope N ps (defScope st)) (hlen : ∀ ls k kx, C ls k kx → ls.length = ps.length) (t : DS)
    (hbody : ∀ (cdv : Value) (A : Around) (outer : List Env) (s : Shared) (H : Hp) (E : XK) (Y : Act), Room k (A.deeper (envOfC qual (defScope st) s.heap.objs.size f cdv)) → YFn bs Y →
      PSs (cxOf (L2.CX P w) P w K mg base N qual (defScope st) f cdv A outer s H E) (defBody st) (liftS Y K t))
    (hC : ∀ ls k kx, C ls k kx → t (endsOf bs ls k) (entry bs N.length ls)) :
    FnOk P w K mg base (L2.CX P w) (k + 1) f fd ps (spD K C) := by
  refine F.okX S (fun vs H Q E ⟨F, R, ls, k, kx, h1, _, h3, _⟩ => h1.trans (hlen _ _ _ h3)) fun cdv A outer s H vs Q E hr ⟨Fr, R, ls, kk, kx, hl, hold, hc, hq, _⟩ => ?_
  obtain ⟨F1, s1, g1⟩ := Hold.entry (bs := bs) (qs := []) 0 hl (by simpa using hold)
  have kn := Known.of 0 hl g1
  have hle : vs.length = (entryL bs 0 ls).length := by rw [entryL_length]; exact hl
  have hps : vs.length = ps.length := hl.trans (hlen _ _ _ hc)
  have hN : ps.length ≤ N.length := by
    have := congrArg List.length S.pre
    rw [List.length_take] at this
    omega
  have hY : YFn bs ⟨F1, R, bs.filterMap fun j => (vs[j]?).map fun v => (j, some v), N.length⟩ := fun q hq => by
    obtain ⟨j, hj, e⟩ := List.mem_filterMap.mp hq
    cases hv : vs[j]? with
    | none => rw [hv] at e; cases e
    | some v => rw [hv] at e; cases e; exact hj
  refine ⟨_, hbody cdv A outer s H E _ hr hY, F1, R, entry bs N.length ls, _, ⟨Same.refl _, Same.refl _, fun q hq => ?_, ?_, ?_, ?_⟩, hC ls kk kx hc, ?_⟩
  · obtain ⟨j, hj, e⟩ := List.mem_filterMap.mp hq
    cases hv : vs[j]? with
    | none => rw [hv] at e; cases e
    | some v =>
      rw [hv] at e
      cases e
      have hjl : j < vs.length := (List.getElem?_eq_some_iff.mp hv).1
      show (vs.map some ++ List.replicate (N.length - vs.length) none)[j]? = some (some v)
      rw [List.getElem?_append_left (by rw [List.length_map]; exact hjl), List.getElem?_map, hv]
      rfl
  · show (vs.map some ++ List.replicate (N.length - vs.length) none).length = N.length
    simp only [List.length_append, List.length_map, List.length_replicate]
    omega
  · unfold entry L2.start
    rw [← hl]
    exact Wf_entry vs _ _ hle
  · unfold entry L2.start
    rw [slots_entry _ _ _ _ hle]
    simpa using g1
  · have fin : ∀ (l : L) (env' : Ev) (v : V) (σ' : L2.St) (F' H' : Hp), (OutOk bs env' ∧ kk l (outs bs env' 0 ls)) → Same F1 F' → (∀ q ∈ (bs.filterMap fun j => (vs[j]?).map fun v => (j, some v)), σ'[q.1]? = some q.2) → Wf σ' env' → Hold K F' R H' [] ((v, l) :: slotsP σ' env') → Q v H' := by
      intro l env' v σ' F' H' ⟨q1, q2⟩ s' fx w g
      refine hq l _ v F' H' q2 (s1.trans s') (by rw [outs_length]; exact hl.symm) ?_
      have g2 : Hold K F' R H' [] (slotsP σ' env' ++ [(v, l)]) := g.perm (List.perm_append_comm (l₁ := [(v, l)]))
      have g3 := Hold.outs (bs := bs) (σ := σ') (env := env') (qs := [(v, l)]) 0 hl w (fun i hi _ => q1.get hi) (fun i v' hi hv' _ => fx (i, some v') (List.mem_filterMap.mpr ⟨i, hi, by rw [show vs[i]? = some v' by simpa using hv']; rfl⟩)) (kn.mono s') g2
      exact g3.perm (List.perm_append_comm (l₂ := [(v, l)]))
    refine ⟨fun env' σ' F' H' q s' a => ?_, fun l env' v σ' F' H' q s' fx w g => fin l env' v σ' F' H' q s' fx w g, fun _ _ _ _ q => q.elim, fun _ _ _ _ q => q.elim⟩
    exact fin (.fr .non) env' .non σ' F' H' q s' a.fx a.wf (a.hold.push .non)
end
end TL

namespace TL
open PySem PySem.Spec PyProof.Rows L2

/-! ### a, *b = a tuple -/
theorem star_tup {prog : Program} {w : World} {A : Around} {E : Value → Shared → Prop} {s : Shared} {l : Addr} {items : Array Value} {n i : Nat} {Q : List Value → Shared → Prop} (hl : IsTup s.heap l items) (hh : A.handled = none) (hi : i < n) (hn : n ≤ items.size + 1) (hz : items.size ≤ 16384)
    (h : ∀ h' tk D, (∀ b o, s.heap.get? b = some o → h'.get? b = some o) → s.heap.get? D = none → h'.get? D = some { cls := .type "list", data := .seq ((items.toList.drop i).take (items.size + 1 - n)).toArray } →
      Q (items.toList.take i ++ [.ref D] ++ (items.toList.drop i).drop (items.size + 1 - n)) { s with heap := h', toks := tk }) : wpAny (model prog w) A (unpackItems (.ref l) n (some i)) Q E s := by
  have hlt : l ≠ s.heap.objs.size := by obtain ⟨o, ho, _⟩ := hl; exact Nat.ne_of_lt (Heap.lt_size ho)
  have hll : l < s.heap.objs.size := by obtain ⟨o, ho, _⟩ := hl; exact Heap.lt_size ho
  unfold unpackItems
  refine wpAny_bind ?_
  unfold notIterableAtAll
  refine wpAny_bind (wpAny_specialOf hl.typeIs slot_tuple_iter.lookup ?_)
  refine wpAny_pure ?_
  simp only [Bool.false_eq_true, if_false]
  refine wpAny_bind (wpAny_holding (iter_tuple hl ?_))
  refine wpAny_bind (wpAny_holding (draw_tuple hlt i 0 _ _ ⟨_, Heap.get?_push_size _ rfl, rfl, rfl⟩ (hl.push _) (by omega) fun h₁ hit₁ hs₁ => ?_))
  have hl₁ : IsTup h₁ l items := (hl.push _).extBut hs₁.extBut hlt
  rw [Nat.zero_add] at hit₁
  have hit₁' := hit₁
  obtain ⟨oi, hoi, _⟩ := hit₁'
  have hl₁' := hl₁
  obtain ⟨ol, hol, _⟩ := hl₁'
  rw [List.drop_zero]
  have hfl : (items.toList.take i).length = i := by rw [List.length_take, Array.length_toList]; omega
  rw [if_neg (show ¬ ((items.toList.take i).length < i) by rw [hfl]; omega)]
  have hsz2 : s.heap.objs.size ≤ h₁.objs.size := Nat.le_of_lt (Heap.lt_size hoi)
  refine wpAny_bind (wpAny_holding (PySem.W.kun_collect (s := { s with heap := h₁ }) (T := "tuple_iterator") (.inr (.inr (.inr rfl))) (Walks.tuple (A := A.in1) hh s.heap.objs.size l hlt items) (fun j u st => st.1.typeIs) (k := i) (by omega) ⟨hit₁, hl₁⟩ (Heap.lt_size hoi) (Heap.lt_size hol) (fun h₂ tk hk => ?_) (by rw [sizeLine_eq]; omega)))
  have hrl : (items.toList.drop i).length = items.size - i := by rw [List.length_drop, Array.length_toList]
  have hmid : (items.toList.drop i).length - (n - 1 - i) = items.size + 1 - n := by rw [hrl]; omega
  show wpAny _ _ (if (items.toList.drop i).length < n - 1 - i then _ else _) _ _ _
  rw [if_neg (by rw [hrl]; omega)]
  show wpAny _ _ (newList ((items.toList.drop i).take ((items.toList.drop i).length - (n - 1 - i))) >>= fun d => pure (items.toList.take i ++ [d] ++ (items.toList.drop i).drop ((items.toList.drop i).length - (n - 1 - i)))) _ _ _
  rw [hmid]
  have he : Heap.ExtBut s.heap.objs.size s.heap h₂ := fun b o hb e => hk b o hb (hs₁.extBut b o hb (Heap.get?_push_of_some _ e))
  have kp : ∀ b o, s.heap.get? b = some o → h₂.get? b = some o := fun b o e => he b o (Nat.ne_of_lt (Heap.lt_size e)) e
  have hol2 : h₂.get? l = some ol := hk l ol hlt hol
  refine wpAny_bind (wpAny_newList (wpAny_pure (h _ tk _ (fun b o e => Heap.get?_push_of_some _ (kp b o e)) ?_ (Heap.get?_push_size _ rfl))) ?_)
  · cases q : s.heap.get? h₂.objs.size with
    | none => rfl
    | some o => exact absurd (Heap.lt_size (kp _ _ q)) (Nat.lt_irrefl _)
  · rw [List.length_take, hrl, sizeLine_eq]; omega
theorem ObjOk.there {P : Program} {w : World} {H : Hp} {h : Heap} {a : Addr} {o : HO} (x : ObjOk P w H h a o) : ∃ ob, h.get? a = some ob := by
  cases o with
  | lst xs => obtain ⟨_, _, _, _, e⟩ := x; exact ⟨_, e⟩
  | tup xs => obtain ⟨_, _, _, ob, e, _⟩ := x; exact ⟨_, e⟩
  | dK kvs => obtain ⟨_, _, _, _, o, _, _, e, _⟩ := x; exact ⟨_, e⟩
  | dT kvs => obtain ⟨_, _, _, _, o, _, _, e, _⟩ := x; exact ⟨_, e⟩
  | set S n => obtain ⟨o, _, _, _, e, _⟩ := x; exact ⟨_, e⟩
  | ins C dx fs => obtain ⟨_, _, _, e, _⟩ := x; exact ⟨_, e⟩
  | own y => obtain ⟨_, e⟩ := x; exact ⟨_, e⟩
  | xd fs => obtain ⟨_, ⟨_, _, _, e, _⟩, _⟩ := x; exact ⟨_, e⟩
  | rng lo hi => obtain ⟨_, _, _, e⟩ := x; exact ⟨_, e⟩
  | frz ob u => obtain ⟨e, _⟩ := x; exact ⟨_, e⟩
  | tbl ps => exact ⟨_, (show h.get? a = some _ from x)⟩
  | met f y => exact ⟨_, (show h.get? a = some _ from x)⟩
  | ext φ => obtain ⟨_, ⟨_, e⟩, _⟩ := x; exact ⟨_, e⟩
theorem HOk.free {P : Program} {w : World} {H : Hp} {h : Heap} {a : Addr} (x : HOk P w H h) (n : h.get? a = none) : H a = none := by
  cases q : H a with
  | none => rfl
  | some o => obtain ⟨ob, e⟩ := ObjOk.there (x a o q); rw [n] at e; cases e
theorem HOk.laidN {P : Program} {w : World} {H : Hp} {h h' : Heap} {a : Addr} {o : HO} (x : HOk P w H h) (k : ∀ b u, h.get? b = some u → h'.get? b = some u) (hn : H a = none) (new : ObjOk P w (upd H a o) h' a o) : HOk P w (upd H a o) h' := fun b u e => by
  by_cases hb : b = a
  · subst hb; rw [upd_same] at e; cases e; exact new
  · rw [upd_ne hb] at e
    exact (x b u e).stay (fun c v _ q => k c v q) (fun c q => by rw [upd_ne (ne_of_none q hn)]; exact q) fun c xs q => by rw [upd_ne (ne_of_none q hn)]; exact q
theorem Un.laidN {fs ex : List Addr} {H : Hp} {h h' : Heap} {a : Addr} {o : HO} (k : ∀ b u, h.get? b = some u → h'.get? b = some u) (hp : h.get? a = none) (hn : H a = none) : Un fs ex H (upd H a o) h h' where
  keep := fun b u q _ _ _ => k b u q
  slot := fun b u q _ _ _ => ⟨u.slots, k b u q⟩
  free := fun b u q n _ => by rw [upd_ne (fun z => by rw [z, hp] at q; cases q)]; exact n
  there := fun b u q _ => ⟨u, k b u q⟩
  tups := fun b xs q => by rw [upd_ne (ne_of_none q hn)]; exact q
  frzs := fun b u xs q => by rw [upd_ne (ne_of_none q hn)]; exact q
  tbls := fun b ps q => ⟨#[], by rw [upd_ne (ne_of_none q hn), q]; simp⟩
theorem Inv.laidN {X : Cx} {pins : List (Addr × Obj)} {σ : L2.St} {H : Hp} {s : Shared} {h' : Heap} {a : Addr} {o : HO} {t' : Nat} (I : Inv X pins σ H s) (k : ∀ b u, s.heap.get? b = some u → h'.get? b = some u) (hp : s.heap.get? a = none) (new : ObjOk X.prog X.w (upd H a o) h' a o) :
    Inv X pins σ (upd H a o) { s with heap := h', toks := t' } := I.un (Un.laidN k hp (HOk.free I.hok hp)) (HOk.laidN I.hok k (HOk.free I.hok hp) new)
/-- a, *b, c = a tuple: n targets, the i-th starred -/
def gStar (K : PySem.W.Frag) (n i : Nat) (t : TGs) : TG := fun v σ H Q => ∃ a xs, v = .ref a ∧ SqT K H a xs ∧ n ≤ xs.length + 1 ∧ xs.length ≤ 16384 ∧
  ∀ D, H D = none → t (xs.take i ++ [.ref D] ++ (xs.drop i).drop (xs.length + 1 - n)) σ (upd H D (.lst ((xs.drop i).take (xs.length + 1 - n)))) Q
theorem pg_star {X : Cx} {es : List Expr} {k n i : Nat} {t : TGs} {pos : Pos} (hc : X.calm = true) (h : PGs X es t) (hi : i < n) (hn : (assignEach es X.env).length = n := by rfl) (hst : (assignEach es X.env).findIdx? (·.1) = some i := by rfl) : PG X (.Tuple es k pos) (gStar X.K n i t) := by
  refine ⟨fun pins s σ H v u Q I r hw => ?_⟩
  obtain ⟨a, xs, e1, hq, hl, hz, hw⟩ := hw
  subst e1
  cases r
  obtain ⟨its, rv, ht, _⟩ := I.tuple hq
  have hlen := rv.length
  have hsz : its.toArray.size = xs.length := by rw [List.size_toArray]; exact hlen.symm
  rw [assign_Tuple]
  refine wpAny_bind (wpAny_standAt ?_)
  unfold unpack
  rw [hn, hst]
  refine wpAny_bind (wpAny_holding (star_tup ht (I.ok.hd hc) hi (by rw [hsz]; exact hl) (by rw [hsz]; exact hz) fun h' tk D kp hD hob => ?_))
  rw [hsz] at hob ⊢
  have hHD : H D = none := HOk.free I.hok hD
  have rm : Vals ((xs.drop i).take (xs.length + 1 - n)) ((its.drop i).take (xs.length + 1 - n)) := (rv.drop i).take _
  have I1 : Inv X pins σ (upd H D (.lst ((xs.drop i).take (xs.length + 1 - n)))) { s with heap := h', toks := tk } := Inv.laidN I kp hD ⟨by rw [List.length_take, List.length_drop, sizeLine_eq]; omega, _, 0, rm, hob⟩
  refine h.run pins _ σ _ _ _ Q I1 ?_ (hw D hHD)
  exact Vals.append (Vals.append (rv.take i) (.cons rfl .nil)) ((rv.drop i).drop _)
section
variable {X : Cx} {Y : Act} {es : List Expr} {pos : Pos}
def dgStar (n i : Nat) (gs : DGs) : DG := fun l env Q => match l.toD with
  | .tup ds => n ≤ ds.length + 1 ∧ ds.length ≤ 16384 ∧ gs ((ds.take i).map L.fr ++ [.lst (((ds.drop i).take (ds.length + 1 - n)).map L.fr)] ++ ((ds.drop i).drop (ds.length + 1 - n)).map L.fr) env Q
  | _ => False
theorem Reps.take {K : PySem.W.Frag} {F : Hp} : ∀ {vs : List V} {ds : List D} (n : Nat), Reps K F vs ds → Reps K F (vs.take n) (ds.take n)
  | _, _, 0, _ => by simp; exact .nil
  | _, _, n + 1, .nil => by simp; exact .nil
  | _, _, n + 1, .cons h r => by simp; exact .cons h (Reps.take n r)
theorem Reps.drop {K : PySem.W.Frag} {F : Hp} : ∀ {vs : List V} {ds : List D} (n : Nat), Reps K F vs ds → Reps K F (vs.drop n) (ds.drop n)
  | _, _, 0, r => r
  | _, _, n + 1, .nil => by simp; exact .nil
  | _, _, n + 1, .cons h r => by simp; exact Reps.drop n r
theorem Reps.append {K : PySem.W.Frag} {F : Hp} : ∀ {vs ws : List V} {ds es : List D}, Reps K F vs ds → Reps K F ws es → Reps K F (vs ++ ws) (ds ++ es)
  | _, _, _, _, .nil, s => s
  | _, _, _, _, .cons h r, s => .cons h (Reps.append r s)
theorem dg_star {k n i : Nat} {gs : DGs} (hc : X.calm = true) (h : PGs X es (liftGs Y X.K gs)) (hi : i < n) (hn : (assignEach es X.env).length = n := by rfl) (hst : (assignEach es X.env).findIdx? (·.1) = some i := by rfl) :
    PG X (.Tuple es k pos) (liftG Y X.K (dgStar n i gs)) :=
  PG.imp (pg_star hc h hi hn hst) fun v σ H Q ⟨F, R, env, l, k, a, g, q, kk⟩ => by
    obtain ⟨F1, s1, g1⟩ := g.frz
    unfold dgStar at q
    have hr := g1.head
    cases hl : l.toD with
    | tup ds =>
      rw [hl] at q hr
      obtain ⟨p, vs, e, t, r⟩ := hr.tup_inv
      have hlen := r.length
      refine ⟨p, vs, e, Same.seqT g1.hF t.sq, by rw [hlen]; exact q.1, by rw [hlen]; exact q.2.1, fun D hD => ?_⟩
      rw [hlen]
      have rm := (r.drop i).take (ds.length + 1 - n)
      have g2 := Hold.pushs rm g1.drop
      have hlm : ((vs.drop i).take (ds.length + 1 - n)).length = (((ds.drop i).take (ds.length + 1 - n)).map L.fr).length := by rw [rm.length, List.length_map]
      have g3 := Hold.new (s := .lst) g2 hD rfl True.intro True.intro
      rw [map_zip1 hlm, map_zip2 hlm] at g3
      refine ⟨F1, R, env, _, k, a.to s1 a.wf g3.drop, ?_, ?_, q.2.2, fun env2 σ2 F2 H2 q2 s2 a2 => kk _ _ _ _ q2 (s1.trans s2) a2⟩
      · simp only [List.length_append, List.length_map, List.length_cons, List.length_nil, List.length_take, List.length_drop, hlen]
      · have r1 := r.take i
        have r3 := (r.drop i).drop (ds.length + 1 - n)
        rw [zip_app (by simp only [List.length_append, List.length_map, List.length_cons, List.length_nil, r1.length]), zip_app (by rw [List.length_map, r1.length]), List.append_assoc, List.append_assoc]
        refine Hold.pushs r1 ?_
        have g4 : Hold X.K F1 R _ [] ((vs.drop i).drop (ds.length + 1 - n) |>.zip (((ds.drop i).drop (ds.length + 1 - n)).map L.fr) |>.append ((.ref D, .lst (((ds.drop i).take (ds.length + 1 - n)).map L.fr)) :: slotsP σ env)) := Hold.pushs r3 g3
        exact g4.perm List.perm_middle
    | _ => rw [hl] at q; exact q.elim
end
end TL

namespace TL
open PySem PySem.Spec PyProof.Rows L2

theorem OpR.imp {X : Cx} {f : Value → Value → Sem Value} {r r' : R2} (h : OpR X f r) (i : ∀ x y H Q, r' x y H Q → r x y H Q) : OpR X f r' :=
  fun pins s σ H x y v u Q I rx ry q => h pins s σ H x y v u Q I rx ry (i _ _ _ _ q)
theorem IxR.imp {X : Cx} {r r' : R2} (h : IxR X r) (i : ∀ x y H Q, r' x y H Q → r x y H Q) : IxR X r' :=
  fun value slice pins s σ H x y v u Q I rx ry q hs => h value slice pins s σ H x y v u Q I rx ry (i _ _ _ _ q) hs
theorem CallR.imp {X : Cx} {f : Value} {r r' : List V → Hp → VK → Prop} (h : CallR X f r) (i : ∀ xs H Q, r' xs H Q → r xs H Q) : CallR X f r' :=
  fun pins s σ H xs us Q I r q => h pins s σ H xs us Q I r (i _ _ _ q)
theorem UnR.imp {X : Cx} {f : Value → Sem Value} {r r' : V → Hp → VK → Prop} (h : UnR X f r) (i : ∀ x H Q, r' x H Q → r x H Q) : UnR X f r' :=
  fun pins s σ H x v Q I rx q => h pins s σ H x v Q I rx (i _ _ _ q)
/-- a new list of known things -/
theorem Hold.newL {K : PySem.W.Frag} {F R H : Hp} {Xs : List Addr} {ps : List (V × L)} {vs : List V} {ds : List D} {p : Addr} (h : Hold K F R H Xs ps) (r : Reps K F vs ds) (hp : H p = none) :
    Hold K F R (upd H p (.lst vs)) Xs ((.ref p, .lst (ds.map L.fr)) :: ps) := by
  have g := Hold.new (s := .lst) (Hold.pushs r h) hp rfl True.intro True.intro
  have hl : vs.length = (ds.map L.fr).length := by rw [r.length, List.length_map]
  rw [map_zip1 hl, map_zip2 hl] at g
  exact g

/-! ### operators -/
def opAdd : Op2 := fun a b k => match a, b with
  | .int i, .int j => k (.fr (.int (i + j)))
  | .str x, .str y => x.length + y.length ≤ sizeLine ∧ k (.fr (.str (x ++ y)))
  | .box .lst xs, .box .lst ys => xs.length + ys.length ≤ sizeLine ∧ k (.lst ((xs ++ ys).map L.fr))
  | .tup xs, .tup ys => xs.length + ys.length ≤ sizeLine ∧ k (.fr (.tup (xs ++ ys)))
  | _, _ => False
def opSub : Op2 := fun a b k => match a, b with
  | .int i, .int j => k (.fr (.int (i - j)))
  | _, _ => False
def opMul : Op2 := fun a b k => match a, b with
  | .int i, .int j => IntMulOk i j ∧ k (.fr (.int (i * j)))
  | .box .lst xs, .int j => (-(2 ^ 63) ≤ j ∧ j < 2 ^ 63 ∧ xs.length * j.toNat ≤ sizeLine) ∧ k (.lst ((List.replicate j.toNat xs).flatten.map L.fr))
  | _, _ => False
def opMod : Op2 := fun a b k => match a, b with
  | .int i, .int j => j ≠ 0 ∧ k (.fr (.int (i.fmod j)))
  | _, _ => False
def DivOk (j : Int) : Prop := j ≠ 0 ∧ (j.natAbs < 1073741824 ∨ j.natAbs.log2 < 9000)
def opFdiv : Op2 := fun a b k => match a, b with
  | .int i, .int j => DivOk j ∧ k (.fr (.int (i.fdiv j)))
  | _, _ => False
def opPow : Op2 := fun a b k => match a, b with
  | .int i, .int j => (0 ≤ j ∧ j ≤ 1000000 ∧ i.natAbs < 2 ^ 64) ∧ k (.fr (.int (i ^ j.toNat)))
  | _, _ => False
def cmpI (f : Int → Int → Bool) : Op2 := fun a b k => match a, b with
  | .int i, .int j => k (.fr (.bl (f i j)))
  | _, _ => False
abbrev opLt : Op2 := cmpI fun i j => decide (i < j)
abbrev opLe : Op2 := cmpI fun i j => decide (i ≤ j)
abbrev opGt : Op2 := cmpI fun i j => decide (j < i)
abbrev opGe : Op2 := cmpI fun i j => decide (j ≤ i)
mutual
def D.py : D → PyData
  | .non => .none
  | .bl b => .bool b
  | .int i => .int i
  | .str x => .str x
  | .tup ds => .tuple (D.pys ds)
  | .ro ds => .list (D.pys ds)
  | .box .lst ds => .list (D.pys ds)
  | .box (.dT _) _ => .dict []
  | .box (.dK _) _ => .dict []
  | .box (.obj _ _) _ => .dict []
  | .ref _ => .dict []
  | .ty _ => .dict []
def D.pys : List D → List PyData
  | [] => []
  | d :: ds => d.py :: D.pys ds
end
/-- data that == compares item by item -/
def Cmp2 (a b : D) : Prop := SeqAt.shaped a.py = true ∧ SeqAt.shaped b.py = true
def opEq : Op2 := fun a b k => match a, b with
  | .int i, .int j => k (.fr (.bl (decide (i = j))))
  | .str i, .str j => k (.fr (.bl (decide (i = j))))
  | .bl i, .bl j => k (.fr (.bl (decide (i = j))))
  | a, b => Cmp2 a b ∧ k (.fr (.bl (PyData.eqv a.py b.py)))
def opNe : Op2 := fun a b k => match a, b with
  | .int i, .int j => k (.fr (.bl (!decide (i = j))))
  | .str i, .str j => k (.fr (.bl (!decide (i = j))))
  | .bl i, .bl j => k (.fr (.bl (!decide (i = j))))
  | a, b => Cmp2 a b ∧ k (.fr (.bl (!PyData.eqv a.py b.py)))
def D.isNon : D → Bool
  | .non => true
  | _ => false
def opIsN : Op2 := fun a b k => match b with
  | .non => k (.fr (.bl a.isNon))
  | _ => False
def opNotN : Op2 := fun a b k => match b with
  | .non => k (.fr (.bl (!a.isNon)))
  | _ => False
def D.flat : D → Bool
  | .non => true
  | .bl _ => true
  | .int _ => true
  | .str _ => true
  | _ => false
def D.feq : D → D → Bool
  | .non, .non => true
  | .bl a, .bl b => a == b
  | .bl a, .int b => (if a then 1 else 0) == b
  | .int a, .bl b => a == (if b then 1 else 0)
  | .int a, .int b => a == b
  | .str a, .str b => a == b
  | _, _ => false
def D.items : D → Option (List D)
  | .tup ds => some ds
  | .ro ds => some ds
  | .box .lst ds => some ds
  | _ => none
def opIn : Op2 := fun a b k => match b with
  | .str y => (match a with
    | .str x => k (.fr (.bl (!(Builtin.Str.occurrences y x 0 y.length 1).isEmpty)))
    | _ => False)
  | b => match b.items with
    | some ds => a.flat = true ∧ ds.all D.flat = true ∧ k (.fr (.bl (ds.any fun d => d.feq a)))
    | none => False
def opNotIn : Op2 := fun a b k => opIn a b fun r => match r with
  | .fr (.bl c) => k (.fr (.bl (!c)))
  | _ => False
/-- x[i] -/
def opIx : Op2 := fun a b k => match b with
  | .int i => (match a with
    | .str x => x.length ≤ sizeLine ∧ ∃ c, atI x.cps.toList i = some c ∧ k (.fr (.str ⟨#[c]⟩))
    | a => match a.items with
      | some ds => ∃ d, atI ds i = some d ∧ k (.fr d)
      | none => False)
  | _ => False

theorem Rep.items {K : PySem.W.Frag} {F : Hp} {v : V} {d : D} {ds : List D} (h : Rep K F v d) (e : d.items = some ds) : ∃ p vs, v = .ref p ∧ (SqL K F p vs ∨ SqT K F p vs) ∧ Reps K F vs ds := by
  cases h with
  | tup a b => cases e; exact ⟨_, _, rfl, .inr a.sq, b⟩
  | ro a b => cases e; exact ⟨_, _, rfl, .inl a, b⟩
  | @box p dx s vs ds' a b c r =>
    cases s with
    | lst => cases e; exact ⟨_, _, rfl, .inl (SqL.of a), r⟩
    | _ => cases e
  | _ => cases e
mutual
theorem Rep.dp {K : PySem.W.Frag} {F : Hp} : ∀ {v : V} {d : D}, Rep K F v d → d.py.canLay0 = true → Dp K F v d.py
  | _, _, .non, _ => by rw [D.py]; exact .non
  | _, _, .bl b, _ => by rw [D.py]; exact .bl b
  | _, _, .int i, _ => by rw [D.py]; exact .int i
  | _, _, .str x, _ => by rw [D.py]; exact .str x
  | _, _, .ref a, h => by rw [D.py] at h; cases h
  | _, _, .ty a, h => by rw [D.py] at h; cases h
  | _, _, .tup a r, h => by
    rw [D.py] at h ⊢
    exact .tup a.sq (Reps.dp r h)
  | _, _, .ro a r, h => by
    rw [D.py] at h ⊢
    exact .lst a (Reps.dp r h)
  | _, _, .box (s := s) a _ _ r, h => by
    cases s with
    | lst =>
      rw [D.py] at h ⊢
      exact .lst (SqL.of a) (Reps.dp r h)
    | dT ks => rw [D.py] at h; cases h
    | dK ks => rw [D.py] at h; cases h
    | obj C ns => rw [D.py] at h; cases h
theorem Reps.dp {K : PySem.W.Frag} {F : Hp} : ∀ {vs : List V} {ds : List D}, Reps K F vs ds → PyData.canLayAll0 (D.pys ds) = true → DpAll K F vs (D.pys ds)
  | _, _, .nil, _ => by rw [D.pys]; exact .nil
  | _, _, .cons r rr, h => by
    rw [D.pys] at h ⊢
    rw [PyData.canLayAll0, Bool.and_eq_true] at h
    exact .cons (Rep.dp r h.1) (Reps.dp rr h.2)
end
theorem Dp.mono {K : PySem.W.Frag} {H H' : Hp} (e : Same H H') : ∀ {d : PyData} {v : V}, Dp K H v d → Dp K H' v d := by
  intro d v h
  exact Dp.rec (motive_1 := fun v d _ => Dp K H' v d) (motive_2 := fun vs ds _ => DpAll K H' vs ds) .non .bl .int .str (fun a _ ih => .lst (e.seq a) ih) (fun a _ ih => .tup (Same.seqT e a) ih) .nil (fun _ _ a b => .cons a b) h

section
variable {X : Cx}
theorem opr_add : OpR X (binaryOp .Add) (liftO X.K opAdd) := by
  refine OpR.imp (op_add.or (op_add_str.or (op_cat.or op_catA))) fun x y H Q ⟨F, R, ps, da, db, k, g, ra, rb, q, kk⟩ => ?_
  unfold opAdd at q
  split at q
  · rename_i i j
    exact .inl ⟨i, j, ra.int_inv, rb.int_inv, kk _ _ F H q (Same.refl _) (g.push (.int _))⟩
  · rename_i a b
    exact .inr (.inl ⟨a, b, ra.str_inv, rb.str_inv, q.1, kk _ _ F H q.2 (Same.refl _) (g.push (.str _))⟩)
  · rename_i xs ys
    obtain ⟨p, vs, e1, h1, r1⟩ := ra.lst_inv
    obtain ⟨p2, vs2, e2, h2, r2⟩ := rb.lst_inv
    refine .inr (.inr (.inl ⟨p, p2, vs, vs2, e1, e2, g.hF _ _ h1, g.hF _ _ h2, by rw [r1.length, r2.length]; exact q.1, fun a ha => ?_⟩))
    exact kk _ _ F _ q.2 (Same.refl _) (g.newL (r1.append r2) ha)
  · rename_i xs ys
    obtain ⟨p, vs, e1, h1, r1⟩ := ra.tup_inv
    obtain ⟨p2, vs2, e2, h2, r2⟩ := rb.tup_inv
    have l1 := r1.length
    have l2 := r2.length
    refine .inr (.inr (.inr ⟨p, p2, vs, vs2, e1, e2, Same.seqT g.hF h1.sq, Same.seqT g.hF h2.sq, by rw [l1, l2]; exact q.1, fun z => ?_, fun _ z => ?_, fun _ _ a ha => ?_⟩))
    · subst z
      cases r1
      rw [List.nil_append] at q
      subst e2
      exact kk _ _ F H q.2 (Same.refl _) (g.push (.tup h2 r2))
    · subst z
      cases r2
      rw [List.append_nil] at q
      subst e1
      exact kk _ _ F H q.2 (Same.refl _) (g.push (.tup h1 r1))
    · obtain ⟨s, g2⟩ := g.known (o := .tup (vs ++ vs2)) ha
      exact kk _ _ _ _ q.2 s (g2.push (.tup (.inl upd_same) ((r1.append r2).mono s)))
  · exact q.elim
theorem opr_sub : OpR X (binaryOp .Sub) (liftO X.K opSub) := OpR.imp op_sub fun x y H Q ⟨F, R, ps, da, db, k, g, ra, rb, q, kk⟩ => by
  unfold opSub at q
  split at q
  · rename_i i j
    exact ⟨i, j, ra.int_inv, rb.int_inv, kk _ _ F H q (Same.refl _) (g.push (.int _))⟩
  · exact q.elim
theorem op_mulG : OpR X (binaryOp .Mult) (rI IntMulOk fun i j => .int (i * j)) := opI fun _ _ _ _ _ _ _ hc q => mul_int q hc
theorem opr_mul : OpR X (binaryOp .Mult) (liftO X.K opMul) := OpR.imp (op_mulG.or op_rep) fun x y H Q ⟨F, R, ps, da, db, k, g, ra, rb, q, kk⟩ => by
  unfold opMul at q
  split at q
  · rename_i i j
    exact .inl ⟨i, j, ra.int_inv, rb.int_inv, q.1, kk _ _ F H q.2 (Same.refl _) (g.push (.int _))⟩
  · rename_i xs j
    obtain ⟨p, vs, e1, h1, r1⟩ := ra.lst_inv
    refine .inr ⟨p, j, vs, e1, rb.int_inv, g.hF _ _ h1, q.1.1, q.1.2.1, by rw [r1.length]; exact q.1.2.2, fun a ha => ?_⟩
    refine kk _ _ F _ q.2 (Same.refl _) (g.newL ?_ ha)
    have rep : ∀ n : Nat, Reps X.K F (List.replicate n vs).flatten (List.replicate n xs).flatten := fun n => by
      induction n with
      | zero => exact .nil
      | succ n ih =>
        rw [List.replicate_succ, List.replicate_succ, List.flatten_cons, List.flatten_cons]
        exact r1.append ih
    exact rep _
  · exact q.elim
theorem opr_mod : OpR X (binaryOp .Mod) (liftO X.K opMod) := OpR.imp op_modN fun x y H Q ⟨F, R, ps, da, db, k, g, ra, rb, q, kk⟩ => by
  unfold opMod at q
  split at q
  · rename_i i j
    exact ⟨i, j, ra.int_inv, rb.int_inv, q.1, kk _ _ F H q.2 (Same.refl _) (g.push (.int _))⟩
  · exact q.elim
theorem op_fdivG : OpR X (binaryOp .FloorDiv) (rI (fun _ j => DivOk j) fun i j => .int (i.fdiv j)) := opI fun i j _ _ _ _ _ hc q =>
  floordiv_int hc.1 q (.inl (hc.2.elim (fun z => PyProof.noPylong_small z) fun z => PyProof.noPylong_of_log2 z))
theorem opr_fdiv : OpR X (binaryOp .FloorDiv) (liftO X.K opFdiv) := OpR.imp op_fdivG fun x y H Q ⟨F, R, ps, da, db, k, g, ra, rb, q, kk⟩ => by
  unfold opFdiv at q
  split at q
  · rename_i i j
    exact ⟨i, j, ra.int_inv, rb.int_inv, q.1, kk _ _ F H q.2 (Same.refl _) (g.push (.int _))⟩
  · exact q.elim
theorem opr_pow : OpR X (binaryOp .Pow) (liftO X.K opPow) := OpR.imp op_pow fun x y H Q ⟨F, R, ps, da, db, k, g, ra, rb, q, kk⟩ => by
  unfold opPow at q
  split at q
  · rename_i i j
    exact ⟨i, j, ra.int_inv, rb.int_inv, q.1, kk _ _ F H q.2 (Same.refl _) (g.push (.int _))⟩
  · exact q.elim
theorem opr_cmp {op : CmpOp} {f : Int → Int → Bool} (h : OpR X (compareOp op) (rI0 fun i j => .bl (f i j))) : OpR X (compareOp op) (liftO X.K (cmpI f)) := OpR.imp h fun x y H Q ⟨F, R, ps, da, db, k, g, ra, rb, q, kk⟩ => by
  unfold cmpI at q
  split at q
  · rename_i i j
    exact ⟨i, j, ra.int_inv, rb.int_inv, kk _ _ F H q (Same.refl _) (g.push (.bl _))⟩
  · exact q.elim
theorem opr_lt : OpR X (compareOp .Lt) (liftO X.K opLt) := opr_cmp op_lt
theorem opr_le : OpR X (compareOp .LtE) (liftO X.K opLe) := opr_cmp op_le
theorem opr_gt : OpR X (compareOp .Gt) (liftO X.K opGt) := opr_cmp op_gt
theorem opr_ge : OpR X (compareOp .GtE) (liftO X.K opGe) := opr_cmp op_ge
theorem dec_i {i j : Int} : decide (V.int i = V.int j) = decide (i = j) := by simp
theorem dec_s {i j : Str} : decide (V.str i = V.str j) = decide (i = j) := by simp
theorem dec_b {i j : Bool} : decide (V.bl i = V.bl j) = decide (i = j) := by simp
theorem opr_eq {j : Nat} (hr : Room j X.A) : OpR X (compareOp .Eq) (liftO X.K opEq) := by
  refine OpR.imp (op_eq.or (op_eqD hr.units)) fun x y H Q ⟨F, R, ps, da, db, k, g, ra, rb, q, kk⟩ => ?_
  unfold opEq at q
  split at q
  · have ea := ra.int_inv; have eb := rb.int_inv
    subst ea; subst eb
    exact .inl ⟨rfl, kk _ _ F H q (Same.refl _) (by rw [dec_i]; exact g.push (.bl _))⟩
  · have ea := ra.str_inv; have eb := rb.str_inv
    subst ea; subst eb
    exact .inl ⟨rfl, kk _ _ F H q (Same.refl _) (by rw [dec_s]; exact g.push (.bl _))⟩
  · have ea := ra.bl_inv; have eb := rb.bl_inv
    subst ea; subst eb
    exact .inl ⟨rfl, kk _ _ F H q (Same.refl _) (by rw [dec_b]; exact g.push (.bl _))⟩
  · exact .inr ⟨_, _, Dp.mono g.hF (ra.dp (SeqAt.canLay_of_shaped q.1.1)), Dp.mono g.hF (rb.dp (SeqAt.canLay_of_shaped q.1.2)), q.1.1, q.1.2, kk _ _ F H q.2 (Same.refl _) (g.push (.bl _))⟩
theorem opr_ne {j : Nat} (hr : Room j X.A) : OpR X (compareOp .NotEq) (liftO X.K opNe) := by
  refine OpR.imp (op_ne.or (op_neD hr.units)) fun x y H Q ⟨F, R, ps, da, db, k, g, ra, rb, q, kk⟩ => ?_
  unfold opNe at q
  split at q
  · have ea := ra.int_inv; have eb := rb.int_inv
    subst ea; subst eb
    exact .inl ⟨rfl, kk _ _ F H q (Same.refl _) (by rw [dec_i]; exact g.push (.bl _))⟩
  · have ea := ra.str_inv; have eb := rb.str_inv
    subst ea; subst eb
    exact .inl ⟨rfl, kk _ _ F H q (Same.refl _) (by rw [dec_s]; exact g.push (.bl _))⟩
  · have ea := ra.bl_inv; have eb := rb.bl_inv
    subst ea; subst eb
    exact .inl ⟨rfl, kk _ _ F H q (Same.refl _) (by rw [dec_b]; exact g.push (.bl _))⟩
  · exact .inr ⟨_, _, Dp.mono g.hF (ra.dp (SeqAt.canLay_of_shaped q.1.1)), Dp.mono g.hF (rb.dp (SeqAt.canLay_of_shaped q.1.2)), q.1.1, q.1.2, kk _ _ F H q.2 (Same.refl _) (g.push (.bl _))⟩
theorem Rep.isNon {K : PySem.W.Frag} {F : Hp} {v : V} {d : D} (h : Rep K F v d) : decide (v = .non) = d.isNon := by
  cases h <;> simp [D.isNon]
theorem opr_isN : OpR X (compareOp .Is) (liftO X.K opIsN) := OpR.imp op_isN fun x y H Q ⟨F, R, ps, da, db, k, g, ra, rb, q, kk⟩ => by
  unfold opIsN at q
  split at q
  · exact ⟨rb.non_inv, kk _ _ F H q (Same.refl _) (by rw [ra.isNon]; exact g.push (.bl _))⟩
  · exact q.elim
theorem opr_notN : OpR X (compareOp .IsNot) (liftO X.K opNotN) := OpR.imp op_notN fun x y H Q ⟨F, R, ps, da, db, k, g, ra, rb, q, kk⟩ => by
  unfold opNotN at q
  split at q
  · exact ⟨rb.non_inv, kk _ _ F H q (Same.refl _) (by rw [ra.isNon]; exact g.push (.bl _))⟩
  · exact q.elim
theorem Rep.flat {K : PySem.W.Frag} {F : Hp} {v : V} {d : D} (h : Rep K F v d) (e : d.flat = true) : flatV v = true := by
  cases h <;> first | rfl | cases e
theorem Rep.feq {K : PySem.W.Frag} {F : Hp} {v u : V} {d c : D} (h : Rep K F v d) (h' : Rep K F u c) (e : d.flat = true) (e' : c.flat = true) : eqV v u = d.feq c := by
  cases h <;> cases h' <;> first | rfl | cases e | cases e'
theorem Reps.flat {K : PySem.W.Frag} {F : Hp} : ∀ {vs : List V} {ds : List D}, Reps K F vs ds → ds.all D.flat = true → vs.all flatV = true
  | _, _, .nil, _ => rfl
  | _, _, .cons r rr, e => by
    rw [List.all_cons, Bool.and_eq_true] at e ⊢
    exact ⟨r.flat e.1, rr.flat e.2⟩
theorem Reps.inV {K : PySem.W.Frag} {F : Hp} {v : V} {d : D} (h : Rep K F v d) (e : d.flat = true) : ∀ {vs : List V} {ds : List D}, Reps K F vs ds → ds.all D.flat = true → L2.inV v vs = ds.any fun c => c.feq d
  | _, _, .nil, _ => rfl
  | _, _, .cons r rr, e' => by
    rw [List.all_cons, Bool.and_eq_true] at e'
    show (eqV _ v || L2.inV v _) = _
    rw [List.any_cons, r.feq h e'.1 e, Reps.inV h e rr e'.2]
theorem opr_in : OpR X (compareOp .In) (liftO X.K opIn) := OpR.imp (op_in_str.or op_in_seq) fun x y H Q ⟨F, R, ps, da, db, k, g, ra, rb, q, kk⟩ => by
  unfold opIn at q
  split at q
  · split at q
    · exact .inl ⟨_, _, ra.str_inv, rb.str_inv, kk _ _ F H q (Same.refl _) (g.push (.bl _))⟩
    · exact q.elim
  · split at q
    · rename_i ds hd
      obtain ⟨p, vs, e, h, r⟩ := rb.items hd
      refine .inr ⟨p, vs, e, h.imp (fun z => g.hF.seq z) (fun z => Same.seqT g.hF z), ra.flat q.1, r.flat q.2.1, ?_⟩
      show Q (.bl (L2.inV x vs)) H
      rw [Reps.inV ra q.1 r q.2.1]
      exact kk _ _ F H q.2.2 (Same.refl _) (g.push (.bl _))
    · exact q.elim
theorem opr_notIn : OpR X (compareOp .NotIn) (liftO X.K opNotIn) := OpR.imp (op_notin_str.or op_notIn_seq) fun x y H Q ⟨F, R, ps, da, db, k, g, ra, rb, q, kk⟩ => by
  unfold opNotIn opIn at q
  split at q
  · split at q
    · exact .inl ⟨_, _, ra.str_inv, rb.str_inv, kk _ _ F H q (Same.refl _) (g.push (.bl _))⟩
    · exact q.elim
  · split at q
    · rename_i ds hd
      obtain ⟨p, vs, e, h, r⟩ := rb.items hd
      refine .inr ⟨p, vs, e, h.imp (fun z => g.hF.seq z) (fun z => Same.seqT g.hF z), ra.flat q.1, r.flat q.2.1, ?_⟩
      show Q (.bl (!L2.inV x vs)) H
      rw [Reps.inV ra q.1 r q.2.1]
      exact kk _ _ F H q.2.2 (Same.refl _) (g.push (.bl _))
    · exact q.elim
theorem atI_len {α β : Type} {xs : List α} {ys : List β} {i : Int} {y : β} (hl : xs.length = ys.length) (h : atI ys i = some y) : ∃ (x : α) (j : Nat), atI xs i = some x ∧ xs[j]? = some x ∧ ys[j]? = some y := by
  unfold atI at h ⊢
  rw [hl]
  cases e : ixN ys.length i with
  | none => rw [e] at h; cases h
  | some j =>
    rw [e] at h
    have hj : j < ys.length := (List.getElem?_eq_some_iff.mp h).1
    have hx : xs[j]? = some xs[j] := List.getElem?_eq_getElem (by omega)
    exact ⟨xs[j], j, hx, hx, h⟩
theorem ixr : IxR X (liftO X.K opIx) := IxR.imp ix_seq fun x y H Q ⟨F, R, ps, da, db, k, g, ra, rb, q, kk⟩ => by
  unfold opIx at q
  split at q
  · rename_i i
    split at q
    · obtain ⟨z, c, e, q⟩ := q
      exact .inr (.inr ⟨_, i, c, ra.str_inv, rb.int_inv, z, e, kk _ _ F H q (Same.refl _) (g.push (.str _))⟩)
    · split at q
      · rename_i ds hd
        obtain ⟨d, e, q⟩ := q
        obtain ⟨p, vs, ex, h, r⟩ := ra.items hd
        obtain ⟨v, j, ea, ev, ed⟩ := atI_len r.length e
        have fin := kk _ _ F H q (Same.refl _) (g.push (r.get ev ed))
        rcases h with h | h
        · exact .inl ⟨p, vs, i, v, ex, rb.int_inv, g.hF.seq h, ea, fin⟩
        · exact .inr (.inl ⟨p, vs, i, v, ex, rb.int_inv, Same.seqT g.hF h, ea, fin⟩)
      · exact q.elim
  · exact q.elim
end
end TL

namespace TL
open PySem PySem.Spec PyProof.Rows L2

/-! ### subscripts -/
section
variable {X : Cx} {Y : Act} {a b e : Expr} {es : List Expr} {pos : Pos}
theorem de_ix {ta tb : DE} (ha : PE X a (lift Y X.K ta)) (hb : PE X b (lift Y X.K tb)) (hs : PlainIx b) : PE X (.Subscript a b pos) (lift Y X.K (dOp opIx ta tb)) :=
  PE.imp (pe_ix ixr ha hb hs) fun _ _ _ h => lift_op h
/-- x[..] where x may be owned: it stays so -/
def dIxV (i : Nat) (tb : DE) : DE := fun env Q => (slotL env i).isSome = true ∧ tb env fun lb env1 => match env1[i]? with
  | some (some (.fr a)) => opIx a lb.toD fun r => Q r env1
  | some (some (.box .lst ls)) => (match lb.toD with
    | .int j => ∃ d, atI ls j = some (.fr d) ∧ Q (.fr d) env1
    | _ => False)
  | _ => False
theorem Owns.get {K : PySem.W.Frag} {F H : Hp} : ∀ {vs : List V} {ls : List L} {As : List Addr} {j : Nat} {v : V} {d : D}, Owns K F H vs ls As → vs[j]? = some v → ls[j]? = some (.fr d) → Rep K F v d
  | _, _, _, 0, _, _, .cons h _, e, q => by simp at e q; subst e; subst q; cases h; assumption
  | _, _, _, j + 1, _, _, .cons _ r, e, q => Owns.get (j := j) r (by simpa using e) (by simpa using q)
  | _, _, _, _, _, _, .nil, e, _ => by simp at e
theorem Hold.item {K : PySem.W.Frag} {F R H : Hp} {Xs : List Addr} {v : V} {ls : List L} {ps : List (V × L)} {i : Int} {d : D} (h : Hold K F R H Xs ((v, .box .lst ls) :: ps)) (e : atI ls i = some (.fr d)) :
    ∃ p vs u, v = .ref p ∧ H p = some (.lst vs) ∧ atI vs i = some u ∧ Rep K F u d := by
  obtain ⟨As, ow, nd, n⟩ := h.own
  cases ow with
  | cons o1 o2 =>
    cases o1 with
    | @box p dx _ _ As vs e1 e2 e3 r =>
      obtain ⟨u, j, h1, h2, h3⟩ := atI_len r.length e
      exact ⟨p, vs, u, rfl, e1, h1, r.get h2 h3⟩
theorem slot_v {σ : L2.St} {env : Ev} {i : Nat} (w : Wf σ env) (h : (slotL env i).isSome = true) : ∃ v l, σ[i]? = some (some v) ∧ env[i]? = some (some l) := by
  unfold slotL at h
  cases q : env[i]? with
  | none => rw [q] at h; cases h
  | some o =>
    rw [q] at h
    cases o with
    | none => cases h
    | some l => obtain ⟨v, hv⟩ := w.get q; exact ⟨v, l, hv, rfl⟩
theorem de_ixv {i : Nat} {tb : DE} (ha : PE X a (tVar i)) (hb : PE X b (lift Y X.K tb)) (hs : PlainIx b) : PE X (.Subscript a b pos) (lift Y X.K (dIxV i tb)) :=
  PE.imp (pe_ix (ix_list.or ixr) ha hb hs) fun σ H Q ⟨F, R, env, k, a, ⟨h0, q⟩, kk⟩ => by
    obtain ⟨v, _, hv, _⟩ := slot_v a.wf h0
    refine ⟨v, hv, F, R, env, _, a, q, fun lb env1 y F1 H1 q1 s1 w1 g1 => ?_⟩
    obtain ⟨F2, s2, g2⟩ := g1.frz
    split at q1
    · rename_i da he
      have hr := (g2.drop.perm (slots_get he hv)).head
      exact .inr ⟨F2, R, _, _, _, _, g2.drop, hr, g2.head, q1, fun l v F3 H3 q3 s3 g3 => kk _ _ _ _ _ q3 ((s1.trans s2).trans s3) w1 g3⟩
    · rename_i ls he
      split at q1
      · rename_i j hb
        obtain ⟨d, e, q1⟩ := q1
        have hy := g2.head
        rw [hb] at hy
        obtain ⟨p, vs, u, ev, eH, ea, ru⟩ := (g2.drop.perm (slots_get he hv)).item e
        exact .inl ⟨p, vs, j, u, ev, hy.int_inv, SqL.of eH, ea, kk _ _ _ F2 H1 q1 (s1.trans s2) w1 (g2.drop.push ru)⟩
      · exact q1.elim
    · exact q1.elim
/-- x[..] = the value, x owned -/
def dgIx (i : Nat) (tb : DE) : DG := fun l env Q => (slotL env i).isSome = true ∧ tb env fun lb env1 => match env1[i]? with
  | some (some (.box .lst ls)) => (match lb.toD with
    | .int j => ∃ n, ixN ls.length j = some n ∧ Q (env1.set i (some (.box .lst (ls.set n l))))
    | _ => False)
  | _ => False
theorem Hold.setN {K : PySem.W.Frag} {F R H : Hp} {Xs : List Addr} {x : V × L} : ∀ {xs ps : List (V × L)} (n : Nat), Hold K F R H Xs (xs ++ x :: ps) → Hold K F R H Xs (xs.set n x ++ ps)
  | [], ps, n, h => by simpa using h.drop
  | y :: xs, ps, 0, h => by
    have h1 : Hold K F R H Xs (x :: (xs ++ ps)) := (Hold.drop (ps := xs ++ x :: ps) h).perm List.perm_middle
    simpa using h1
  | y :: xs, ps, n + 1, h => by
    have h1 : Hold K F R H Xs (xs ++ x :: (y :: ps)) := h.perm (by
      show (y :: (xs ++ x :: ps)).Perm (xs ++ x :: y :: ps)
      exact List.perm_middle.symm.trans (List.Perm.append_left _ (List.Perm.swap _ _ _)))
    have h2 := Hold.setN n h1
    simpa using h2.perm List.perm_middle
theorem map_set1 {xs : List (V × L)} {n : Nat} {x : V × L} : (xs.set n x).map (·.1) = (xs.map (·.1)).set n x.1 := by rw [List.map_set]
theorem map_set2 {xs : List (V × L)} {n : Nat} {x : V × L} : (xs.set n x).map (·.2) = (xs.map (·.2)).set n x.2 := by rw [List.map_set]
theorem dg_ix {i : Nat} {tb : DE} (ho : PE X a (tVar i)) (hi : PE X b (lift Y X.K tb))
    (ha : ∀ v, assign (.Subscript a b pos) X.env v = (do
      let ov ← holding [v] (eval a X.env)
      let iv ← holding [v, ov] (eval b X.env)
      standAt pos
      holding [v, ov, iv] (setItem ov iv v)
      release [v, ov, iv] []) := by intro _; rfl) : PG X (.Subscript a b pos) (liftG Y X.K (dgIx i tb)) :=
  PG.imp (pg_sub ho hi set_list ha) fun v σ H Q ⟨F, R, env, l, k, a, g, ⟨h0, q⟩, kk⟩ => by
    obtain ⟨o, _, ho, _⟩ := slot_v a.wf h0
    obtain ⟨R', sR, g1, back⟩ := Hold.frame (ps := slotsP σ env) (qs := [(v, l)]) (g.perm (List.perm_append_comm (l₁ := [(v, l)])))
    refine ⟨o, ho, F, R', env, _, ⟨a.f, a.r.trans sR, a.fx, a.len, a.wf, g1⟩, q, fun lb env1 y F1 H1 q1 s1 w1 g2 => ?_⟩
    have g3 := back F1 H1 _ s1 g2
    have hy0 := g2.frz
    split at q1
    · rename_i ls he
      split at q1
      · rename_i j hb
        obtain ⟨n, en, q1⟩ := q1
        obtain ⟨F', _, gf⟩ := hy0
        have hy := gf.head
        rw [hb] at hy
        have g4 : Hold X.K F1 R H1 [] ((o, .box .lst ls) :: ((v, l) :: slotsP σ (env1.set i none))) := (Hold.drop (ps := slotsP σ env1 ++ [(v, l)]) g3).perm
          ((List.perm_append_comm (l₂ := [(v, l)])).trans ((List.Perm.cons _ (slots_get he ho)).trans (List.Perm.swap _ _ _)))
        obtain ⟨p, dx, vs, eo, eH, _, _, el, g5⟩ := g4.open
        refine ⟨p, vs, j, n, eo, hy.int_inv, eH, by rw [el]; exact en, ?_⟩
        have g6 := Hold.setN n g5
        have g7 := Hold.closeW (s := .lst) (s' := .lst) g6 True.intro True.intro rfl rfl
        rw [map_set1, map_set2, map_zip1 el, map_zip2 el] at g7
        have hi' : i < env1.length := (List.getElem?_eq_some_iff.mp he).1
        refine kk _ _ F1 _ q1 s1 (a.to s1 (w1.setL ho) ?_)
        subst eo
        exact g7.perm (slots_put ho hi').symm
      · exact q1.elim
    · exact q1.elim

/-! ### slices -/
abbrev DO := Ev → (Option Int → Ev → Prop) → Prop
def liftP (Y : Act) (K : PySem.W.Frag) (t : DO) : TO := fun σ H Q => ∃ F R env k, At Y K F R H σ env ∧ t env k ∧
  ∀ o env' F' H', k o env' → Same F F' → Wf σ env' → Hold K F' R H' [] (slotsP σ env') → Q o H'
theorem PO.imp {e : Option Expr} {t t' : TO} (h : PO X e t) (i : ∀ σ H Q, t' σ H Q → t σ H Q) : PO X e t' := ⟨fun pins s σ H Q I q => h.run pins s σ H Q I (i _ _ _ q)⟩
def doNone : DO := fun env Q => Q none env
def doSome (t : DE) : DO := fun env Q => t env fun l env1 => match l.toD with
  | .int i => Q (some i) env1
  | _ => False
theorem do_none : PO X none (liftP Y X.K doNone) := PO.imp po_none fun σ H Q ⟨F, R, env, k, a, q, kk⟩ => kk _ _ F H q (Same.refl _) a.wf a.hold
theorem do_some {t : DE} (h : PE X e (lift Y X.K t)) : PO X (some e) (liftP Y X.K (doSome t)) := PO.imp (po_some h) fun σ H Q ⟨F, R, env, k, a, q, kk⟩ => by
  refine ⟨F, R, env, _, a, q, fun l env1 v F1 H1 q1 s1 w1 g1 => ?_⟩
  obtain ⟨F2, s2, g2⟩ := g1.frz
  have hr := g2.head
  split at q1
  · rename_i i hl
    rw [hl] at hr
    exact ⟨i, hr.int_inv, kk _ _ F2 H1 q1 (s1.trans s2) w1 g2.drop⟩
  · exact q1.elim
def cutD {α : Type} (xs : List α) (lo hi : Option Int) : List α := (xs.drop (HT.sIx xs.length 0 lo)).take (HT.sIx xs.length xs.length hi - HT.sIx xs.length 0 lo)
theorem Reps.cut {K : PySem.W.Frag} {F : Hp} {vs : List V} {ds : List D} {lo hi : Option Int} (r : Reps K F vs ds) : Reps K F (cutV vs lo hi) (cutD ds lo hi) := by
  unfold cutV cutD
  rw [r.length]
  exact (r.drop _).take _
def slD : D → Option Int → Option Int → (L → Prop) → Prop := fun d lo hi k => match d with
  | .box .lst ds => k (.lst ((cutD ds lo hi).map L.fr))
  | .ro ds => k (.lst ((cutD ds lo hi).map L.fr))
  | .str x => x.length ≤ sizeLine ∧ k (.fr (.str (cutS x lo hi)))
  | .tup ds => k (.fr (.tup (cutD ds lo hi)))
  | _ => False
def liftSl (K : PySem.W.Frag) : V → Option Int → Option Int → Hp → VK → Prop := fun x lo hi H Q => ∃ F R ps d k, Hold K F R H [] ps ∧ Rep K F x d ∧ slD d lo hi k ∧
  ∀ l v F' H', k l → Same F F' → Hold K F' R H' [] ((v, l) :: ps) → Q v H'
theorem SlR.imp {r r' : V → Option Int → Option Int → Hp → VK → Prop} (h : SlR X r) (i : ∀ x lo hi H Q, r' x lo hi H Q → r x lo hi H Q) : SlR X r' :=
  fun pins s σ H x v vl vu lo hi sl Q I rx hs pl pu q => h pins s σ H x v vl vu lo hi sl Q I rx hs pl pu (i _ _ _ _ _ q)
theorem slr : SlR X (liftSl X.K) := SlR.imp (sl_list.or (sl_str.or sl_tupA)) fun x lo hi H Q ⟨F, R, ps, d, k, g, r, q, kk⟩ => by
  unfold slD at q
  split at q
  · obtain ⟨p, vs, e, h, rr⟩ := r.lst_inv
    exact .inl ⟨p, vs, e, SqL.of (g.hF _ _ h), fun a ha => kk _ _ F _ q (Same.refl _) (g.newL rr.cut ha)⟩
  · obtain ⟨p, vs, e, h, rr⟩ := r.ro_inv
    exact .inl ⟨p, vs, e, g.hF.seq h, fun a ha => kk _ _ F _ q (Same.refl _) (g.newL rr.cut ha)⟩
  · exact .inr (.inl ⟨_, r.str_inv, q.1, kk _ _ F H q.2 (Same.refl _) (g.push (.str _))⟩)
  · obtain ⟨p, vs, e, h, rr⟩ := r.tup_inv
    refine .inr (.inr ⟨p, vs, e, Same.seqT g.hF h.sq, fun z => ?_, fun _ a ha => ?_⟩)
    · have ec : cutV vs lo hi = vs := by
        unfold cutV
        rw [z.1, z.2]
        simp
      have rc := rr.cut (lo := lo) (hi := hi)
      rw [ec] at rc
      subst e
      exact kk _ _ F H q (Same.refl _) (g.push (.tup h rc))
    · obtain ⟨s, g2⟩ := g.known (o := .tup (cutV vs lo hi)) ha
      exact kk _ _ _ _ q s (g2.push (.tup (.inl upd_same) (rr.cut.mono s)))
  · exact q.elim
def dSl (t : DE) (tl th : DO) : DE := fun env Q => t env fun l env1 => tl env1 fun lo env2 => th env2 fun hi env3 => slD l.toD lo hi fun r => Q r env3
theorem de_sl {t : DE} {tl th : DO} {lo hi : Option Expr} {p2 : Pos} (he : PE X e (lift Y X.K t)) (hl : PO X lo (liftP Y X.K tl)) (hu : PO X hi (liftP Y X.K th)) : PE X (.Subscript e (.Slice lo hi none p2) pos) (lift Y X.K (dSl t tl th)) :=
  PE.imp (pe_slice slr he hl hu) fun σ H Q ⟨F, R, env, k, a, q, kk⟩ => by
    refine ⟨F, R, env, _, a, q, fun l env1 v F1 H1 q1 s1 w1 g1 => ?_⟩
    obtain ⟨F2, s2, g2⟩ := g1.frz
    refine ⟨F2, R, env1, _, a.to (s1.trans s2) w1 g2.drop, q1, fun o env2 F3 H3 q3 s3 w3 g3 => ?_⟩
    refine ⟨F3, R, env2, _, a.to ((s1.trans s2).trans s3) w3 g3, q3, fun o2 env3 F4 H4 q4 s4 w4 g4 => ?_⟩
    exact ⟨F4, R, _, _, _, g4, g2.head.mono (s3.trans s4), q4, fun l v F5 H5 q5 s5 g5 => kk _ _ _ _ _ q5 ((((s1.trans s2).trans s3).trans s4).trans s5) w4 g5⟩

/-! ### methods of what a slot owns -/
abbrev Mt := L → List L → (L → L → Prop) → Prop
def liftM (K : PySem.W.Frag) (f : Mt) : V → List V → Hp → VK → Prop := fun x vs H Q => ∃ F R l ls ps k, vs.length = ls.length ∧ Hold K F R H [] ((x, l) :: (vs.zip ls ++ ps)) ∧ f l ls k ∧
  ∀ r l' v F' H', k r l' → Same F F' → Hold K F' R H' [] ((v, r) :: (x, l') :: ps) → Q v H'
def dMt (f : Mt) (i : Nat) (t : DA) : DE := fun env Q => (∃ ls, slotL env i = some (.box .lst ls)) ∧ t env fun xs env1 => ∃ l, slotL env1 i = some l ∧ f l (xs.map (·.1)) fun r l' => Q r (env1.set i (some l'))
theorem slot_get {env : Ev} {i : Nat} {l : L} (h : slotL env i = some l) : env[i]? = some (some l) := by
  unfold slotL at h
  cases q : env[i]? with
  | none => rw [q] at h; cases h
  | some o => rw [q] at h; cases o with
    | none => cases h
    | some m => cases h; rfl
theorem lift_mt {f : Mt} {i : Nat} {t : DA} {σ : L2.St} {H : Hp} {Q : VK} (h : lift Y X.K (dMt f i t) σ H Q) : tBM X.K "list" (liftM X.K f) (tVar i) (liftA Y X.K t) σ H Q := by
  obtain ⟨F, R, env, k, a, ⟨⟨ls0, h0⟩, q⟩, kk⟩ := h
  have he := slot_get h0
  obtain ⟨v, hv⟩ := a.wf.get he
  obtain ⟨p, dx, vs0, ev, eH, _⟩ := (a.hold.perm (slots_get he hv)).open
  refine ⟨v, hv, ?_, F, R, env, _, a, q, fun xs env1 vs F1 H1 ⟨l, h1, q1⟩ s1 w1 m1 g1 => ?_⟩
  · subst ev
    exact .inl ⟨rfl, _, SqL.of eH⟩
  · have he1 := slot_get h1
    have hi : i < env1.length := (List.getElem?_eq_some_iff.mp he1).1
    refine ⟨F1, R, l, _, slotsP σ (env1.set i none), _, by rw [m1.len, List.length_map], g1.perm ?_, q1, fun r l' v' F' H' q2 s2 g2 => ?_⟩
    · exact (List.Perm.append_left _ (slots_get he1 hv)).trans List.perm_middle
    · exact kk _ _ _ F' H' q2 (s1.trans s2) (w1.setL hv) (g2.perm (List.Perm.cons _ (slots_put hv hi).symm))
theorem MtR.imp {id : String} {r r' : V → List V → Hp → VK → Prop} (h : MtR X id r) (i : ∀ x xs H Q, r' x xs H Q → r x xs H Q) : MtR X id r' :=
  fun pins s σ H x xs v us Q I rx rs q => h pins s σ H x xs v us Q I rx rs (i _ _ _ _ q)
def mAppend : Mt := fun l ls k => match l, ls with
  | .box .lst xs, [y] => xs.length < sizeLine ∧ k (.fr .non) (.box .lst (xs ++ [y]))
  | _, _ => False
theorem mtr_append : MtR X "list.append" (liftM X.K mAppend) := MtR.imp mt_append fun x vs H Q ⟨F, R, l, ls, ps, k, hl, g, q, kk⟩ => by
  unfold mAppend at q
  split at q
  · rename_i xs y
    match vs, hl with
    | [v], _ =>
      have g : Hold X.K F R H [] ((x, .box .lst xs) :: (v, y) :: ps) := g
      obtain ⟨p, dx, ws, ex, eH, _, _, el, g1⟩ := g.open
      refine ⟨p, ws, v, ex, rfl, eH, by rw [el]; exact q.1, ?_⟩
      have g2 : Hold X.K F R H (Shape.lst.adr p dx ++ []) ((ws.zip xs ++ [(v, y)]) ++ ps) := g1.perm (by simp)
      have g3 := Hold.closeW (s := .lst) (s' := .lst) g2 True.intro True.intro rfl rfl
      have e1 : (ws.zip xs ++ [(v, y)]).map (·.1) = ws ++ [v] := by rw [List.map_append, map_zip1 el]; rfl
      have e2 : (ws.zip xs ++ [(v, y)]).map (·.2) = xs ++ [y] := by rw [List.map_append, map_zip2 el]; rfl
      rw [e1, e2] at g3
      subst ex
      exact kk _ _ _ F _ q.2 (Same.refl _) (g3.push .non)
  · exact q.elim
def mReverse : Mt := fun l ls k => match l, ls with
  | .box .lst xs, [] => k (.fr .non) (.box .lst xs.reverse)
  | _, _ => False
theorem mtr_reverse : MtR X "list.reverse" (liftM X.K mReverse) := MtR.imp mt_reverse fun x vs H Q ⟨F, R, l, ls, ps, k, hl, g, q, kk⟩ => by
  unfold mReverse at q
  split at q
  · rename_i xs
    match vs, hl with
    | [], _ =>
      have g : Hold X.K F R H [] ((x, .box .lst xs) :: ps) := g
      obtain ⟨p, dx, ws, ex, eH, _, _, el, g1⟩ := g.open
      refine ⟨p, ws, ex, rfl, eH, ?_⟩
      have g2 : Hold X.K F R H (Shape.lst.adr p dx ++ []) ((ws.zip xs).reverse ++ ps) := g1.perm (List.Perm.append_right _ (List.reverse_perm _).symm)
      have g3 := Hold.closeW (s := .lst) (s' := .lst) g2 True.intro True.intro rfl rfl
      rw [List.map_reverse, List.map_reverse, map_zip1 el, map_zip2 el] at g3
      subst ex
      exact kk _ _ _ F _ q (Same.refl _) (g3.push .non)
  · exact q.elim
/-- the last one -/
def mPop : Mt := fun l ls k => match l, ls with
  | .box .lst xs, [] => ∃ y, xs[xs.length - 1]? = some y ∧ k y (.box .lst xs.dropLast)
  | _, _ => False
theorem zip_last {vs : List V} {ls : List L} {v : V} {l : L} (hl : vs.length = ls.length) (hv : vs[vs.length - 1]? = some v) (h : ls[ls.length - 1]? = some l) : vs.zip ls = vs.dropLast.zip ls.dropLast ++ [(v, l)] := by
  have e1 : vs = vs.dropLast ++ [v] := by
    have hn : vs ≠ [] := fun z => by subst z; simp at hv
    have := List.dropLast_concat_getLast hn
    rw [List.getLast_eq_getElem] at this
    rw [List.getElem?_eq_getElem (by have := List.length_pos_iff.mpr hn; omega)] at hv
    rw [Option.some.inj hv] at this
    exact this.symm
  have e2 : ls = ls.dropLast ++ [l] := by
    have hn : ls ≠ [] := fun z => by subst z; simp at h
    have := List.dropLast_concat_getLast hn
    rw [List.getLast_eq_getElem] at this
    rw [List.getElem?_eq_getElem (by have := List.length_pos_iff.mpr hn; omega)] at h
    rw [Option.some.inj h] at this
    exact this.symm
  conv => lhs; rw [e1, e2]
  rw [zip_app (by simp [hl])]
  rfl
theorem mtr_pop : MtR X "list.pop" (liftM X.K mPop) := MtR.imp mt_pop fun x vs H Q ⟨F, R, l, ls, ps, k, hl, g, q, kk⟩ => by
  unfold mPop at q
  split at q
  · rename_i xs
    obtain ⟨y, ey, q⟩ := q
    match vs, hl with
    | [], _ =>
      have g : Hold X.K F R H [] ((x, .box .lst xs) :: ps) := g
      obtain ⟨p, dx, ws, ex, eH, _, _, el, g1⟩ := g.open
      have hpos : xs.length - 1 < xs.length := (List.getElem?_eq_some_iff.mp ey).1
      have hw : ws[ws.length - 1]? = some (ws[ws.length - 1]'(by omega)) := List.getElem?_eq_getElem (by omega)
      rw [zip_last el hw ey, List.append_assoc] at g1
      refine ⟨p, ws, _, ex, rfl, eH, hw, ?_⟩
      have g3 := Hold.closeW (s := .lst) (s' := .lst) g1 True.intro True.intro rfl rfl
      have el' : ws.dropLast.length = xs.dropLast.length := by simp [el]
      rw [map_zip1 el', map_zip2 el'] at g3
      subst ex
      exact kk _ _ _ F _ q (Same.refl _) (g3.perm (List.Perm.swap _ _ _))
  · exact q.elim
theorem de_mt {f : Mt} {i : Nat} {t : DA} {o : Expr} {name : Str} {id : String} {apos cpos : Pos} (slot : Slot "list" name id) (hty : typeOf (.builtin id) = pure (.type "method_descriptor")) (hm : MtR X id (liftM X.K f)) (ho : PE X o (tVar i)) (ha : PA X (e :: es) (liftA Y X.K t))
    (hbase : attributeBase o name X.env (eval o X.env) = eval o X.env := by rfl)
    (hfew : ((backTo cpos (starEach (e :: es) X.env)).all (fun x => !x.1) && (backToKw cpos (keywordEach [] X.env)).all (fun x => x.1.isSome)
      && decide ((e :: es).length + ([] : List Keyword).length + (if ([] : List Keyword).isEmpty then 0 else 1) < 30)) = true := by rfl)
    (hline : (apos.endLine == cpos.line) = true := by rfl) (hs : starEach (e :: es) X.env = (false, eval e X.env) :: starEach es X.env := by rfl) (hplain : (backTo cpos (starEach es X.env)).any (·.1) = false := by rfl) :
    PE X (.Call (.Attribute o name apos) (e :: es) [] cpos) (lift Y X.K (dMt f i t)) :=
  PE.imp (pe_bm PySem.F.plainAttrs_list slot hty hm ho ha hbase hfew hline hs hplain) fun _ _ _ h => lift_mt h
theorem de_mt0 {f : Mt} {i : Nat} {o : Expr} {name : Str} {id : String} {apos cpos : Pos} (slot : Slot "list" name id) (hty : typeOf (.builtin id) = pure (.type "method_descriptor")) (hm : MtR X id (liftM X.K f)) (ho : PE X o (tVar i))
    (hbase : attributeBase o name X.env (eval o X.env) = eval o X.env := by rfl) (hline : (apos.endLine == cpos.line) = true := by rfl) :
    PE X (.Call (.Attribute o name apos) [] [] cpos) (lift Y X.K (dMt f i daNil)) :=
  PE.imp (pe_bm0 PySem.F.plainAttrs_list slot hty hm ho hbase hline) fun σ H Q h => by
    obtain ⟨v, hv, ty, q⟩ := lift_mt h
    refine ⟨v, hv, ty, ?_⟩
    obtain ⟨F, R, env, k, a, q, kk⟩ := q
    exact kk [] env [] F H q (Same.refl _) a.wf True.intro a.hold
end
end TL

namespace TL
open PySem PySem.Spec PyProof.Rows L2

/-! ### built-ins by contracts -/
section
variable {X : Cx} {Y : Act}
/-- one argument that is only looked at -/
def con1 (f : D → (L → Prop) → Prop) : Con := fun args k _ => match args with
  | [l] => f l.toD fun r => k r [l]
  | _ => False
/-- two arguments that are only looked at -/
def con2 (f : D → D → (L → Prop) → Prop) : Con := fun args k _ => match args with
  | [l, m] => f l.toD m.toD fun r => k r [l, m]
  | _ => False
theorem bi1 {g : Value} {f : D → (L → Prop) → Prop} {r : List V → Hp → VK → Prop} (hr : CallR X g r)
    (hf : ∀ (v : V) (d : D) (H F1 F R : Hp) (ps : List (V × L)) (k : L → Prop) (Q : VK), Rep X.K F1 v d → Same F1 H → Hold X.K F R H [] ps → f d k → (∀ l v' F' H', k l → Same F F' → Hold X.K F' R H' [] ((v', l) :: ps) → Q v' H') → r [v] H Q) : BiOk X g (con1 f) :=
  CallR.imp hr fun vs H Q ⟨F, R, ls, k, kx, hl, g, c, h, _⟩ => by
    unfold con1 at c
    split at c
    · rename_i l
      match vs, hl with
      | [v], _ =>
        obtain ⟨F1, s1, g1⟩ := Hold.frz (ps := []) g
        exact hf v l.toD H F1 F R _ _ Q g1.head g1.hF g c fun r v' F' H' q s g' => h r [l] v' F' H' q s rfl g'
    · exact c.elim
theorem bi2 {g : Value} {f : D → D → (L → Prop) → Prop} {r : List V → Hp → VK → Prop} (hr : CallR X g r)
    (hf : ∀ (v u : V) (d e : D) (H F1 F R : Hp) (ps : List (V × L)) (k : L → Prop) (Q : VK), Rep X.K F1 v d → Rep X.K F1 u e → Same F1 H → Hold X.K F R H [] ps → f d e k → (∀ l v' F' H', k l → Same F F' → Hold X.K F' R H' [] ((v', l) :: ps) → Q v' H') → r [v, u] H Q) : BiOk X g (con2 f) :=
  CallR.imp hr fun vs H Q ⟨F, R, ls, k, kx, hl, g, c, h, _⟩ => by
    unfold con2 at c
    split at c
    · rename_i l m
      match vs, hl with
      | [v, u], _ =>
        obtain ⟨F1, s1, g1⟩ := Hold.frz (ps := [(u, m)]) g
        obtain ⟨F2, s2, g2⟩ := Hold.frz (g1.perm (List.Perm.swap _ _ _))
        exact hf v u l.toD m.toD H F2 F R _ _ Q (g1.head.mono s2) g2.head g2.hF g c fun r v' F' H' q s g' => h r [l, m] v' F' H' q s rfl g'
    · exact c.elim
/-- one argument that is known for good -/
def con1F (f : D → (L → Prop) → Prop) : Con := fun args k _ => match args with
  | [.fr d] => f d fun r => k r [.fr d]
  | _ => False
theorem bi1F {g : Value} {f : D → (L → Prop) → Prop} {r : List V → Hp → VK → Prop} (hr : CallR X g r)
    (hf : ∀ (v : V) (d : D) (H F R : Hp) (ps : List (V × L)) (k : L → Prop) (Q : VK), Rep X.K F v d → Hold X.K F R H [] ps → f d k → (∀ l v' F' H', k l → Same F F' → Hold X.K F' R H' [] ((v', l) :: ps) → Q v' H') → r [v] H Q) : BiOk X g (con1F f) :=
  CallR.imp hr fun vs H Q ⟨F, R, ls, k, kx, hl, g, c, h, _⟩ => by
    unfold con1F at c
    split at c
    · rename_i d
      match vs, hl with
      | [v], _ => exact hf v d H F R _ _ Q (Hold.head g) g c fun r v' F' H' q s g' => h r [.fr d] v' F' H' q s rfl g'
    · exact c.elim

def fLen : D → (L → Prop) → Prop := fun d k => match d with
  | .str x => x.length ≤ sizeLine ∧ k (.fr (.int x.length))
  | .box (.dK ks) ds => k (.fr (.int ds.length))
  | d => match d.items with
    | some ds => k (.fr (.int ds.length))
    | none => False
abbrev cLen : Con := con1 fLen
theorem bi_len : BiOk X (.builtin "len") cLen := bi1 (call_len_str.or (call_len_seq.or call_lenD)) fun v d H F1 F R ps k Q r s1 g c h => by
  unfold fLen at c
  split at c
  · exact .inl ⟨_, by rw [r.str_inv], c.1, h _ _ F H c.2 (Same.refl _) (g.push (.int _))⟩
  · rename_i ks0 ds0
    cases r with
    | @box p dx s vs ds e1 e2 e3 rr =>
      refine .inr (.inr ⟨p, _, rfl, s1 _ _ e1, ?_⟩)
      have e4 : ks0.length = vs.length := e2
      have e5 : (ks0.zip vs).length = ds0.length := by rw [List.length_zip, e4, rr.length]; exact Nat.min_self _
      rw [e5]
      exact h _ _ F H c (Same.refl _) (g.push (.int _))
  · split at c
    · rename_i ds hd
      obtain ⟨p, vs, e, hs, rr⟩ := r.items hd
      refine .inr (.inl ⟨p, vs, by rw [e], hs.imp (fun z => s1.seq z) (fun z => Same.seqT s1 z), ?_⟩)
      rw [rr.length]
      exact h _ _ F H c (Same.refl _) (g.push (.int _))
    · exact c.elim

/-- the built-in type's name -/
def D.tyn : D → Option String
  | .non => some "NoneType"
  | .bl _ => some "bool"
  | .int _ => some "int"
  | .str _ => some "str"
  | .tup _ => some "tuple"
  | .ro _ => some "list"
  | .box .lst _ => some "list"
  | .box (.dK _) _ => some "dict"
  | .box (.dT _) _ => some "dict"
  | _ => none
def knownTy (n : String) : Bool := n == "int" || n == "bool" || n == "str" || n == "list" || n == "tuple" || n == "dict"
def isB (t n : String) : Bool := t == n || (t == "bool" && n == "int")
theorem Rep.tyx {K : PySem.W.Frag} {F : Hp} {v : V} {d : D} {t : String} (h : Rep K F v d) (e : d.tyn = some t) : TyX K F v (.type t) := by
  cases h with
  | non => cases e; exact .base .non
  | bl b => cases e; exact .base (.bl b)
  | int b => cases e; exact .base (.int b)
  | str b => cases e; exact .base (.str b)
  | ref a => cases e
  | ty a => cases e
  | tup a r =>
    cases e
    rcases a with a | ⟨o, its, n, a, b, _⟩
    · exact .base (.tup a)
    · exact .kTuple a b
  | ro a r =>
    cases e
    rcases a with (a | ⟨o, a⟩) | ⟨o, its, n, a, b, _⟩
    · exact .base (.lst a)
    · exact .base (.frz a)
    · exact .kList a b
  | @box p dx s vs ds a b c r =>
    cases s with
    | lst => cases e; exact .base (.lst a)
    | dT ks => cases e; exact .base (.dT a)
    | dK ks => cases e; exact .base (.dK a)
    | obj C ns => cases e
theorem TyX.mono {K : PySem.W.Frag} {H H' : Hp} {v : V} {t : String} (s : Same H H') (h : TyX K H v (.type t)) : TyX K H' v (.type t) := by
  cases h with
  | base b =>
    cases b with
    | non => exact .base .non
    | bl x => exact .base (.bl x)
    | int x => exact .base (.int x)
    | str x => exact .base (.str x)
    | flt x => exact .base (.flt x)
    | lst e => exact .base (.lst (s _ _ e))
    | frz e => exact .base (.frz (s _ _ e))
    | tup e => exact .base (.tup (s _ _ e))
    | dK e => exact .base (.dK (s _ _ e))
    | dT e => exact .base (.dT (s _ _ e))
  | byt b => exact .byt b
  | set e => exact .set (s _ _ e)
  | kList e c => exact .kList e c
  | kTuple e c => exact .kTuple e c
  | kDict e c => exact .kDict e c
  | fTuple e => exact .fTuple (s _ _ e)
  | fDict e => exact .fDict (s _ _ e)
theorem tyn_cases {d : D} {t : String} (h : d.tyn = some t) : t = "NoneType" ∨ t = "bool" ∨ t = "int" ∨ t = "str" ∨ t = "tuple" ∨ t = "list" ∨ t = "dict" := by
  unfold D.tyn at h
  split at h <;> first | (cases h; simp) | cases h
theorem known_cases {n : String} (h : knownTy n = true) : n = "int" ∨ n = "bool" ∨ n = "str" ∨ n = "list" ∨ n = "tuple" ∨ n = "dict" := by
  simpa [knownTy, or_assoc] using h
theorem kitB_is {t n : String} (ht : t = "NoneType" ∨ t = "bool" ∨ t = "int" ∨ t = "str" ∨ t = "tuple" ∨ t = "list" ∨ t = "dict") (hn : n = "int" ∨ n = "bool" ∨ n = "str" ∨ n = "list" ∨ n = "tuple" ∨ n = "dict") : kitB t n = some (isB t n) := by
  rcases ht with rfl | rfl | rfl | rfl | rfl | rfl | rfl <;> rcases hn with rfl | rfl | rfl | rfl | rfl | rfl <;> decide +kernel
def fIsi : D → D → (L → Prop) → Prop := fun d e k => match e with
  | .ty n => knownTy n = true ∧ ∃ t, d.tyn = some t ∧ k (.fr (.bl (isB t n)))
  | .tup [.ty n, .ty m] => (knownTy n = true ∧ knownTy m = true) ∧ ∃ t, d.tyn = some t ∧ k (.fr (.bl (isB t n || isB t m)))
  | _ => False
abbrev cIsi : Con := con2 fIsi
theorem Reps.two {K : PySem.W.Frag} {F : Hp} {vs : List V} {d e : D} (h : Reps K F vs [d, e]) : ∃ v u, vs = [v, u] ∧ Rep K F v d ∧ Rep K F u e := by
  cases h with
  | cons a b => cases b with
    | cons c d => cases d; exact ⟨_, _, rfl, a, c⟩
theorem bi_isi : BiOk X (.builtin "isinstance") cIsi := bi2 (call_isi.or (call_isiT.or call_isiK)) fun v u d e H F1 F R ps k Q r r' s1 g c h => by
  unfold fIsi at c
  split at c
  · rename_i n
    obtain ⟨hn, t, ht, c⟩ := c
    cases r'
    exact .inl ⟨v, .ty n, .type t, .type n, _, rfl, .ty n, TyX.mono s1 (r.tyx ht), kit_ty (kitB_is (tyn_cases ht) (known_cases hn)), h _ _ F H c (Same.refl _) (g.push (.bl _))⟩
  · rename_i n m
    obtain ⟨⟨hn, hm⟩, t, ht, c⟩ := c
    obtain ⟨p, vs, e, hp, rr⟩ := r'.tup_inv
    obtain ⟨v1, u1, e2, r1, r2⟩ := rr.two
    subst e; subst e2
    cases r1
    cases r2
    have any : PySem.W.kitAny X.K (.type t) [.type n, .type m] = some (isB t n || isB t m) := by
      refine kitAny_cons (kit_ty (kitB_is (tyn_cases ht) (known_cases hn))) (fun z => ?_) (fun z => by rw [z]; rfl)
      rw [z, Bool.false_or]
      exact kitAny_cons (kit_ty (kitB_is (tyn_cases ht) (known_cases hm))) (fun z => by rw [z]; exact kitAny_nil) (fun z => z)
    rcases hp with hp | ⟨o, its, n', hk, hc, hd, hz, hv⟩
    · exact .inr (.inl ⟨v, p, _, .type t, _, _, rfl, s1 _ _ hp, .cons (.ty n) (.cons (.ty m) .nil), TyX.mono s1 (r.tyx ht), any, h _ _ F H c (Same.refl _) (g.push (.bl _))⟩)
    · refine .inr (.inr ⟨v, p, o.dict, [.type n, .type m], n', o.slots, .type t, _, rfl, ?_, TyX.mono s1 (r.tyx ht), any, h _ _ F H c (Same.refl _) (g.push (.bl _))⟩)
      have e3 : its = [Value.type n, Value.type m].toArray := by
        have two : ∀ l : List Value, Vals [.ty n, .ty m] l → l = [Value.type n, Value.type m] := fun l hv => by
          cases hv with
          | cons a b => cases b with
            | cons c d => cases d; rw [show _ = Value.type n from a, show _ = Value.type m from c]
        rw [← two _ hv]
      rw [hk]
      obtain ⟨oc, od, dt, sl⟩ := o
      simp only at hc hd
      subst hc hd e3
      rfl
  · exact c.elim

/-- a list of dBools, of dInts -/
def dBools : List D → Option (List Bool)
  | [] => some []
  | .bl b :: r => (dBools r).map (b :: ·)
  | _ => none
def dInts : List D → Option (List Int)
  | [] => some []
  | .int b :: r => (dInts r).map (b :: ·)
  | _ => none
theorem dBools_map (bs : List Bool) : dBools (bs.map D.bl) = some bs := by
  induction bs with
  | nil => rfl
  | cons b r ih => simp [dBools, ih]
theorem dInts_map (bs : List Int) : dInts (bs.map D.int) = some bs := by
  induction bs with
  | nil => rfl
  | cons b r ih => simp [dInts, ih]
theorem dBools_of : ∀ {ds : List D} {bs : List Bool}, dBools ds = some bs → ds = bs.map D.bl
  | [], bs, h => by cases h; rfl
  | .bl b :: r, bs, h => by
    cases e : dBools r with
    | none => simp [dBools, e] at h
    | some cs => simp [dBools, e] at h; subst h; simp [dBools_of e]
  | .non :: _, _, h => by simp [dBools] at h
  | .int _ :: _, _, h => by simp [dBools] at h
  | .str _ :: _, _, h => by simp [dBools] at h
  | .ref _ :: _, _, h => by simp [dBools] at h
  | .ty _ :: _, _, h => by simp [dBools] at h
  | .tup _ :: _, _, h => by simp [dBools] at h
  | .ro _ :: _, _, h => by simp [dBools] at h
  | .box _ _ :: _, _, h => by simp [dBools] at h
theorem dInts_of : ∀ {ds : List D} {bs : List Int}, dInts ds = some bs → ds = bs.map D.int
  | [], bs, h => by cases h; rfl
  | .int b :: r, bs, h => by
    cases e : dInts r with
    | none => simp [dInts, e] at h
    | some cs => simp [dInts, e] at h; subst h; simp [dInts_of e]
  | .non :: _, _, h => by simp [dInts] at h
  | .bl _ :: _, _, h => by simp [dInts] at h
  | .str _ :: _, _, h => by simp [dInts] at h
  | .ref _ :: _, _, h => by simp [dInts] at h
  | .ty _ :: _, _, h => by simp [dInts] at h
  | .tup _ :: _, _, h => by simp [dInts] at h
  | .ro _ :: _, _, h => by simp [dInts] at h
  | .box _ _ :: _, _, h => by simp [dInts] at h
theorem Reps.dBools {K : PySem.W.Frag} {F : Hp} : ∀ {vs : List V} {bs : List Bool}, Reps K F vs (bs.map D.bl) → vs = bs.map V.bl
  | _, [], .nil => rfl
  | _, b :: bs, .cons r rr => by rw [r.bl_inv, Reps.dBools rr]; rfl
theorem Reps.dInts {K : PySem.W.Frag} {F : Hp} : ∀ {vs : List V} {bs : List Int}, Reps K F vs (bs.map D.int) → vs = bs.map V.int
  | _, [], .nil => rfl
  | _, b :: bs, .cons r rr => by rw [r.int_inv, Reps.dInts rr]; rfl
def fBools (f : List Bool → Bool) : D → (L → Prop) → Prop := fun d k => match d with
  | .box .lst ds => ∃ bs, dBools ds = some bs ∧ k (.fr (.bl (f bs)))
  | _ => False
def fInts (f : List Int → Int) (c : List Int → Prop) : D → (L → Prop) → Prop := fun d k => match d with
  | .box .lst ds => ∃ ns, dInts ds = some ns ∧ c ns ∧ k (.fr (.int (f ns)))
  | _ => False
abbrev cAll : Con := con1 (fBools fun bs => bs.all id)
abbrev cAny : Con := con1 (fBools fun bs => bs.any id)
abbrev cSum : Con := con1 (fInts List.sum fun _ => True)
theorem bi_all (hc : X.calm = true) : BiOk X (.builtin "all") cAll := bi1 (cr_all hc) fun v d H F1 F R ps k Q r s1 g c h => by
  unfold fBools at c
  split at c
  · obtain ⟨bs, e, c⟩ := c
    have e := dBools_of e
    subst e
    obtain ⟨p, vs, ev, h1, rr⟩ := r.lst_inv
    rw [rr.dBools] at h1
    exact ⟨p, bs, by rw [ev], SqL.of (s1 _ _ h1), h _ _ F H c (Same.refl _) (g.push (.bl _))⟩
  · exact c.elim
theorem bi_any (hc : X.calm = true) : BiOk X (.builtin "any") cAny := bi1 (cr_any hc) fun v d H F1 F R ps k Q r s1 g c h => by
  unfold fBools at c
  split at c
  · obtain ⟨bs, e, c⟩ := c
    have e := dBools_of e
    subst e
    obtain ⟨p, vs, ev, h1, rr⟩ := r.lst_inv
    rw [rr.dBools] at h1
    exact ⟨p, bs, by rw [ev], SqL.of (s1 _ _ h1), h _ _ F H c (Same.refl _) (g.push (.bl _))⟩
  · exact c.elim
theorem bi_sum (hc : X.calm = true) : BiOk X (.builtin "sum") cSum := bi1 (cr_sum hc) fun v d H F1 F R ps k Q r s1 g c h => by
  unfold fInts at c
  split at c
  · obtain ⟨bs, e, _, c⟩ := c
    have e := dInts_of e
    subst e
    obtain ⟨p, vs, ev, h1, rr⟩ := r.lst_inv
    rw [rr.dInts] at h1
    exact ⟨p, bs, by rw [ev], SqL.of (s1 _ _ h1), h _ _ F H c (Same.refl _) (g.push (.int _))⟩
  · exact c.elim
def fInt : D → (L → Prop) → Prop := fun d k => match d with
  | .int i => k (.fr (.int i))
  | .bl b => k (.fr (.int (if b then 1 else 0)))
  | _ => False
abbrev cInt : Con := con1 fInt
theorem bi_int : BiOk X (.type "int") cInt := bi1 call_int1 fun v d H F1 F R ps k Q r s1 g c h => by
  unfold fInt at c
  split at c
  · exact .inl ⟨_, by rw [r.int_inv], h _ _ F H c (Same.refl _) (g.push (.int _))⟩
  · exact .inr ⟨_, by rw [r.bl_inv], h _ _ F H c (Same.refl _) (g.push (.int _))⟩
  · exact c.elim
def fAbs : D → (L → Prop) → Prop := fun d k => match d with
  | .int i => k (.fr (.int (if i < 0 then -i else i)))
  | _ => False
abbrev cAbs : Con := con1 fAbs
theorem bi_abs : BiOk X (.builtin "abs") cAbs := bi1 call_abs fun v d H F1 F R ps k Q r s1 g c h => by
  unfold fAbs at c
  split at c
  · exact ⟨_, by rw [r.int_inv], h _ _ F H c (Same.refl _) (g.push (.int _))⟩
  · exact c.elim
def fList : D → (L → Prop) → Prop := fun d k => match d.items with
  | some ds => k (.lst (ds.map L.fr))
  | none => False
abbrev cList : Con := con1F fList
theorem bi_list : BiOk X (.type "list") cList := bi1F call_list_of fun v d H F R ps k Q r g c h => by
  unfold fList at c
  split at c
  · rename_i ds hd
    obtain ⟨p, vs, e, hs, rr⟩ := r.items hd
    exact ⟨p, vs, by rw [e], hs.imp (fun z => g.hF.seq z) (fun z => Same.seqT g.hF z), fun a ha => h _ _ F _ c (Same.refl _) (g.newL rr ha)⟩
  · exact c.elim
def fTuple : D → (L → Prop) → Prop := fun d k => match d with
  | .tup ds => k (.fr (.tup ds))
  | .box .lst ds => k (.fr (.tup ds))
  | _ => False
abbrev cTuple : Con := con1F fTuple
theorem bi_tuple : BiOk X (.type "tuple") cTuple := bi1F call_tuple_of fun v d H F R ps k Q r g c h => by
  unfold fTuple at c
  split at c
  · obtain ⟨p, vs, e, hs, rr⟩ := r.tup_inv
    subst e
    exact ⟨p, vs, rfl, .inr ⟨Same.seqT g.hF hs.sq, h _ _ F H c (Same.refl _) (g.push (.tup hs rr))⟩⟩
  · obtain ⟨p, vs, e, hs, rr⟩ := r.lst_inv
    refine ⟨p, vs, by rw [e], .inl ⟨SqL.of (g.hF _ _ hs), fun a ha => ?_⟩⟩
    obtain ⟨s, g2⟩ := g.known (o := .tup vs) ha
    exact h _ _ _ _ c s (g2.push (.tup (.inl upd_same) (rr.mono s)))
  · exact c.elim
theorem un_D {op : UnaryOp} {e : Expr} {pos : Pos} {f : Int → Int} {t : DE} (h : UnR X (unaryOp op) (rU fun i => .int (f i))) (he : PE X e (lift Y X.K t)) :
    PE X (.UnaryOp op e pos) (lift Y X.K fun env Q => t env fun l env1 => match l.toD with | .int i => Q (.fr (.int (f i))) env1 | _ => False) :=
  PE.imp (pe_un h he) fun σ H Q ⟨F, R, env, k, a, q, kk⟩ => by
    refine ⟨F, R, env, _, a, q, fun l env1 v F1 H1 q1 s1 w1 g1 => ?_⟩
    obtain ⟨F2, s2, g2⟩ := g1.frz
    have hr := g2.head
    split at q1
    · rename_i i hl
      rw [hl] at hr
      exact ⟨i, hr.int_inv, kk _ _ _ F2 H1 q1 (s1.trans s2) w1 (g2.drop.push (.int _))⟩
    · exact q1.elim
def dNeg (t : DE) : DE := fun env Q => t env fun l env1 => match l.toD with | .int i => Q (.fr (.int (-i))) env1 | _ => False
theorem de_neg {e : Expr} {pos : Pos} {t : DE} (he : PE X e (lift Y X.K t)) : PE X (.UnaryOp .USub e pos) (lift Y X.K (dNeg t)) := un_D un_neg he
end
end TL

namespace TL
open PySem PySem.Spec PyProof.Rows L2
section
variable {X : Cx} {Y : Act} {elt tg iter : Expr} {pos : Pos}
theorem ds_setLc {i : Nat} {y : Str} {py spos : Pos} {scope : Scope} {ifs : List Expr} {own : List (Str × Nat)} {ti : DI} {g : DG} {tt : DT} {te : DE} (hx0 : ∀ q ∈ Y.fx, q.1 ≠ i) (hc : X.calm = true) (hN : X.N.Nodup) (hy : X.N[i]? = some y) (hyl : X.env.scope.names.lookup y = some .local)
    (hsw : swapsWith (.ListComp elt [⟨tg, iter, ifs, 0⟩] scope pos) (some (.Name y py)) spos.line X.env = pure true) (hi : PI X tg iter (liftI Y X.K ti)) (ok : BlkOk X.N X.env.scope scope own)
    (hg : ∀ (Y : Act), YOk (own.map (·.2)) Y → ∀ (s : Shared) (H : Hp) (C : Addr) (cl : List (Str × Addr)) (fp : List Addr), PG (X.blk s H scope (compEnvC scope cl C X.env) fp) tg (liftG Y X.K g))
    (ht : ∀ (Y : Act), YOk (own.map (·.2)) Y → ∀ (s : Shared) (H : Hp) (C : Addr) (cl : List (Str × Addr)) (fp : List Addr), PTs (X.blk s H scope (compEnvC scope cl C X.env) fp) ifs (liftT Y X.K tt))
    (he : ∀ (Y : Act), YOk (own.map (·.2)) Y → ∀ (s : Shared) (H : Hp) (C : Addr) (cl : List (Str × Addr)) (fp : List Addr), PE (X.blk s H scope (compEnvC scope cl C X.env) fp) elt (lift Y X.K te)) (hs : ∀ x, foldedSetIterable iter X.env x = pure x := by intro _; rfl) :
    PS X (.Assign [.Name y py] (.ListComp elt [⟨tg, iter, ifs, 0⟩] scope pos) spos) (liftS Y X.K (dsSet i (dComp ti (own.map (·.2)) g tt te))) :=
  PS.imp (ps_setLc hc hN hy hyl hsw hi ok (fun s H C cl fp => pg_some (X := X.blk s H scope (compEnvC scope cl C X.env) fp) fun Y y => hg Y y s H C cl fp) (fun s H C cl fp => pts_some (X := X.blk s H scope (compEnvC scope cl C X.env) fp) fun Y y => ht Y y s H C cl fp)
    (fun s H C cl fp => pe_some (X := X.blk s H scope (compEnvC scope cl C X.env) fp) fun Y y => he Y y s H C cl fp) hs) fun D σ H ⟨F, R, env, De, a, q, k⟩ =>
    lift_comp (Y := Y) ⟨F, R, env, _, a, q, fun l env' v F' H' q' s w g => k.nx _ _ _ _ q' s (a.set s hx0 w g)⟩
def opAddI : Op2 := fun a b k => match a, b with
  | .int i, .int j => k (.fr (.int (i + j)))
  | .str x, .str y => x.length + y.length ≤ sizeLine ∧ k (.fr (.str (x ++ y)))
  | _, _ => False
theorem opr_iadd : OpR X (inplaceOp .Add) (liftO X.K opAddI) := OpR.imp (iop_add.or iop_add_str) fun x y H Q ⟨F, R, ps, da, db, k, g, ra, rb, q, kk⟩ => by
  unfold opAddI at q
  split at q
  · exact .inl ⟨_, _, ra.int_inv, rb.int_inv, kk _ _ F H q (Same.refl _) (g.push (.int _))⟩
  · exact .inr ⟨_, _, ra.str_inv, rb.str_inv, q.1, kk _ _ F H q.2 (Same.refl _) (g.push (.str _))⟩
  · exact q.elim
theorem opr_isub : OpR X (inplaceOp .Sub) (liftO X.K opSub) := OpR.imp iop_sub fun x y H Q ⟨F, R, ps, da, db, k, g, ra, rb, q, kk⟩ => by
  unfold opSub at q
  split at q
  · rename_i i j
    exact ⟨i, j, ra.int_inv, rb.int_inv, kk _ _ F H q (Same.refl _) (g.push (.int _))⟩
  · exact q.elim
end
/-! ### the law's own contract -/
def cLaw (C : List Int → (L → List L → Prop) → Prop) : Con := fun args k _ => match args with
  | [.fr (.ro ds)] => ∃ ns, dInts ds = some ns ∧ ns.length ≤ 63 ∧ C ns k
  | _ => False
/-- a law that gives True -/
def cTrue : Con := fun args k _ => ∃ ns : List Int, args = [.fr (.ro (ns.map D.int))] ∧ ns.length ≤ 63 ∧ ∀ l, k (.fr (.bl true)) l
def spLaw (K : PySem.W.Frag) : Sp := fun vs H Q _ => ∃ (a : Addr) (ns : List Int), vs = [.ref a] ∧ SqL K H a (ns.map V.int) ∧ ns.length ≤ 63 ∧ ∀ H', Q (.bl true) H'
theorem reps_ints {K : PySem.W.Frag} {F : Hp} : ∀ ns : List Int, Reps K F (ns.map V.int) (ns.map D.int)
  | [] => .nil
  | n :: ns => .cons (.int n) (reps_ints ns)
theorem law_sp {K : PySem.W.Frag} : ∀ (vs : List V) (H : Hp) (Q : VK) (E : XK), spLaw K vs H Q E → spD K cTrue vs H Q E := fun vs H Q E ⟨a, ns, e, hS, hl, h⟩ => by
  subst e
  refine ⟨H, fun _ => none, [.fr (.ro (ns.map D.int))], fun l _ => l = .fr (.bl true), fun _ _ => False, rfl, ⟨⟨[], .cons (As := []) (.fr (.ro hS (reps_ints ns))) .nil, by simp, by simp⟩, fun _ => .inl rfl, Same.refl _, fun _ _ e => by cases e⟩, ⟨ns, rfl, hl, fun _ => rfl⟩, fun r ls' v F' H' e s _ g => ?_, fun _ _ _ _ _ _ q => q.elim⟩
  subst e
  rw [g.head.bl_inv]
  exact h H'
theorem law_CX {P : Program} {w : World} {l : List Env} {H : Hp} {s : Shared} {e : Value} {s' : Shared} (h : L2.CX P w l H s (fun _ _ _ => False) e s') : False := by
  obtain ⟨_, _, _, _, _, _, _, _, _, _, _, _, z⟩ := h
  exact z
end TL

namespace TL
open PySem PySem.Spec PyProof.Rows L2
/-! ### rules for the plain half -/
theorem rngD_get {lo : Int} {n i : Nat} {d : D} (h : (rngD lo n)[i]? = some d) : i < n ∧ d = .int (lo + (i : Int)) := by
  have hi : i < n := by
    have := (List.getElem?_eq_some_iff.mp h).1
    simpa [rngD] using this
  refine ⟨hi, ?_⟩
  unfold rngD at h
  rw [List.getElem?_map, List.getElem?_range hi] at h
  exact (Option.some.inj h).symm
theorem rngD_len (lo : Int) (n : Nat) : (rngD lo n).length = n := by simp [rngD]
theorem forD_ix {g : DG} {tb : DS} {De : DEnds} {ds : List D} {env : Ev} (I : Nat → Ev → Prop) (h0 : I 0 env)
    (hs : ∀ (i : Nat) (d : D) (env : Ev), ds[i]? = some d → I i env → ∀ N : Ev → Prop, (∀ e, I (i + 1) e → N e) → g (.fr d) env fun env1 => tb { De with nx := N, ct := N, bk := De.nx } env1)
    (he : ∀ e, I ds.length e → De.nx e) : forD g tb De ds env := by
  have key : ∀ (m i : Nat) (e : Ev), ds.length - i = m → i ≤ ds.length → I i e → forD g tb De (ds.drop i) e := by
    intro m
    induction m with
    | zero =>
      intro i e hm hi h
      have : i = ds.length := by omega
      subst this
      rw [List.drop_length]
      exact he e h
    | succ m ih =>
      intro i e hm hi h
      have hlt : i < ds.length := by omega
      rw [List.drop_eq_getElem_cons hlt]
      exact hs i ds[i] e (List.getElem?_eq_getElem hlt) h _ fun e' h' => ih (i + 1) e' (by omega) hlt h'
  exact key ds.length 0 env rfl (Nat.zero_le _) h0
theorem compD_ix {own : List Nat} {g : DG} {tt : DT} {te : DE} {Q : List L → Ev → Prop} {ds : List D} {env : Ev} (I : Nat → List L → Ev → Prop) (h0 : I 0 [] env)
    (hs : ∀ (i : Nat) (d : D) (acc : List L) (env : Ev), ds[i]? = some d → I i acc env → ∀ N : List L → Ev → Prop, (∀ a e, I (i + 1) a e → N a e) →
      g (.fr d) env fun env1 => tt env1 fun b env2 => if b = true then te env2 fun l env3 => acc.length < sizeLine ∧ N (acc ++ [l]) (wipeE env3 own) else N acc (wipeE env2 own))
    (he : ∀ a e, I ds.length a e → Q a e) : compD own g tt te Q ds [] env := by
  have key : ∀ (m i : Nat) (acc : List L) (e : Ev), ds.length - i = m → i ≤ ds.length → I i acc e → compD own g tt te Q (ds.drop i) acc e := by
    intro m
    induction m with
    | zero =>
      intro i acc e hm hi h
      have : i = ds.length := by omega
      subst this
      rw [List.drop_length]
      exact he acc e h
    | succ m ih =>
      intro i acc e hm hi h
      have hlt : i < ds.length := by omega
      rw [List.drop_eq_getElem_cons hlt]
      exact hs i ds[i] acc e (List.getElem?_eq_getElem hlt) h (fun a e => compD own g tt te Q (ds.drop (i + 1)) a e) fun a e' h' => ih (i + 1) a e' (by omega) hlt h'
  exact key ds.length 0 [] env rfl (Nat.zero_le _) h0
def cNo : Con := fun _ _ _ => False
theorem ok_no {P : Program} {w : World} {K : PySem.W.Frag} {mg : Str → Option Value} {base : Heap} {CX : CXT} {k : Nat} {f : Addr} {fd : FuncData} {ps : List Str} : FnOk P w K mg base CX k f fd ps (spD K cNo) :=
  ⟨fun vs H Q E ⟨_, _, _, _, _, _, _, h, _⟩ => h.elim, fun _ _ _ _ _ _ _ _ _ _ _ _ _ ⟨_, _, _, _, _, _, _, h, _⟩ => h.elim⟩
section
variable {α : Type}
theorem atI_0 (a : α) (l : List α) : atI (a :: l) 0 = some a := atI_nat (j := 0) rfl
theorem atI_1 (a b : α) (l : List α) : atI (a :: b :: l) 1 = some b := atI_nat (j := 1) rfl
theorem atI_2 (a b c : α) (l : List α) : atI (a :: b :: c :: l) 2 = some c := atI_nat (j := 2) rfl
theorem atI_3 (a b c d : α) (l : List α) : atI (a :: b :: c :: d :: l) 3 = some d := atI_nat (j := 3) rfl
theorem atI_4 (a b c d e : α) (l : List α) : atI (a :: b :: c :: d :: e :: l) 4 = some e := atI_nat (j := 4) rfl
theorem ixN_of {n j : Nat} (h : j < n) : ixN n (j : Int) = some j := by
  unfold ixN
  rw [if_pos (by omega), if_pos (by omega)]; simp
theorem ixN_0 (a : α) (l : List α) : ixN (a :: l).length 0 = some 0 := ixN_of (j := 0) (by simp)
theorem ixN_1 (a b : α) (l : List α) : ixN (a :: b :: l).length 1 = some 1 := ixN_of (j := 1) (by simp)
theorem ixN_2 (a b c : α) (l : List α) : ixN (a :: b :: c :: l).length 2 = some 2 := ixN_of (j := 2) (by simp)
theorem ixN_3 (a b c d : α) (l : List α) : ixN (a :: b :: c :: d :: l).length 3 = some 3 := ixN_of (j := 3) (by simp)
theorem ixN_4 (a b c d e : α) (l : List α) : ixN (a :: b :: c :: d :: e :: l).length 4 = some 4 := ixN_of (j := 4) (by simp)
theorem atI_of {xs : List α} {i : Int} (h0 : 0 ≤ i) (h1 : i < xs.length) : ∃ d, atI xs i = some d ∧ d ∈ xs ∧ xs[i.toNat]? = some d := by
  obtain ⟨j, rfl⟩ := Int.eq_ofNat_of_zero_le h0
  have hj : j < xs.length := by omega
  exact ⟨xs[j], atI_nat (List.getElem?_eq_getElem hj), List.getElem_mem hj, List.getElem?_eq_getElem hj⟩
end
theorem fmod_lt (a : Int) {b : Int} (h : 0 < b) : a.fmod b < b := Int.fmod_lt_of_pos a h
theorem fmod_nn (a : Int) {b : Int} (h : 0 < b) : 0 ≤ a.fmod b := Int.fmod_nonneg_of_pos a h
theorem fdiv_nn {a b : Int} (h : 0 ≤ a) (h2 : 0 < b) : 0 ≤ a.fdiv b := Int.fdiv_nonneg h (Int.le_of_lt h2)
end TL

namespace TL
open PySem PySem.Spec PyProof.Rows L2
/-! ### a look at all that is held: the answer is a plain value, what was owned is owned again -/
def frzL (l : L) : L := .fr l.toD
def frzE (env : Ev) : Ev := env.map fun o => o.map frzL
def D.scalar : D → Bool
  | .non => true
  | .bl _ => true
  | .int _ => true
  | .str _ => true
  | _ => false
theorem Rep.scalar {K : PySem.W.Frag} {F F' : Hp} {v : V} {d : D} (h : Rep K F v d) (e : d.scalar = true) : Rep K F' v d := by
  cases h with
  | non => exact .non
  | bl b => exact .bl b
  | int i => exact .int i
  | str x => exact .str x
  | ref a => cases e
  | ty n => cases e
  | tup a b => cases e
  | ro a b => cases e
  | box a b c d => cases e
theorem owns_fr {K : PySem.W.Frag} {F H : Hp} : ∀ {vs : List V} {ds : List D}, Reps K F vs ds → Owns K F H vs (ds.map L.fr) []
  | _, _, .nil => .nil
  | _, _, .cons r rr => .cons (As := []) (.fr r) (owns_fr rr)
theorem Hold.peek {K : PySem.W.Frag} {F R H : Hp} {ps : List (V × L)} (h : Hold K F R H [] ps) : ∃ F1, Same F F1 ∧ Hold K F1 R H [] (ps.map fun p => (p.1, frzL p.2)) ∧
    ∀ F2 H2, Same F1 F2 → Same F2 H2 → Same R H2 → Hold K F R H2 [] ps := by
  obtain ⟨As, ow, nd, n⟩ := h.own
  have n : ∀ a ∈ As, F a = none ∧ R a = none ∧ ∃ o, H a = some o := fun a ha => n a (by simpa using ha)
  have s : Same F (fun a => if a ∈ As then H a else F a) := fun b u e => by
    show (if b ∈ As then H b else F b) = some u
    rw [if_neg (fun z => by rw [(n b z).1] at e; cases e)]; exact e
  have rr : Reps K (fun a => if a ∈ As then H a else F a) (ps.map (·.1)) (L.toDs (ps.map (·.2))) := ow.frz s fun a ha => if_pos ha
  refine ⟨fun a => if a ∈ As then H a else F a, s, ⟨⟨[], ?_, by simp, fun a ha => by simp at ha⟩, fun a => ?_, fun b u e => ?_, h.hR⟩, fun F2 H2 s2 hF hR => ?_⟩
  · have := owns_fr (H := H) rr
    rw [toDs_map] at this
    simpa [frzL, List.map_map, Function.comp_def] using this
  · by_cases e : a ∈ As
    · exact .inl (n a e).2.1
    · rcases h.dis a with q | q
      · exact .inl q
      · exact .inr (by show (if a ∈ As then H a else F a) = none; rw [if_neg e]; exact q)
  · have e' : (if b ∈ As then H b else F b) = some u := e
    by_cases z : b ∈ As
    · rw [if_pos z] at e'; exact e'
    · rw [if_neg z] at e'; exact h.hF _ _ e'
  · have eq : ∀ a ∈ As, H2 a = H a := fun a ha => by
      obtain ⟨_, _, o, e⟩ := n a ha
      rw [e]
      exact hF _ _ (s2 _ _ (by show (if a ∈ As then H a else F a) = some o; rw [if_pos ha]; exact e))
    refine ⟨⟨As, ow.mono (Same.refl _) eq, nd, fun a ha => ?_⟩, h.dis, fun b u e => hF _ _ (s2 _ _ (s _ _ e)), hR⟩
    have ha : a ∈ As := by simpa using ha
    obtain ⟨x, y, o, e⟩ := n a ha
    exact ⟨x, y, o, by rw [eq a ha]; exact e⟩
theorem slots_frz : ∀ {σ : List (Option V)} {env : Ev}, slotsP σ (frzE env) = (slotsP σ env).map fun p => (p.1, frzL p.2)
  | [], env => by simp [slotsP]
  | o :: σ, [] => by cases o <;> simp [slotsP, frzE]
  | some v :: σ, some l :: env => by
    have := slots_frz (σ := σ) (env := env)
    unfold frzE at this ⊢
    simp only [List.map_cons, Option.map_some, slotsP]
    rw [this]
  | some v :: σ, none :: env => by
    have := slots_frz (σ := σ) (env := env)
    unfold frzE at this ⊢
    simp only [List.map_cons, Option.map_none, slotsP]
    rw [this]
  | none :: σ, e :: env => by
    have := slots_frz (σ := σ) (env := env)
    unfold frzE at this ⊢
    simp only [List.map_cons, slotsP]
    rw [this]
theorem wf_frz : ∀ {σ : List (Option V)} {env : Ev}, Wf σ env → Wf σ (frzE env)
  | [], [], _ => trivial
  | o :: σ, e :: env, h => ⟨fun q => h.1 (by cases e <;> simp_all), wf_frz h.2⟩
  | [], _ :: _, h => h.elim
  | _ :: _, [], h => h.elim
def dTmp (t : DE) : DE := fun env Q => t (frzE env) fun l _ => ∃ d, l = .fr d ∧ d.scalar = true ∧ Q l env
section
variable {X : Cx} {Y : Act}
theorem de_tmp {e : Expr} {t : DE} (h : PE X e (lift Y X.K t)) : PE X e (lift Y X.K (dTmp t)) :=
  PE.imp h fun σ H Q ⟨F, R, env, k, a, q, kk⟩ => by
    obtain ⟨F1, s1, g1, back⟩ := a.hold.peek
    rw [← slots_frz] at g1
    refine ⟨F1, R, frzE env, _, a.to s1 (wf_frz a.wf) g1, q, fun l env' v F2 H2 ⟨d, e, hd, q2⟩ s2 w2 g2 => ?_⟩
    subst e
    exact kk _ env v F H2 q2 (Same.refl _) a.wf ((back F2 H2 s2 g2.hF g2.hR).push (g2.head.scalar hd))
theorem de_tyn {x : Str} {n : String} {p : Pos} (hg : Gl X x) (hm : X.mg x = none) (hv : bootBuiltins x = some (.type n)) (hn : x ≠ "__name__" := by decide) (hd : (x == ("__debug__" : Str)) = false := by decide) : PE X (.Name x p) (lift Y X.K (dC (.ty n))) :=
  de_c (pe_bltn (v := .ty n) hg hm hv rfl hn hd) fun _ => .ty n
end
end TL

namespace TL
open PySem PySem.Spec PyProof.Rows L2
/-! ### rules that turn a transformer at written slots into what is to be shown: continuations have names, so that nothing is turned twice -/
theorem ofStr_inj {a b : String} : Str.ofString a = Str.ofString b ↔ a = b := by
  constructor
  · intro h
    rw [Str.ofString_eq_toList, Str.ofString_eq_toList, Str.mk.injEq] at h
    have h := congrArg Array.toList h
    have mi : ∀ {a b : List Char}, a.map Char.toNat = b.map Char.toNat → a = b := by
      intro a
      induction a with
      | nil => intro b h; cases b with
        | nil => rfl
        | cons => simp at h
      | cons x a ih => intro b h; cases b with
        | nil => simp at h
        | cons y b =>
          simp only [List.map_cons, List.cons.injEq] at h
          rw [Char.toNat_inj.mp h.1, ih h.2]
    exact String.toList_inj.mp (mi (by simpa using h))
  · rintro rfl; rfl
theorem r_ofStr {a b : String} : (Str.ofString a = Str.ofString b) = (a = b) := propext ofStr_inj
theorem r_ofStrB {a b : String} : (Str.ofString a == Str.ofString b) = (a == b) := by
  by_cases h : a = b
  · subst h; simp
  · rw [beq_eq_false_iff_ne.mpr h, beq_eq_false_iff_ne.mpr (fun e => h (ofStr_inj.mp e))]
section
variable {n bk ct N : Ev → Prop} {r rt : L → Ev → Prop} {t u : DS} {c tt : DT} {ta tb tc te : DE} {ra : DA} {g : DG} {gs : DGs} {f f' : Op2} {i j : Nat} {l m : L} {o : Option L} {e env : Ev} {Q : L → Ev → Prop} {De : DEnds}
/-! #### slots -/
def consN (o : Option L) (n : Ev → Prop) : Ev → Prop := fun e => n (o :: e)
theorem r_consN : consN o n e = n (o :: e) := rfl
def consK (o : Option L) (Q : L → Ev → Prop) : L → Ev → Prop := fun l e => Q l (o :: e)
theorem r_consK : consK o Q l e = Q l (o :: e) := rfl
def setK (i : Nat) (n : Ev → Prop) (l : L) (e : Ev) : Prop := n (e.set i (some l))
theorem r_set0 : setK 0 n l (o :: e) = n (some l :: e) := rfl
theorem r_setS : setK (i + 1) n l (o :: e) = setK i (consN o n) l e := rfl
def isSl (i : Nat) (e : Ev) : Prop := (slotL e i).isSome = true
theorem r_isSl0 : isSl 0 (some l :: e) = True := by simp [isSl, slotL]
theorem r_isSlS : isSl (i + 1) (o :: e) = isSl i e := by simp [isSl, slotL]
def takeK (i : Nat) (Q : L → Ev → Prop) (e : Ev) : Prop := dTake i e Q
theorem r_take0 : takeK 0 Q (some l :: e) = Q l (none :: e) := rfl
theorem r_takeS : takeK (i + 1) Q (o :: e) = takeK i (consK o Q) e := by simp [takeK, dTake, consK]
theorem r_dTake : dTake i e Q = takeK i Q e := rfl
def peekK (i : Nat) (k : L → Prop) (e : Ev) : Prop := match e[i]? with
  | some (some l) => k l
  | _ => False
theorem r_peek0 {k : L → Prop} : peekK 0 k (some l :: e) = k l := rfl
theorem r_peekS {k : L → Prop} : peekK (i + 1) k (o :: e) = peekK i k e := by simp [peekK]
theorem r_dVar0 : dVar 0 (some l :: e) Q = Q (.fr l.toD) (some (.fr l.toD) :: e) := by
  cases l with
  | fr d => simp [dVar, L.toD]
  | box s ls => simp [dVar]
theorem r_dVarS : dVar (i + 1) (o :: e) Q = dVar i e (consK o Q) := by
  unfold dVar
  simp only [List.getElem?_cons_succ, List.set_cons_succ]
  cases h : e[i]? with
  | none => rfl
  | some x => cases x with
    | none => rfl
    | some l => cases l <;> rfl
/-! #### blocks -/
def seqK (u : DS) (n : Ev → Prop) (r : L → Ev → Prop) (bk ct : Ev → Prop) : Ev → Prop := fun e => u ⟨n, r, bk, ct⟩ e
theorem r_seqK : seqK u n rt bk ct e = u ⟨n, rt, bk, ct⟩ e := rfl
theorem r_seq : dsSeq t u ⟨n, rt, bk, ct⟩ e = t ⟨seqK u n rt bk ct, rt, bk, ct⟩ e := rfl
theorem r_next : dsNext ⟨n, rt, bk, ct⟩ e = n e := rfl
def exprK (n : Ev → Prop) : L → Ev → Prop := fun _ e => n e
theorem r_exprK : exprK n l e = n e := rfl
theorem r_expr : dsExpr ta ⟨n, rt, bk, ct⟩ e = ta e (exprK n) := rfl
theorem r_ret : dsRet ta ⟨n, rt, bk, ct⟩ e = ta e rt := rfl
theorem r_retN : dsRetN ⟨n, rt, bk, ct⟩ e = rt (.fr .non) e := rfl
def ifK (t u : DS) (De : DEnds) : Bool → Ev → Prop := fun b e => if b = true then t De e else u De e
theorem r_ifK {b : Bool} : ifK t u De b e = if b = true then t De e else u De e := rfl
theorem r_if : dsIf c t u De e = c e (ifK t u De) := rfl
theorem r_dsSet : dsSet i ta ⟨n, rt, bk, ct⟩ e = ta e (setK i n) := rfl
theorem r_gName : dgName i l e n = setK i n l e := rfl
def asgK (g : DG) (n : Ev → Prop) : L → Ev → Prop := fun l e => g l e n
theorem r_asgK : asgK g n l e = g l e n := rfl
theorem r_asg : dsAsg ta g ⟨n, rt, bk, ct⟩ e = ta e (asgK g n) := rfl
theorem r_gTup {k : Nat} {ds : List D} : dgTup k gs (.fr (.tup ds)) e n = (ds.length = k ∧ gs (ds.map L.fr) e n) := by simp [dgTup, L.toD]
def gsK (gs : DGs) (ls : List L) (n : Ev → Prop) : Ev → Prop := fun e => gs ls e n
theorem r_gsK {ls : List L} : gsK gs ls n e = gs ls e n := rfl
theorem r_gsCons {ls : List L} : dgsCons g gs (l :: ls) e n = g l e (gsK gs ls n) := rfl
theorem r_gsNil : dgsNil [] e n = n e := by simp [dgsNil]
theorem r_gStar {k : Nat} {ds : List D} : dgStar k i gs (.fr (.tup ds)) e n = (k ≤ ds.length + 1 ∧ ds.length ≤ 16384 ∧ gs ((ds.take i).map L.fr ++ [.lst (((ds.drop i).take (ds.length + 1 - k)).map L.fr)] ++ ((ds.drop i).drop (ds.length + 1 - k)).map L.fr) e n) := by
  simp [dgStar, L.toD]
def putK (ls : List L) (j : Int) (l : L) (k : List L → Prop) : Prop := ∃ n, ixN ls.length j = some n ∧ k (ls.set n l)
theorem r_put0 {a : L} {ls : List L} {k : List L → Prop} : putK (a :: ls) 0 l k = k (l :: ls) := by simp [putK, ixN]
theorem r_put1 {a b : L} {ls : List L} {k : List L → Prop} : putK (a :: b :: ls) 1 l k = k (a :: l :: ls) := by
  have := ixN_1 a b ls
  simp only [putK, this]; simp
theorem r_put2 {a b c : L} {ls : List L} {k : List L → Prop} : putK (a :: b :: c :: ls) 2 l k = k (a :: b :: l :: ls) := by
  have := ixN_2 a b c ls
  simp only [putK, this]; simp
theorem r_put3 {a b c d : L} {ls : List L} {k : List L → Prop} : putK (a :: b :: c :: d :: ls) 3 l k = k (a :: b :: c :: l :: ls) := by
  have := ixN_3 a b c d ls
  simp only [putK, this]; simp
theorem r_put4 {a b c d x : L} {ls : List L} {k : List L → Prop} : putK (a :: b :: c :: d :: x :: ls) 4 l k = k (a :: b :: c :: d :: l :: ls) := by
  have := ixN_4 a b c d x ls
  simp only [putK, this]; simp
def boxK (n : Ev → Prop) (e : Ev) : List L → Prop := fun ls => n (some (.box .lst ls) :: e)
theorem r_boxK {ls : List L} : boxK n e ls = n (some (.box .lst ls) :: e) := rfl
def gixK (i : Nat) (l : L) (n : Ev → Prop) : L → Ev → Prop := fun lb e => match e[i]? with
  | some (some (.box .lst ls)) => (match lb.toD with
    | .int j => ∃ m, ixN ls.length j = some m ∧ n (e.set i (some (.box .lst (ls.set m l))))
    | _ => False)
  | _ => False
theorem r_gIx : dgIx i tb l e n = (isSl i e ∧ tb e (gixK i l n)) := rfl
theorem r_gix0 {x : Int} {ls : List L} : gixK 0 l n (.fr (.int x)) (some (.box .lst ls) :: e) = putK ls x l (boxK n e) := by simp [gixK, putK, boxK, L.toD]
theorem r_gixS : gixK (i + 1) l n m (o :: e) = gixK i l (consN o n) m e := by simp [gixK, consN]
def setK2 (j : Nat) (n : Ev → Prop) (m : L) : Ev → Prop := fun e => setK j n m e
theorem r_setK2 : setK2 j n m e = setK j n m e := rfl
def parK (i j : Nat) (n : Ev → Prop) : List (L × Option Nat) → Ev → Prop := fun xs e => match xs with
  | [(l, _), (m, _)] => n ((e.set i (some l)).set j (some m))
  | _ => False
theorem r_parK {x y : Option Nat} : parK i j n [(l, x), (m, y)] e = setK i (setK2 j n m) l e := rfl
theorem r_par : dsPar i j ra ⟨n, rt, bk, ct⟩ e = ra e (parK i j n) := rfl
def augK3 (i : Nat) (n : Ev → Prop) (e : Ev) : L → Prop := fun r => setK i n r e
theorem r_augK3 : augK3 i n e l = setK i n l e := rfl
def augK2 (i : Nat) (d : D) (f : Op2) (n : Ev → Prop) : L → Ev → Prop := fun l e => f d l.toD (augK3 i n e)
theorem r_augK2 {d : D} : augK2 i d f n l e = f d l.toD (augK3 i n e) := rfl
def augK (i : Nat) (t : DE) (f : Op2) (n : Ev → Prop) (e : Ev) : L → Prop := fun l => match l with
  | .fr d => t e (augK2 i d f n)
  | _ => False
theorem r_augK {d : D} : augK i ta f n e (.fr d) = ta e (augK2 i d f n) := rfl
theorem r_aug : dsAug i ta f ⟨n, rt, bk, ct⟩ e = peekK i (augK i ta f n e) e := by
  unfold dsAug peekK augK
  cases h : e[i]? with
  | none => rfl
  | some x => cases x with
    | none => rfl
    | some l => cases l <;> rfl
/-! #### values -/
theorem r_dC {d : D} : dC d e Q = Q (.fr d) e := rfl
def opK3 (Q : L → Ev → Prop) (e : Ev) : L → Prop := fun r => Q r e
theorem r_opK3 : opK3 Q e l = Q l e := rfl
def opK2 (f : Op2) (la : L) (Q : L → Ev → Prop) : L → Ev → Prop := fun lb e => f la.toD lb.toD (opK3 Q e)
theorem r_opK2 : opK2 f l Q m e = f l.toD m.toD (opK3 Q e) := rfl
def opK (f : Op2) (tb : DE) (Q : L → Ev → Prop) : L → Ev → Prop := fun la e => tb e (opK2 f la Q)
theorem r_opK : opK f tb Q l e = tb e (opK2 f l Q) := rfl
theorem r_op : dOp f ta tb e Q = ta e (opK f tb Q) := rfl
variable {q : Bool → Ev → Prop}
def bK (q : Bool → Ev → Prop) : L → Ev → Prop := fun l e => ∃ c, l = .fr (.bl c) ∧ q c e
theorem r_bK {b : Bool} : bK q (.fr (.bl b)) e = q b e := by simp [bK]
theorem r_dB : dB ta e q = ta e (bK q) := rfl
def chK4 (f' : Op2) (lb : L) (tc : DE) (Q : L → Ev → Prop) (e : Ev) : L → Prop := fun r => ∃ c, r = .fr (.bl c) ∧ (if c = true then tc e (opK2 f' lb Q) else Q (.fr (.bl false)) e)
theorem r_chK4 {b : Bool} : chK4 f' l tc Q e (.fr (.bl b)) = if b = true then tc e (opK2 f' l Q) else Q (.fr (.bl false)) e := by simp [chK4]
def chK2 (f f' : Op2) (la : L) (tc : DE) (Q : L → Ev → Prop) : L → Ev → Prop := fun lb e => f la.toD lb.toD (chK4 f' lb tc Q e)
theorem r_chK2 : chK2 f f' l tc Q m e = f l.toD m.toD (chK4 f' m tc Q e) := rfl
def chK1 (f f' : Op2) (tb tc : DE) (Q : L → Ev → Prop) : L → Ev → Prop := fun la e => tb e (chK2 f f' la tc Q)
theorem r_chK1 : chK1 f f' tb tc Q l e = tb e (chK2 f f' l tc Q) := rfl
theorem r_chain : dChain f f' ta tb tc e Q = ta e (chK1 f f' tb tc Q) := rfl
def andK (u : DT) (q : Bool → Ev → Prop) : Bool → Ev → Prop := fun b e => if b = true then u e q else q false e
theorem r_andK {b : Bool} {u : DT} : andK u q b e = if b = true then u e q else q false e := rfl
theorem r_and {u : DT} : dAnd c u e q = c e (andK u q) := rfl
def orK (u : DT) (q : Bool → Ev → Prop) : Bool → Ev → Prop := fun b e => if b = true then q true e else u e q
theorem r_orK {b : Bool} {u : DT} : orK u q b e = if b = true then q true e else u e q := rfl
theorem r_or {u : DT} : dOr c u e q = c e (orK u q) := rfl
def notK (q : Bool → Ev → Prop) : Bool → Ev → Prop := fun b e => q (!b) e
theorem r_notK {b : Bool} : notK q b e = q (!b) e := rfl
theorem r_not : dNot c e q = c e (notK q) := rfl
def andVK (tb : DE) (Q : L → Ev → Prop) : L → Ev → Prop := fun l e => ∃ c, l = .fr (.bl c) ∧ if c = true then tb e Q else Q (.fr (.bl false)) e
theorem r_andVK {b : Bool} : andVK tb Q (.fr (.bl b)) e = if b = true then tb e Q else Q (.fr (.bl false)) e := by simp [andVK]
theorem r_andV : dAndV ta tb e Q = ta e (andVK tb Q) := rfl
def orVK (tb : DE) (Q : L → Ev → Prop) : L → Ev → Prop := fun l e => ∃ c, l = .fr (.bl c) ∧ if c = true then Q (.fr (.bl true)) e else tb e Q
theorem r_orVK {b : Bool} : orVK tb Q (.fr (.bl b)) e = if b = true then Q (.fr (.bl true)) e else tb e Q := by simp [orVK]
theorem r_orV : dOrV ta tb e Q = ta e (orVK tb Q) := rfl
def notVK (Q : L → Ev → Prop) : L → Ev → Prop := fun l e => ∃ c, l = .fr (.bl c) ∧ Q (.fr (.bl (!c))) e
theorem r_notVK {b : Bool} : notVK Q (.fr (.bl b)) e = Q (.fr (.bl (!b))) e := by simp [notVK]
theorem r_notV : dNotV ta e Q = ta e (notVK Q) := rfl
def difK (ta tb : DE) (Q : L → Ev → Prop) : Bool → Ev → Prop := fun b e => if b = true then ta e Q else tb e Q
theorem r_difK {b : Bool} : difK ta tb Q b e = if b = true then ta e Q else tb e Q := rfl
theorem r_dIf : dIf c ta tb e Q = c e (difK ta tb Q) := rfl
def negK (Q : L → Ev → Prop) : L → Ev → Prop := fun l e => match l.toD with | .int i => Q (.fr (.int (-i))) e | _ => False
theorem r_negK {x : Int} : negK Q (.fr (.int x)) e = Q (.fr (.int (-x))) e := by simp [negK, L.toD]
theorem r_neg : dNeg ta e Q = ta e (negK Q) := rfl
/-! #### arguments -/
variable {A : List (L × Option Nat) → Ev → Prop} {xs : List (L × Option Nat)}
theorem r_aNil : daNil e A = A [] e := rfl
def acK2 (x : L × Option Nat) (A : List (L × Option Nat) → Ev → Prop) : List (L × Option Nat) → Ev → Prop := fun xs e => A (x :: xs) e
theorem r_acK2 {x : L × Option Nat} : acK2 x A xs e = A (x :: xs) e := rfl
def acK (ra : DA) (A : List (L × Option Nat) → Ev → Prop) : L → Ev → Prop := fun l e => ra e (acK2 (.fr l.toD, none) A)
theorem r_acK : acK ra A l e = ra e (acK2 (.fr l.toD, none) A) := rfl
theorem r_aCons : daCons ta ra e A = ta e (acK ra A) := rfl
def aoK (ra : DA) (A : List (L × Option Nat) → Ev → Prop) : L → Ev → Prop := fun l e => ra e (acK2 (l, none) A)
theorem r_aoK : aoK ra A l e = ra e (acK2 (l, none) A) := rfl
theorem r_aOwn : daOwn ta ra e A = ta e (aoK ra A) := rfl
def borK2 (i : Nat) (xs : List (L × Option Nat)) (A : List (L × Option Nat) → Ev → Prop) : L → Ev → Prop := fun l e => A ((l, some i) :: xs) e
theorem r_borK2 : borK2 i xs A l e = A ((l, some i) :: xs) e := rfl
def borK (i : Nat) (A : List (L × Option Nat) → Ev → Prop) : List (L × Option Nat) → Ev → Prop := fun xs e => takeK i (borK2 i xs A) e
theorem r_borK : borK i A xs e = takeK i (borK2 i xs A) e := rfl
theorem r_aBor : daBor i ra e A = (isSl i e ∧ ra e (borK i A)) := by
  unfold daBor isSl slotL
  have : (fun xs (env2 : Ev) => (match env2[i]? with | some (some l) => A ((l, some i) :: xs) (env2.set i none) | _ => False)) = borK i A := by
    funext xs env2
    unfold borK takeK dTake borK2
    rfl
  cases h : e[i]? with
  | none => simp
  | some x => cases x with
    | none => simp
    | some l => simp; exact Eq.to_iff (congrArg (ra e) this)
def lstK (Q : L → Ev → Prop) : List (L × Option Nat) → Ev → Prop := fun xs e => xs.length ≤ sizeLine ∧ Q (.box .lst (xs.map (·.1))) e
theorem r_lstK : lstK Q xs e = (xs.length ≤ sizeLine ∧ Q (.box .lst (xs.map (·.1))) e) := rfl
theorem r_lst : dLst ra e Q = ra e (lstK Q) := rfl
def tupK (Q : L → Ev → Prop) : List (L × Option Nat) → Ev → Prop := fun xs e => xs.length ≤ sizeLine ∧ Q (.fr (.tup (L.toDs (xs.map (·.1))))) e
theorem r_tupK : tupK Q xs e = (xs.length ≤ sizeLine ∧ Q (.fr (.tup (L.toDs (xs.map (·.1))))) e) := rfl
theorem r_tup : dTup ra e Q = ra e (tupK Q) := rfl
def retK (ms : List (Option Nat)) (e : Ev) (Q : L → Ev → Prop) : L → List L → Prop := fun r ls => Q r (restore e ms ls)
theorem r_retK {ms : List (Option Nat)} {ls : List L} : retK ms e Q l ls = Q l (restore e ms ls) := rfl
def callK (C : Con) (dds : List D) (Q : L → Ev → Prop) : List (L × Option Nat) → Ev → Prop := fun xs e => C (xs.map (·.1) ++ dds.map L.fr) (retK (xs.map (·.2)) e Q) kF
theorem r_callK {C : Con} {dds : List D} : callK C dds Q xs e = C (xs.map (·.1) ++ dds.map L.fr) (retK (xs.map (·.2)) e Q) kF := rfl
theorem r_call {C : Con} {dds : List D} : dCall C dds ra e Q = ra e (callK C dds Q) := rfl
theorem r_res0 : restore e [] [] = e := rfl
theorem r_resN {ms : List (Option Nat)} {ls : List L} : restore e (none :: ms) (l :: ls) = restore e ms ls := rfl
theorem r_resS {ms : List (Option Nat)} {ls : List L} : restore e (some i :: ms) (l :: ls) = restore (e.set i (some l)) ms ls := rfl
def tmpK (e0 : Ev) (Q : L → Ev → Prop) : L → Ev → Prop := fun l _ => ∃ d, l = .fr d ∧ d.scalar = true ∧ Q l e0
theorem r_tmpK {d : D} {e0 : Ev} : tmpK e0 Q (.fr d) e = (d.scalar = true ∧ Q (.fr d) e0) := by simp [tmpK]
theorem r_tmp : dTmp ta e Q = ta (frzE e) (tmpK e Q) := rfl
theorem r_frzN : frzE [] = [] := rfl
theorem r_frz0 : frzE (none :: e) = none :: frzE e := rfl
theorem r_frz1 : frzE (some l :: e) = some (.fr l.toD) :: frzE e := rfl
/-! #### places -/
def atK (ds : List D) (j : Int) (k : D → Prop) : Prop := ∃ d, atI ds j = some d ∧ k d
variable {k : D → Prop} {ds : List D} {a b d x : D}
theorem r_at0 : atK (a :: ds) 0 k = k a := by simp [atK, atI_0]
theorem r_at1 : atK (a :: b :: ds) 1 k = k b := by simp [atK, atI_1]
theorem r_at2 : atK (a :: b :: d :: ds) 2 k = k d := by simp [atK, atI_2]
theorem r_at3 {y : D} : atK (a :: b :: d :: x :: ds) 3 k = k x := by simp [atK, atI_3]
def frK (k : L → Prop) : D → Prop := fun d => k (.fr d)
theorem r_frK {k : L → Prop} : frK k d = k (.fr d) := rfl
def atF (ls : List L) (j : Int) (k : L → Prop) : Prop := ∃ d, atI ls j = some (.fr d) ∧ k (.fr d)
theorem r_atF0 {k : L → Prop} {ls : List L} : atF (.fr a :: ls) 0 k = k (.fr a) := by simp [atF, atI_0]
theorem r_atF1 {k : L → Prop} {ls : List L} {l0 : L} : atF (l0 :: .fr a :: ls) 1 k = k (.fr a) := by simp [atF, atI_1]
theorem r_atF2 {k : L → Prop} {ls : List L} {l0 l1 : L} : atF (l0 :: l1 :: .fr a :: ls) 2 k = k (.fr a) := by simp [atF, atI_2]
theorem r_atF3 {k : L → Prop} {ls : List L} {l0 l1 l2 : L} : atF (l0 :: l1 :: l2 :: .fr a :: ls) 3 k = k (.fr a) := by simp [atF, atI_3]
theorem r_atF4 {k : L → Prop} {ls : List L} {l0 l1 l2 l3 : L} : atF (l0 :: l1 :: l2 :: l3 :: .fr a :: ls) 4 k = k (.fr a) := by simp [atF, atI_4]
theorem r_ixTup {y : Int} {k : L → Prop} : opIx (.tup ds) (.int y) k = atK ds y (frK k) := rfl
theorem r_ixRo {y : Int} {k : L → Prop} : opIx (.ro ds) (.int y) k = atK ds y (frK k) := rfl
theorem r_ixLst {y : Int} {k : L → Prop} : opIx (.box .lst ds) (.int y) k = atK ds y (frK k) := rfl
theorem r_ixStr {y : Int} {z : Str} {k : L → Prop} : opIx (.str z) (.int y) k = (z.length ≤ sizeLine ∧ ∃ c, atI z.cps.toList y = some c ∧ k (.fr (.str ⟨#[c]⟩))) := rfl
def ixvK2 (lb : L) (Q : L → Ev → Prop) (e : Ev) : L → Prop := fun l => match l with
  | .fr a => opIx a lb.toD (opK3 Q e)
  | .box .lst ls => (match lb.toD with
    | .int j => ∃ d, atI ls j = some (.fr d) ∧ Q (.fr d) e
    | _ => False)
  | _ => False
theorem r_ixvF : ixvK2 l Q e (.fr a) = opIx a l.toD (opK3 Q e) := rfl
theorem r_ixvB {y : Int} {ls : List L} : ixvK2 (.fr (.int y)) Q e (.box .lst ls) = atF ls y (opK3 Q e) := by simp [ixvK2, L.toD, atF, opK3]
def ixvK (i : Nat) (Q : L → Ev → Prop) : L → Ev → Prop := fun lb e => peekK i (ixvK2 lb Q e) e
theorem r_ixvK : ixvK i Q l e = peekK i (ixvK2 l Q e) e := rfl
theorem r_ixV : dIxV i tb e Q = (isSl i e ∧ tb e (ixvK i Q)) := by
  unfold dIxV isSl
  refine congrArg _ (congrArg _ ?_)
  funext lb env1
  unfold ixvK peekK ixvK2 opK3
  cases h : env1[i]? with
  | none => rfl
  | some x => cases x with
    | none => rfl
    | some l => cases l with
      | fr d => rfl
      | box s ls => cases s <;> rfl
/-! #### methods -/
def isBx (i : Nat) (e : Ev) : Prop := ∃ ls, slotL e i = some (.box .lst ls)
theorem r_isBx0 {ls : List L} : isBx 0 (some (.box .lst ls) :: e) = True := by simp [isBx, slotL]
theorem r_isBxS : isBx (i + 1) (o :: e) = isBx i e := by simp [isBx, slotL]
def mtK3 (i : Nat) (e : Ev) (Q : L → Ev → Prop) : L → L → Prop := fun r l' => Q r (e.set i (some l'))
theorem r_mtK3 : mtK3 i e Q l m = Q l (e.set i (some m)) := rfl
def mtK2 (F : Mt) (i : Nat) (xs : List (L × Option Nat)) (Q : L → Ev → Prop) (e : Ev) : L → Prop := fun l => F l (xs.map (·.1)) (mtK3 i e Q)
theorem r_mtK2 {F : Mt} : mtK2 F i xs Q e l = F l (xs.map (·.1)) (mtK3 i e Q) := rfl
def mtK (F : Mt) (i : Nat) (Q : L → Ev → Prop) : List (L × Option Nat) → Ev → Prop := fun xs e => peekK i (mtK2 F i xs Q e) e
theorem r_mtK {F : Mt} : mtK F i Q xs e = peekK i (mtK2 F i xs Q e) e := rfl
theorem r_mt {F : Mt} : dMt F i ra e Q = (isBx i e ∧ ra e (mtK F i Q)) := by
  unfold dMt isBx
  refine congrArg _ (congrArg _ ?_)
  funext xs env1
  unfold mtK peekK mtK2 mtK3 slotL
  cases h : env1[i]? with
  | none => simp
  | some x => cases x with
    | none => simp
    | some l => simp
theorem r_append {ls : List L} {k : L → L → Prop} : mAppend (.box .lst ls) [l] k = (ls.length < sizeLine ∧ k (.fr .non) (.box .lst (ls ++ [l]))) := rfl
theorem r_reverse {ls : List L} {k : L → L → Prop} : mReverse (.box .lst ls) [] k = k (.fr .non) (.box .lst ls.reverse) := rfl
theorem r_pop {ls : List L} {k : L → L → Prop} : mPop (.box .lst ls) [] k = ∃ y, ls[ls.length - 1]? = some y ∧ k y (.box .lst ls.dropLast) := rfl
/-! #### slices, walks -/
variable {O : Option Int → Ev → Prop} {tl th : DO} {lo hi : Option Int} {W : List D → Ev → Prop}
def slK3 (l : L) (lo : Option Int) (Q : L → Ev → Prop) : Option Int → Ev → Prop := fun hi e => slD l.toD lo hi (opK3 Q e)
theorem r_slK3 : slK3 l lo Q hi e = slD l.toD lo hi (opK3 Q e) := rfl
def slK2 (l : L) (th : DO) (Q : L → Ev → Prop) : Option Int → Ev → Prop := fun lo e => th e (slK3 l lo Q)
theorem r_slK2 : slK2 l th Q lo e = th e (slK3 l lo Q) := rfl
def slK (tl th : DO) (Q : L → Ev → Prop) : L → Ev → Prop := fun l e => tl e (slK2 l th Q)
theorem r_slK : slK tl th Q l e = tl e (slK2 l th Q) := rfl
theorem r_sl : dSl ta tl th e Q = ta e (slK tl th Q) := rfl
theorem r_oNone : doNone e O = O none e := rfl
def osK (O : Option Int → Ev → Prop) : L → Ev → Prop := fun l e => match l.toD with | .int i => O (some i) e | _ => False
theorem r_osK {y : Int} : osK O (.fr (.int y)) e = O (some y) e := by simp [osK, L.toD]
theorem r_oSome : doSome ta e O = ta e (osK O) := rfl
theorem r_slLst {k : L → Prop} : slD (.box .lst ds) lo hi k = k (.box .lst ((TL.cutD ds lo hi).map L.fr)) := rfl
theorem r_slRo {k : L → Prop} : slD (.ro ds) lo hi k = k (.box .lst ((TL.cutD ds lo hi).map L.fr)) := rfl
theorem r_slTup {k : L → Prop} : slD (.tup ds) lo hi k = k (.fr (.tup (TL.cutD ds lo hi))) := rfl
theorem r_slStr {k : L → Prop} {z : Str} : slD (.str z) lo hi k = (z.length ≤ sizeLine ∧ k (.fr (.str (cutS z lo hi)))) := rfl
def sqK2 (W : List D → Ev → Prop) (e : Ev) : D → Prop := fun d => match d with | .box .lst ds => W ds e | _ => False
theorem r_sqK2 : sqK2 W e (.box .lst ds) = W ds e := rfl
def sqK (W : List D → Ev → Prop) : L → Ev → Prop := fun l e => sqK2 W e l.toD
theorem r_sqK : sqK W l e = sqK2 W e l.toD := rfl
theorem r_iSeq : diSeq ta e W = ta e (sqK W) := rfl
def tqK2 (W : List D → Ev → Prop) (e : Ev) : D → Prop := fun d => match d with | .tup ds => W ds e | _ => False
theorem r_tqK2 : tqK2 W e (.tup ds) = W ds e := rfl
def tqK (W : List D → Ev → Prop) : L → Ev → Prop := fun l e => tqK2 W e l.toD
theorem r_tqK : tqK W l e = tqK2 W e l.toD := rfl
theorem r_iTup : diTup ta e W = ta e (tqK W) := rfl
def rg1K (W : List D → Ev → Prop) : List (L × Option Nat) → Ev → Prop := fun xs e => match xs with
  | [(.fr (.int j), _)] => (-(2 ^ 62) ≤ j ∧ j < 2 ^ 62) ∧ W (rngD 0 j.toNat) e
  | _ => False
theorem r_rg1K {y : Int} {p : Option Nat} : rg1K W [(.fr (.int y), p)] e = ((-(2 ^ 62) ≤ y ∧ y < 2 ^ 62) ∧ W (rngD 0 y.toNat) e) := rfl
theorem r_iRange1 : diRange1 ra e W = ra e (rg1K W) := rfl
def rg2K (W : List D → Ev → Prop) : List (L × Option Nat) → Ev → Prop := fun xs e => match xs with
  | [(.fr (.int i), _), (.fr (.int j), _)] => (-(2 ^ 62) ≤ i ∧ i < 2 ^ 62 ∧ -(2 ^ 62) ≤ j ∧ j < 2 ^ 62) ∧ W (rngD i (j - i).toNat) e
  | _ => False
theorem r_rg2K {y z : Int} {p p' : Option Nat} : rg2K W [(.fr (.int y), p), (.fr (.int z), p')] e = ((-(2 ^ 62) ≤ y ∧ y < 2 ^ 62 ∧ -(2 ^ 62) ≤ z ∧ z < 2 ^ 62) ∧ W (rngD y (z - y).toNat) e) := rfl
theorem r_iRange2 : diRange2 ra e W = ra e (rg2K W) := rfl
def forK (g : DG) (t : DS) (De : DEnds) : List D → Ev → Prop := fun ds e => forD g t De ds e
theorem r_forK : forK g t De ds e = forD g t De ds e := rfl
theorem r_for {ti : DI} : dsFor ti g t De e = ti e (forK g t De) := rfl
def bodyK (t : DS) (N : Ev → Prop) (r : L → Ev → Prop) (bk : Ev → Prop) : Ev → Prop := fun e => t ⟨N, r, bk, N⟩ e
theorem r_bodyK : bodyK t N rt bk e = t ⟨N, rt, bk, N⟩ e := rfl
def cpEnd (Q : L → Ev → Prop) : List L → Ev → Prop := fun acc e => Q (.box .lst acc) e
theorem r_cpEnd {acc : List L} : cpEnd Q acc e = Q (.box .lst acc) e := rfl
variable {own : List Nat} {M : List L → Ev → Prop} {acc : List L}
def cpK (own : List Nat) (g : DG) (tt : DT) (te : DE) (Q : L → Ev → Prop) : List D → Ev → Prop := fun ds e => compD own g tt te (cpEnd Q) ds [] (wipeE e own)
theorem r_cpK : cpK own g tt te Q ds e = compD own g tt te (cpEnd Q) ds [] (wipeE e own) := rfl
theorem r_comp {ti : DI} : dComp ti own g tt te e Q = ti e (cpK own g tt te Q) := rfl
theorem r_wipe0 : wipeE e [] = e := rfl
theorem r_wipeS {v : Nat} : wipeE e (v :: own) = (wipeE e own).set v none := rfl
theorem r_yes : dtYes e q = q true e := rfl
def cmK3 (own : List Nat) (acc : List L) (M : List L → Ev → Prop) : L → Ev → Prop := fun l e => acc.length < sizeLine ∧ M (acc ++ [l]) (wipeE e own)
theorem r_cmK3 : cmK3 own acc M l e = (acc.length < sizeLine ∧ M (acc ++ [l]) (wipeE e own)) := rfl
def cmK2 (te : DE) (own : List Nat) (acc : List L) (M : List L → Ev → Prop) : Bool → Ev → Prop := fun b e => if b = true then te e (cmK3 own acc M) else M acc (wipeE e own)
theorem r_cmK2 {b : Bool} : cmK2 te own acc M b e = if b = true then te e (cmK3 own acc M) else M acc (wipeE e own) := rfl
def cmK (tt : DT) (te : DE) (own : List Nat) (acc : List L) (M : List L → Ev → Prop) : Ev → Prop := fun e => tt e (cmK2 te own acc M)
theorem r_cmK : cmK tt te own acc M e = tt e (cmK2 te own acc M) := rfl
def cmN (own : List Nat) (g : DG) (tt : DT) (te : DE) (M : List L → Ev → Prop) (ds : List D) : List L → Ev → Prop := fun acc e => compD own g tt te M ds acc e
theorem r_cmN : cmN own g tt te M ds acc e = compD own g tt te M ds acc e := rfl
theorem r_compC : compD own g tt te M (d :: ds) acc e = g (.fr d) e (cmK tt te own acc (cmN own g tt te M ds)) := rfl
theorem r_compN : compD own g tt te M [] acc e = M acc e := rfl
theorem rng2 : rngD 0 2 = [.int 0, .int 1] := rfl
theorem rng3 : rngD 0 3 = [.int 0, .int 1, .int 2] := rfl
theorem rng4 : rngD 0 4 = [.int 0, .int 1, .int 2, .int 3] := rfl
/-! #### a def's ends -/
variable {bs : List Nat} {ls : List L} {kk : L → List L → Prop}
def endN (bs : List Nat) (ls : List L) (k : L → List L → Prop) : Ev → Prop := fun env => OutOk bs env ∧ k (.fr .non) (outs bs env 0 ls)
theorem r_endN : endN bs ls kk e = (OutOk bs e ∧ kk (.fr .non) (outs bs e 0 ls)) := rfl
def endR (bs : List Nat) (ls : List L) (k : L → List L → Prop) : L → Ev → Prop := fun r env => OutOk bs env ∧ k r (outs bs env 0 ls)
theorem r_endR : endR bs ls kk l e = (OutOk bs e ∧ kk l (outs bs e 0 ls)) := rfl
def noK : Ev → Prop := fun _ => False
theorem r_ends : endsOf bs ls kk = ⟨endN bs ls kk, endR bs ls kk, noK, noK⟩ := rfl
theorem r_outOk0 : OutOk [] e = True := rfl
theorem r_outOkS {v : Nat} : OutOk (v :: bs) e = (isSl v e ∧ OutOk bs e) := rfl
/-! #### operators -/
section
variable {k : L → Prop} {y z : Int} {v w : Str} {p p' : Bool} {xs ys : List D}
theorem r_addI : opAdd (.int y) (.int z) k = k (.fr (.int (y + z))) := rfl
theorem r_addS : opAdd (.str v) (.str w) k = (v.length + w.length ≤ sizeLine ∧ k (.fr (.str (v ++ w)))) := rfl
theorem r_addL : opAdd (.box .lst xs) (.box .lst ys) k = (xs.length + ys.length ≤ sizeLine ∧ k (.box .lst ((xs ++ ys).map L.fr))) := rfl
theorem r_addT : opAdd (.tup xs) (.tup ys) k = (xs.length + ys.length ≤ sizeLine ∧ k (.fr (.tup (xs ++ ys)))) := rfl
theorem r_iaddI : opAddI (.int y) (.int z) k = k (.fr (.int (y + z))) := rfl
theorem r_iaddS : opAddI (.str v) (.str w) k = (v.length + w.length ≤ sizeLine ∧ k (.fr (.str (v ++ w)))) := rfl
theorem r_sub : opSub (.int y) (.int z) k = k (.fr (.int (y - z))) := rfl
theorem r_mulI : opMul (.int y) (.int z) k = (IntMulOk y z ∧ k (.fr (.int (y * z)))) := rfl
theorem r_mod : opMod (.int y) (.int z) k = (z ≠ 0 ∧ k (.fr (.int (y.fmod z)))) := rfl
theorem r_fdiv : opFdiv (.int y) (.int z) k = (DivOk z ∧ k (.fr (.int (y.fdiv z)))) := rfl
theorem r_pow : opPow (.int y) (.int z) k = ((0 ≤ z ∧ z ≤ 1000000 ∧ y.natAbs < 2 ^ 64) ∧ k (.fr (.int (y ^ z.toNat)))) := rfl
theorem r_cmpI {F : Int → Int → Bool} : cmpI F (.int y) (.int z) k = k (.fr (.bl (F y z))) := rfl
theorem r_eqI : opEq (.int y) (.int z) k = k (.fr (.bl (decide (y = z)))) := rfl
theorem r_eqS : opEq (.str v) (.str w) k = k (.fr (.bl (decide (v = w)))) := rfl
theorem r_eqB : opEq (.bl p) (.bl p') k = k (.fr (.bl (decide (p = p')))) := rfl
theorem r_eqT : opEq (.tup xs) a k = (Cmp2 (.tup xs) a ∧ k (.fr (.bl (PyData.eqv (D.tup xs).py a.py)))) := by unfold opEq; rfl
theorem r_eqL : opEq (.box .lst xs) a k = (Cmp2 (.box .lst xs) a ∧ k (.fr (.bl (PyData.eqv (D.box .lst xs).py a.py)))) := by unfold opEq; rfl
theorem r_neI : opNe (.int y) (.int z) k = k (.fr (.bl (!decide (y = z)))) := rfl
theorem r_neS : opNe (.str v) (.str w) k = k (.fr (.bl (!decide (v = w)))) := rfl
theorem r_neB : opNe (.bl p) (.bl p') k = k (.fr (.bl (!decide (p = p')))) := rfl
theorem r_neT : opNe (.tup xs) a k = (Cmp2 (.tup xs) a ∧ k (.fr (.bl (!PyData.eqv (D.tup xs).py a.py)))) := by unfold opNe; rfl
theorem r_neL : opNe (.box .lst xs) a k = (Cmp2 (.box .lst xs) a ∧ k (.fr (.bl (!PyData.eqv (D.box .lst xs).py a.py)))) := by unfold opNe; rfl
theorem r_isN : opIsN a .non k = k (.fr (.bl a.isNon)) := rfl
theorem r_notN : opNotN a .non k = k (.fr (.bl (!a.isNon))) := rfl
theorem r_inT : opIn a (.tup xs) k = (a.flat = true ∧ xs.all D.flat = true ∧ k (.fr (.bl (xs.any fun d => d.feq a)))) := rfl
theorem r_inR : opIn a (.ro xs) k = (a.flat = true ∧ xs.all D.flat = true ∧ k (.fr (.bl (xs.any fun d => d.feq a)))) := rfl
theorem r_inL : opIn a (.box .lst xs) k = (a.flat = true ∧ xs.all D.flat = true ∧ k (.fr (.bl (xs.any fun d => d.feq a)))) := rfl
theorem r_inS : opIn (.str v) (.str w) k = k (.fr (.bl (!(Builtin.Str.occurrences w v 0 w.length 1).isEmpty))) := rfl
theorem r_notIn : opNotIn a d k = opIn a d (fun r => match r with | .fr (.bl c) => k (.fr (.bl (!c))) | _ => False) := rfl
end
/-! #### built-ins -/
section
variable {K : L → List L → Prop} {kx : DX → List L → Prop} {F : D → (L → Prop) → Prop} {F2 : D → D → (L → Prop) → Prop} {k : L → Prop}
def c1K (K : L → List L → Prop) (ls : List L) : L → Prop := fun r => K r ls
theorem r_c1K : c1K K ls l = K l ls := rfl
theorem r_con1 : con1 F [l] K kx = F l.toD (c1K K [l]) := rfl
theorem r_con2 : con2 F2 [l, m] K kx = F2 l.toD m.toD (c1K K [l, m]) := rfl
theorem r_con1F : con1F F [.fr d] K kx = F d (c1K K [.fr d]) := rfl
theorem r_lenL : fLen (.box .lst ds) k = k (.fr (.int ds.length)) := rfl
theorem r_lenT : fLen (.tup ds) k = k (.fr (.int ds.length)) := rfl
theorem r_lenR : fLen (.ro ds) k = k (.fr (.int ds.length)) := rfl
theorem r_lenS {z : Str} : fLen (.str z) k = (z.length ≤ sizeLine ∧ k (.fr (.int z.length))) := rfl
theorem r_isi1 {s : String} : fIsi d (.ty s) k = (knownTy s = true ∧ ∃ t, d.tyn = some t ∧ k (.fr (.bl (isB t s)))) := rfl
theorem r_isi2 {s s' : String} : fIsi d (.tup [.ty s, .ty s']) k = ((knownTy s = true ∧ knownTy s' = true) ∧ ∃ t, d.tyn = some t ∧ k (.fr (.bl (isB t s || isB t s')))) := rfl
theorem r_listL : fList (.box .lst ds) k = k (.box .lst (ds.map L.fr)) := rfl
theorem r_listR : fList (.ro ds) k = k (.box .lst (ds.map L.fr)) := rfl
theorem r_listT : fList (.tup ds) k = k (.box .lst (ds.map L.fr)) := rfl
theorem r_tupleT : fTuple (.tup ds) k = k (.fr (.tup ds)) := rfl
theorem r_tupleL : fTuple (.box .lst ds) k = k (.fr (.tup ds)) := rfl
theorem r_intI {y : Int} : fInt (.int y) k = k (.fr (.int y)) := rfl
theorem r_intB {p : Bool} : fInt (.bl p) k = k (.fr (.int (if p then 1 else 0))) := rfl
theorem r_absI {y : Int} : fAbs (.int y) k = k (.fr (.int (if y < 0 then -y else y))) := rfl
theorem r_bools {G : List Bool → Bool} : fBools G (.box .lst ds) k = ∃ bs, dBools ds = some bs ∧ k (.fr (.bl (G bs))) := rfl
theorem r_ints {G : List Int → Int} {cc : List Int → Prop} : fInts G cc (.box .lst ds) k = ∃ ns, dInts ds = some ns ∧ cc ns ∧ k (.fr (.int (G ns))) := rfl
end
theorem r_toD : L.toD (.fr d) = d := by simp [L.toD]
theorem r_toDb {s : Shape} : L.toD (.box s ls) = .box s (L.toDs ls) := by simp [L.toD]
theorem r_toDsN : L.toDs [] = [] := by simp [L.toDs]
theorem r_toDsC : L.toDs (l :: ls) = l.toD :: L.toDs ls := by simp [L.toDs]
theorem r_toDsF : L.toDs (ds.map L.fr) = ds := toDs_fr ds
theorem atK_of {y : Int} (h0 : 0 ≤ y) (h1 : y < ds.length) (h : ∀ d ∈ ds, k d) : atK ds y k := by
  obtain ⟨d, e, hd, _⟩ := atI_of h0 h1
  exact ⟨d, e, h d hd⟩
theorem atK_get {y : Int} {d : D} (h : ds[y.toNat]? = some d) (h0 : 0 ≤ y) (hk : k d) : atK ds y k := by
  have hy : (y.toNat : Int) = y := Int.toNat_of_nonneg h0
  refine ⟨d, ?_, hk⟩
  rw [← hy]
  exact atI_nat h
theorem atK_ints {xs : List Int} {y : Int} (h0 : 0 ≤ y) (h1 : y < xs.length) (h : ∀ x, k (.int x)) : atK (xs.map D.int) y k :=
  atK_of h0 (by simpa using h1) fun d hd => by
    obtain ⟨x, _, rfl⟩ := List.mem_map.mp hd
    exact h x
/-! ### loops -/
theorem forD_ix' {I : Nat → Ev → Prop} (h0 : I 0 env)
    (hs : ∀ (i : Nat) (d : D) (env : Ev), ds[i]? = some d → I i env → ∀ N : Ev → Prop, (∀ e, I (i + 1) e → N e) → g (.fr d) env (bodyK t N rt n))
    (he : ∀ e, I ds.length e → n e) : forD g t ⟨n, rt, bk, ct⟩ ds env := forD_ix I h0 hs he
theorem compD_ix' {I : Nat → List L → Ev → Prop} (h0 : I 0 [] env)
    (hs : ∀ (i : Nat) (d : D) (acc : List L) (env : Ev), ds[i]? = some d → I i acc env → ∀ M : List L → Ev → Prop, (∀ a e, I (i + 1) a e → M a e) → g (.fr d) env (cmK tt te own acc M))
    (he : ∀ a e, I ds.length a e → M a e) : compD own g tt te M ds [] env := compD_ix I h0 hs he
end
end TL

namespace K48
open PySem PySem.Spec PyProof.Rows L2 TL
/- compiled: 0 tree 1 word 2 things 3 last -/
def t_compiled (c_compiled : Con) : DS := (dsSeq (dsAsg (dVar 0) (dgStar 2 1 (dgsCons (dgName 1) (dgsCons (dgName 2) dgsNil))))
  (dsSeq (dsIf (dB (dOp opEq (dVar 1) (dC (.str (Str.ofString "power")))))
  (dsRet (dOp opAdd (dCall c_compiled [] (daCons (dIxV 2 (dC (.int 0))) daNil)) (dLst (daCons (dTup (daCons (dC (.str (Str.ofString "power"))) (daCons (dIxV 2 (dC (.int 1))) daNil))) daNil))))
  dsNext)
  (dsSeq (dsIf (dB (dOp opIn (dVar 1) (dTup (daCons (dC (.str (Str.ofString "product"))) (daCons (dC (.str (Str.ofString "conjugate"))) daNil)))))
  (dsSeq (dsSet 3 (dIf (dB (dOp opEq (dVar 1) (dC (.str (Str.ofString "product"))))) (dC (.str (Str.ofString "compose"))) (dVar 1)))
  (dsRet (dOp opAdd (dOp opAdd (dCall c_compiled [] (daCons (dIxV 2 (dC (.int 0))) daNil)) (dCall c_compiled [] (daCons (dIxV 2 (dC (.int 1))) daNil))) (dLst (daCons (dTup (daCons (dVar 3) daNil)) daNil)))))
  dsNext)
  (dsRet (dIf (dB (dOp opEq (dVar 1) (dC (.str (Str.ofString "name"))))) (dLst (daCons (dTup (daCons (dC (.str (Str.ofString "load"))) (daCons (dIxV 2 (dC (.int 0))) daNil))) daNil)) (dLst (daCons (dVar 0) daNil)))))))

/- law_bag: 0 _law_script 1 _law_mix 2 _law_cell -/
def t_law_bag_b1  : DS := (dsSet 1 (dOp opMod (dOp opAdd (dOp opAdd (dOp opMul (dVar 1) (dC (.int 48271))) (dOp opMod (dVar 2) (dC (.int 2147483629)))) (dC (.int 17))) (dC (.int 2147483629))))
def t_law_bag  : DS := (dsSeq (dsSet 1 (dC (.int 9478)))
  (dsSeq (dsFor (diSeq (dSl (dVar 0) doNone (doSome (dC (.int 63))))) (dgName 2)
  (t_law_bag_b1 ))
  (dsRet (dLst (daCons (dCall cList [] (daCons (dSl (dVar 0) doNone (doSome (dC (.int 63)))) daNil)) (daCons (dC (.int 0)) (daCons (dC (.int 0)) (daCons (dVar 1) (daCons (dC (.int 0)) daNil)))))))))

/- law_pull: 0 _law_bag_here 1 _law_size 2 _law_cell 3 _law_mix 4 _law_found -/
def t_law_pull_s1  : DS := (dsIf (dAnd (dB (dOp opEq (dIxV 0 (dC (.int 2))) (dC (.int 0)))) (dB (dOp opLt (dIxV 0 (dC (.int 1))) (dCall cLen [] (daCons (dIxV 0 (dC (.int 0))) daNil)))))
  (dsSeq (dsSet 2 (dOp opIx (dIxV 0 (dC (.int 0))) (dIxV 0 (dC (.int 1)))))
  (dsSeq (dsAsg (dOp opAdd (dIxV 0 (dC (.int 1))) (dC (.int 1))) (dgIx 0 (dC (.int 1))))
  (dsIf (dB (dOp opGe (dVar 2) (dOp opPow (dC (.int 10)) (dC (.int 18)))))
  (dsAsg (dVar 2) (dgIx 0 (dC (.int 2))))
  (dsSeq (dsSet 3 (dOp opAdd (dOp opMul (dIxV 0 (dC (.int 3))) (dC (.int 69621))) (dOp opMul (dOp opMod (dVar 2) (dC (.int 2147483629))) (dC (.int 40503)))))
  (dsAsg (dOp opMod (dOp opAdd (dVar 3) (dC (.int 7))) (dC (.int 2147483629))) (dgIx 0 (dC (.int 3))))))))
  dsNext)
def t_law_pull  : DS := (dsSeq (dsAsg (dOp opAdd (dIxV 0 (dC (.int 4))) (dC (.int 1))) (dgIx 0 (dC (.int 4))))
  (dsSeq (t_law_pull_s1 )
  (dsSeq (dsIf (dB (dOp opGt (dIxV 0 (dC (.int 2))) (dC (.int 0))))
  (dsSeq (dsSet 4 (dOp opMod (dIxV 0 (dC (.int 2))) (dVar 1)))
  (dsSeq (dsAsg (dOp opFdiv (dIxV 0 (dC (.int 2))) (dVar 1)) (dgIx 0 (dC (.int 2))))
  (dsRet (dTake 4))))
  dsNext)
  (dsSeq (dsSet 3 (dOp opAdd (dOp opMul (dOp opMul (dIxV 0 (dC (.int 3))) (dIxV 0 (dC (.int 3)))) (dC (.int 3))) (dOp opMul (dIxV 0 (dC (.int 3))) (dC (.int 16807)))))
  (dsSeq (dsAsg (dOp opMod (dOp opAdd (dVar 3) (dOp opMul (dC (.int 1013904223)) (dIxV 0 (dC (.int 4))))) (dC (.int 2147483629))) (dgIx 0 (dC (.int 3))))
  (dsRet (dOp opMod (dOp opFdiv (dIxV 0 (dC (.int 3))) (dC (.int 31))) (dVar 1))))))))

/- law_of: 0 _law_bag_here 1 _law_some -/
def t_law_of (c_law_pull : Con) : DS := (dsRet (dIxV 1 (dCall c_law_pull [] (daBor 0 (daCons (dCall cLen [] (daBor 1 daNil)) daNil)))))

/- law_like: 0 _law_found 1 _law_due 2 _law_kinds 3 _law_one 4 _law_k -/
def t_law_like (c_law_like : Con) : DS := (dsSeq (dsIf (dB (dCall cIsi [] (daBor 1 (daCons (dTup (daCons (dC (.ty "list")) (daCons (dC (.ty "tuple")) daNil))) daNil))))
  (dsSeq (dsSet 2 (dComp (diTup (dTup (daCons (dVar 0) (daCons (dVar 1) daNil)))) [3] (dgName 3) dtYes (dTup (daCons (dCall cIsi [] (daBor 3 (daCons (dC (.ty "list")) daNil))) (daCons (dCall cIsi [] (daBor 3 (daCons (dC (.ty "tuple")) daNil))) daNil)))))
  (dsSeq (dsIf (dOr (dB (dOp opNe (dIxV 2 (dC (.int 0))) (dIxV 2 (dC (.int 1))))) (dB (dOp opNe (dCall cLen [] (daBor 0 daNil)) (dCall cLen [] (daBor 1 daNil)))))
  (dsRet (dC (.bl false)))
  dsNext)
  (dsRet (dCall cAll [] (daCons (dComp (diRange1 (daCons (dCall cLen [] (daBor 1 daNil)) daNil)) [4] (dgName 4) dtYes (dTmp (dCall c_law_like [] (daCons (dIxV 0 (dVar 4)) (daCons (dIxV 1 (dVar 4)) daNil))))) daNil)))))
  dsNext)
  (dsSeq (dsIf (dOr (dB (dOp opIsN (dVar 1) (dC .non))) (dB (dOp opIsN (dVar 0) (dC .non))))
  (dsRet (dAndV (dOp opIsN (dVar 1) (dC .non)) (dOp opIsN (dVar 0) (dC .non))))
  dsNext)
  (dsSeq (dsIf (dOr (dB (dCall cIsi [] (daBor 1 (daCons (dC (.ty "bool")) daNil)))) (dB (dCall cIsi [] (daBor 0 (daCons (dC (.ty "bool")) daNil)))))
  (dsRet (dAndV (dCall cIsi [] (daBor 1 (daCons (dC (.ty "bool")) daNil))) (dAndV (dCall cIsi [] (daBor 0 (daCons (dC (.ty "bool")) daNil))) (dOp opEq (dVar 0) (dVar 1)))))
  dsNext)
  (dsSeq (dsIf (dOr (dB (dOp opNe (dCall cIsi [] (daBor 0 (daCons (dC (.ty "int")) daNil))) (dCall cIsi [] (daBor 1 (daCons (dC (.ty "int")) daNil))))) (dB (dOp opNe (dCall cIsi [] (daBor 0 (daCons (dC (.ty "str")) daNil))) (dCall cIsi [] (daBor 1 (daCons (dC (.ty "str")) daNil))))))
  (dsRet (dC (.bl false)))
  dsNext)
  (dsRet (dOp opEq (dVar 0) (dVar 1)))))))

/- law_move: 0 _law_bag_here 1 _law_wide 2 _law_source 3 _law_ends 4 _law_k -/
def t_law_move (c_law_pull : Con) : DS := (dsSeq (dsIf (dAnd (dB (dOp opGt (dVar 1) (dC (.int 1)))) (dB (dOp opEq (dCall c_law_pull [] (daBor 0 (daCons (dC (.int 2)) daNil))) (dC (.int 0)))))
  (dsSeq (dsSet 2 (dCall c_law_pull [] (daBor 0 (daCons (dVar 1) daNil))))
  (dsRet (dTup (daCons (dC (.str (Str.ofString "lead"))) (daCons (dVar 2) (daCons (dOp opMod (dOp opAdd (dOp opAdd (dVar 2) (dC (.int 1))) (dCall c_law_pull [] (daBor 0 (daCons (dOp opSub (dVar 1) (dC (.int 1))) daNil)))) (dVar 1)) daNil))))))
  dsNext)
  (dsSeq (dsSet 3 (dComp (diRange1 (daCons (dC (.int 2)) daNil)) [4] (dgName 4) dtYes (dTup (daCons (dCall c_law_pull [] (daBor 0 (daCons (dVar 1) daNil))) (daCons (dCall c_law_pull [] (daBor 0 (daCons (dC (.int 9)) daNil))) daNil)))))
  (dsRet (dTup (daCons (dC (.str (Str.ofString "swap"))) (daCons (dIxV 3 (dC (.int 0))) (daCons (dIxV 3 (dC (.int 1))) daNil)))))))

/- law_names: 0 _law_bag_here 1 _law_many 2 _law_letters 3 _law_first 4 _law_step 5 _law_after 6 _law_front 7 _law_k -/
def t_law_names (c_law_of c_law_pull : Con) : DS := (dsSeq (dsSet 2 (dC (.str (Str.ofString "abcdefghijklmnopqrstuvwxyz"))))
  (dsSeq (dsAsg (dTup (daCons (dCall c_law_pull [] (daBor 0 (daCons (dC (.int 26)) daNil))) (daCons (dCall c_law_of [] (daBor 0 (daCons (dLst (daCons (dC (.int 1)) (daCons (dC (.int 3)) (daCons (dC (.int 5)) (daCons (dC (.int 7)) (daCons (dC (.int 11)) daNil)))))) daNil))) daNil))) (dgTup 2 (dgsCons (dgName 3) (dgsCons (dgName 4) dgsNil))))
  (dsSeq (dsAsg (dTup (daCons (dCall c_law_of [] (daBor 0 (daCons (dLst (daCons (dC (.str (Str.ofString ""))) (daCons (dC (.str (Str.ofString "q"))) (daCons (dC (.str (Str.ofString "zz"))) (daCons (dC (.str (Str.ofString "mnopq"))) daNil))))) daNil))) (daCons (dCall c_law_of [] (daBor 0 (daCons (dLst (daCons (dC (.str (Str.ofString ""))) (daCons (dC (.str (Str.ofString "a"))) (daCons (dC (.str (Str.ofString "xy"))) daNil)))) daNil))) daNil))) (dgTup 2 (dgsCons (dgName 5) (dgsCons (dgName 6) dgsNil))))
  (dsRet (dComp (diRange1 (daCons (dVar 1) daNil)) [7] (dgName 7) dtYes (dOp opAdd (dOp opAdd (dVar 6) (dIxV 2 (dOp opMod (dOp opAdd (dVar 3) (dOp opMul (dVar 4) (dVar 7))) (dC (.int 26))))) (dVar 5)))))))

/- law_tree: 0 _law_bag_here 1 _law_wide 2 _law_names_here 3 _law_deep 4 _law_way 5 _law_one -/
def t_law_tree (c_law_pull c_law_atom c_law_tree : Con) : DS := (dsSeq (dsSet 4 (dCall c_law_pull [] (daBor 0 (daCons (dC (.int 9)) daNil))))
  (dsSeq (dsIf (dOr (dB (dOp opEq (dVar 3) (dC (.int 0)))) (dB (dOp opLt (dVar 4) (dC (.int 3)))))
  (dsRet (dCall c_law_atom [] (daBor 0 (daCons (dVar 1) (daCons (dVar 2) daNil)))))
  dsNext)
  (dsSeq (dsIf (dB (dOp opLt (dVar 4) (dC (.int 6))))
  (dsSeq (dsSet 5 (dCall c_law_tree [] (daBor 0 (daCons (dVar 1) (daCons (dVar 2) (daCons (dOp opSub (dVar 3) (dC (.int 1))) daNil))))))
  (dsRet (dTup (daCons (dC (.str (Str.ofString "product"))) (daCons (dVar 5) (daCons (dCall c_law_tree [] (daBor 0 (daCons (dVar 1) (daCons (dVar 2) (daCons (dOp opSub (dVar 3) (dC (.int 1))) daNil))))) daNil))))))
  dsNext)
  (dsSeq (dsIf (dB (dOp opLt (dVar 4) (dC (.int 7))))
  (dsSeq (dsSet 5 (dCall c_law_tree [] (daBor 0 (daCons (dVar 1) (daCons (dVar 2) (daCons (dOp opSub (dVar 3) (dC (.int 1))) daNil))))))
  (dsRet (dTup (daCons (dC (.str (Str.ofString "conjugate"))) (daCons (dVar 5) (daCons (dCall c_law_tree [] (daBor 0 (daCons (dVar 1) (daCons (dVar 2) (daCons (dOp opSub (dVar 3) (dC (.int 1))) daNil))))) daNil))))))
  dsNext)
  (dsRet (dTup (daCons (dC (.str (Str.ofString "power"))) (daCons (dCall c_law_tree [] (daBor 0 (daCons (dVar 1) (daCons (dVar 2) (daCons (dOp opSub (dVar 3) (dC (.int 1))) daNil))))) (daCons (dOp opSub (dCall c_law_pull [] (daBor 0 (daCons (dC (.int 7)) daNil))) (dC (.int 3))) daNil)))))))))

/- law_atom: 0 _law_bag_here 1 _law_wide 2 _law_names_here 3 _law_way -/
def t_law_atom (c_law_pull c_law_of c_law_move : Con) : DS := (dsSeq (dsSet 3 (dCall c_law_pull [] (daBor 0 (daCons (dC (.int 6)) daNil))))
  (dsSeq (dsIf (dB (dOp opEq (dVar 3) (dC (.int 0))))
  (dsRet (dTup (daCons (dC (.str (Str.ofString "identity"))) daNil)))
  dsNext)
  (dsSeq (dsIf (dAnd (dB (dOp opLt (dVar 3) (dC (.int 3)))) (dB (dOp opNe (dVar 2) (dLst daNil))))
  (dsRet (dTup (daCons (dC (.str (Str.ofString "name"))) (daCons (dCall c_law_of [] (daBor 0 (daCons (dVar 2) daNil))) daNil))))
  dsNext)
  (dsRet (dCall c_law_move [] (daBor 0 (daCons (dVar 1) daNil)))))))

/- law_program: 0 _law_tree_here 1 _law_last -/
def t_law_program (c_law_program : Con) : DS := (dsSeq (dsIf (dB (dOp opIn (dIxV 0 (dC (.int 0))) (dTup (daCons (dC (.str (Str.ofString "product"))) (daCons (dC (.str (Str.ofString "conjugate"))) daNil)))))
  (dsSeq (dsSet 1 (dIf (dB (dOp opEq (dIxV 0 (dC (.int 0))) (dC (.str (Str.ofString "product"))))) (dTup (daCons (dC (.str (Str.ofString "compose"))) daNil)) (dTup (daCons (dC (.str (Str.ofString "conjugate"))) daNil))))
  (dsRet (dOp opAdd (dOp opAdd (dCall c_law_program [] (daCons (dIxV 0 (dC (.int 1))) daNil)) (dCall c_law_program [] (daCons (dIxV 0 (dC (.int 2))) daNil))) (dLst (daCons (dVar 1) daNil)))))
  dsNext)
  (dsSeq (dsIf (dB (dOp opEq (dIxV 0 (dC (.int 0))) (dC (.str (Str.ofString "power")))))
  (dsRet (dOp opAdd (dCall c_law_program [] (daCons (dIxV 0 (dC (.int 1))) daNil)) (dLst (daCons (dTup (daCons (dC (.str (Str.ofString "power"))) (daCons (dIxV 0 (dC (.int 2))) daNil))) daNil))))
  dsNext)
  (dsRet (dIf (dB (dOp opEq (dIxV 0 (dC (.int 0))) (dC (.str (Str.ofString "name"))))) (dLst (daCons (dTup (daCons (dC (.str (Str.ofString "load"))) (daCons (dIxV 0 (dC (.int 1))) daNil))) daNil)) (dLst (daCons (dVar 0) daNil))))))

/- law: 0 _law_script 1 _law_bag_here 2 _law_turn 3 _law_tree_here 4 _law_again 5 _law_told -/
def t_law_b1 (c_law_bag c_law_names c_law_pull c_law_tree c_compiled c_law_program c_law_like : Con) : DS := (dsSeq (dsSet 5 (dCall c_compiled [] (daCons (dVar 3) daNil)))
  (dsSeq (dsIf (dNot (dB (dTmp (dCall c_law_like [] (daCons (dVar 5) (daCons (dCall c_law_program [] (daCons (dVar 3) daNil)) daNil))))))
  (dsRet (dC (.bl false)))
  dsNext)
  (dsSeq (dsExpr (dMt mReverse 5 daNil))
  (dsExpr (dMt mAppend 5 (daOwn (dTup daNil) daNil))))))
def t_law_b2 (c_law_bag c_law_names c_law_pull c_law_tree c_compiled c_law_program c_law_like : Con) : DS := (dsSeq (dsSet 3 (dCall c_law_tree [] (daBor 1 (daCons (dOp opAdd (dC (.int 1)) (dCall c_law_pull [] (daBor 1 (daCons (dC (.int 6)) daNil)))) (daCons (dCall c_law_names [] (daBor 1 (daCons (dC (.int 3)) daNil))) (daCons (dC (.int 4)) daNil))))))
  (dsFor (diRange1 (daCons (dC (.int 2)) daNil)) (dgName 4)
  (t_law_b1 c_law_bag c_law_names c_law_pull c_law_tree c_compiled c_law_program c_law_like)))
def t_law (c_law_bag c_law_names c_law_pull c_law_tree c_compiled c_law_program c_law_like : Con) : DS := (dsSeq (dsSet 1 (dCall c_law_bag [] (daCons (dVar 0) daNil)))
  (dsSeq (dsFor (diRange1 (daCons (dC (.int 3)) daNil)) (dgName 2)
  (t_law_b2 c_law_bag c_law_names c_law_pull c_law_tree c_compiled c_law_program c_law_like))
  (dsRet (dOp opEq (dCall c_compiled [] (daCons (dTup (daCons (dC (.str (Str.ofString "identity"))) daNil)) daNil)) (dLst (daCons (dTup (daCons (dC (.str (Str.ofString "identity"))) daNil)) daNil))))))
end K48

namespace K48
open PySem PySem.Spec PyProof.Rows L2 TL
def top (i : Nat) : Stmt := PySem.Challenge.pw_farlanes_k48_programs_of_expressions.main.body.getD i (.Pass ⟨0, 0, 0, 0⟩)
abbrev s_compiled : Stmt := top 1
theorem sc_compiled : FnScope ["tree", "word", "things", "last"] ["tree"] (defScope s_compiled) := ⟨rfl, rfl, rfl, by decide +kernel, rfl, by decide +kernel, by decide +kernel⟩
abbrev s_law_bag : Stmt := top 3
theorem sc_law_bag : FnScope ["_law_script", "_law_mix", "_law_cell"] ["_law_script"] (defScope s_law_bag) := ⟨rfl, rfl, rfl, by decide +kernel, rfl, by decide +kernel, by decide +kernel⟩
abbrev s_law_pull : Stmt := top 4
theorem sc_law_pull : FnScope ["_law_bag_here", "_law_size", "_law_cell", "_law_mix", "_law_found"] ["_law_bag_here", "_law_size"] (defScope s_law_pull) := ⟨rfl, rfl, rfl, by decide +kernel, rfl, by decide +kernel, by decide +kernel⟩
abbrev s_law_of : Stmt := top 5
theorem sc_law_of : FnScope ["_law_bag_here", "_law_some"] ["_law_bag_here", "_law_some"] (defScope s_law_of) := ⟨rfl, rfl, rfl, by decide +kernel, rfl, by decide +kernel, by decide +kernel⟩
abbrev s_law_like : Stmt := top 6
theorem sc_law_like : FnScope ["_law_found", "_law_due", "_law_kinds", "_law_one", "_law_k"] ["_law_found", "_law_due"] (defScope s_law_like) := ⟨rfl, rfl, rfl, by decide +kernel, rfl, by decide +kernel, by decide +kernel⟩
abbrev s_law_move : Stmt := top 7
theorem sc_law_move : FnScope ["_law_bag_here", "_law_wide", "_law_source", "_law_ends", "_law_k"] ["_law_bag_here", "_law_wide"] (defScope s_law_move) := ⟨rfl, rfl, rfl, by decide +kernel, rfl, by decide +kernel, by decide +kernel⟩
abbrev s_law_names : Stmt := top 8
theorem sc_law_names : FnScope ["_law_bag_here", "_law_many", "_law_letters", "_law_first", "_law_step", "_law_after", "_law_front", "_law_k"] ["_law_bag_here", "_law_many"] (defScope s_law_names) := ⟨rfl, rfl, rfl, by decide +kernel, rfl, by decide +kernel, by decide +kernel⟩
abbrev s_law_tree : Stmt := top 9
theorem sc_law_tree : FnScope ["_law_bag_here", "_law_wide", "_law_names_here", "_law_deep", "_law_way", "_law_one"] ["_law_bag_here", "_law_wide", "_law_names_here", "_law_deep"] (defScope s_law_tree) := ⟨rfl, rfl, rfl, by decide +kernel, rfl, by decide +kernel, by decide +kernel⟩
abbrev s_law_atom : Stmt := top 10
theorem sc_law_atom : FnScope ["_law_bag_here", "_law_wide", "_law_names_here", "_law_way"] ["_law_bag_here", "_law_wide", "_law_names_here"] (defScope s_law_atom) := ⟨rfl, rfl, rfl, by decide +kernel, rfl, by decide +kernel, by decide +kernel⟩
abbrev s_law_program : Stmt := top 11
theorem sc_law_program : FnScope ["_law_tree_here", "_law_last"] ["_law_tree_here"] (defScope s_law_program) := ⟨rfl, rfl, rfl, by decide +kernel, rfl, by decide +kernel, by decide +kernel⟩
abbrev s_law : Stmt := top 12
theorem sc_law : FnScope ["_law_script", "_law_bag_here", "_law_turn", "_law_tree_here", "_law_again", "_law_told"] ["_law_script"] (defScope s_law) := ⟨rfl, rfl, rfl, by decide +kernel, rfl, by decide +kernel, by decide +kernel⟩
structure Txt (K : PySem.W.Frag) (mg : Str → Option Value) where
  a_compiled : Addr
  fd_compiled : FuncData
  F_compiled : Fun K "compiled" "compiled" s_compiled a_compiled fd_compiled
  b_compiled : Binds K fd_compiled ["tree"] []
  m_compiled : mg "compiled" = some (.ref a_compiled)
  a_law_bag : Addr
  fd_law_bag : FuncData
  F_law_bag : Fun K "_law_bag" "_law_bag" s_law_bag a_law_bag fd_law_bag
  b_law_bag : Binds K fd_law_bag ["_law_script"] []
  m_law_bag : mg "_law_bag" = some (.ref a_law_bag)
  a_law_pull : Addr
  fd_law_pull : FuncData
  F_law_pull : Fun K "_law_pull" "_law_pull" s_law_pull a_law_pull fd_law_pull
  b_law_pull : Binds K fd_law_pull ["_law_bag_here", "_law_size"] []
  m_law_pull : mg "_law_pull" = some (.ref a_law_pull)
  a_law_of : Addr
  fd_law_of : FuncData
  F_law_of : Fun K "_law_of" "_law_of" s_law_of a_law_of fd_law_of
  b_law_of : Binds K fd_law_of ["_law_bag_here", "_law_some"] []
  m_law_of : mg "_law_of" = some (.ref a_law_of)
  a_law_like : Addr
  fd_law_like : FuncData
  F_law_like : Fun K "_law_like" "_law_like" s_law_like a_law_like fd_law_like
  b_law_like : Binds K fd_law_like ["_law_found", "_law_due"] []
  m_law_like : mg "_law_like" = some (.ref a_law_like)
  a_law_move : Addr
  fd_law_move : FuncData
  F_law_move : Fun K "_law_move" "_law_move" s_law_move a_law_move fd_law_move
  b_law_move : Binds K fd_law_move ["_law_bag_here", "_law_wide"] []
  m_law_move : mg "_law_move" = some (.ref a_law_move)
  a_law_names : Addr
  fd_law_names : FuncData
  F_law_names : Fun K "_law_names" "_law_names" s_law_names a_law_names fd_law_names
  b_law_names : Binds K fd_law_names ["_law_bag_here", "_law_many"] []
  m_law_names : mg "_law_names" = some (.ref a_law_names)
  a_law_tree : Addr
  fd_law_tree : FuncData
  F_law_tree : Fun K "_law_tree" "_law_tree" s_law_tree a_law_tree fd_law_tree
  b_law_tree : Binds K fd_law_tree ["_law_bag_here", "_law_wide", "_law_names_here", "_law_deep"] []
  m_law_tree : mg "_law_tree" = some (.ref a_law_tree)
  a_law_atom : Addr
  fd_law_atom : FuncData
  F_law_atom : Fun K "_law_atom" "_law_atom" s_law_atom a_law_atom fd_law_atom
  b_law_atom : Binds K fd_law_atom ["_law_bag_here", "_law_wide", "_law_names_here"] []
  m_law_atom : mg "_law_atom" = some (.ref a_law_atom)
  a_law_program : Addr
  fd_law_program : FuncData
  F_law_program : Fun K "_law_program" "_law_program" s_law_program a_law_program fd_law_program
  b_law_program : Binds K fd_law_program ["_law_tree_here"] []
  m_law_program : mg "_law_program" = some (.ref a_law_program)
  a_law : Addr
  fd_law : FuncData
  F_law : Fun K "law" "law" s_law a_law fd_law
  b_law : Binds K fd_law ["_law_script"] []
  m_law : mg "law" = some (.ref a_law)
  z_all : mg "all" = none
  z_bool : mg "bool" = none
  z_int : mg "int" = none
  z_isinstance : mg "isinstance" = none
  z_len : mg "len" = none
  z_list : mg "list" = none
  z_range : mg "range" = none
  z_str : mg "str" = none
  z_tuple : mg "tuple" = none
section
variable {P : Program} {w : World} {K : PySem.W.Frag} {mg : Str → Option Value} {base : Heap}
theorem b_compiled (T : Txt K mg) {k : Nat} {c_compiled : Con} (G_compiled : FnOk P w K mg base (L2.CX P w) k T.a_compiled T.fd_compiled ["tree"] (spD K c_compiled)) {C : Con} (hlen : ∀ ls kk kx, C ls kk kx → ls.length = 1)
    (hC : ∀ ls kk kx, C ls kk kx → t_compiled c_compiled (endsOf [] ls kk) (entry [] 4 ls)) : FnOk P w K mg base (L2.CX P w) (k + 1) T.a_compiled T.fd_compiled ["tree"] (spD K C) :=
  okD [] T.F_compiled sc_compiled hlen (t_compiled c_compiled) (fun cdv A outer s H E Y hr hY => have hN := sc_compiled.nd
  (dss_cons (ds_asg (de_var (pv 0)) (dg_star rfl (dgs_cons (dg_name (nofx hY (by decide)) hN rfl (.inl rfl)) (dgs_star (dg_name (nofx hY (by decide)) hN rfl (.inl rfl)) dgs_nil)) (by decide)))
  (dss_cons (ds_if (dt_cmp (opr_eq hr) (de_var (pv 1)) de_str (nomark _))
  (dss_one (ds_ret (de_op opr_add (de_call G_compiled hr rfl T.m_compiled T.F_compiled.kp T.b_compiled .nil .nil (da_cons (de_ixv (pv 2) de_int (fun _ _ => rfl)) da_nil)) (de_lst (da_cons (de_tup (da_cons de_str (da_cons (de_ixv (pv 2) de_int (fun _ _ => rfl)) da_nil))) da_nil)))))
  dss_nil)
  (dss_cons (ds_if (dt_cmp opr_in (de_var (pv 1)) (de_tup (da_cons de_str (da_cons de_str da_nil))) (by rfl))
  (dss_cons (ds_set (nofx hY (by decide)) hN rfl (.inl rfl) (de_if (dt_cmp (opr_eq hr) (de_var (pv 1)) de_str (nomark _)) de_str (de_var (pv 1))))
  (dss_one (ds_ret (de_op opr_add (de_op opr_add (de_call G_compiled hr rfl T.m_compiled T.F_compiled.kp T.b_compiled .nil .nil (da_cons (de_ixv (pv 2) de_int (fun _ _ => rfl)) da_nil)) (de_call G_compiled hr rfl T.m_compiled T.F_compiled.kp T.b_compiled .nil .nil (da_cons (de_ixv (pv 2) de_int (fun _ _ => rfl)) da_nil))) (de_lst (da_cons (de_tup (da_cons (de_var (pv 3)) da_nil)) da_nil))))))
  dss_nil)
  (dss_one (ds_ret (de_if (dt_cmp (opr_eq hr) (de_var (pv 1)) de_str (nomark _)) (de_lst (da_cons (de_tup (da_cons de_str (da_cons (de_ixv (pv 2) de_int (fun _ _ => rfl)) da_nil))) da_nil)) (de_lst (da_cons (de_var (pv 0)) da_nil))))))))) hC
theorem b_law_bag (T : Txt K mg) {k : Nat}  {C : Con} (hlen : ∀ ls kk kx, C ls kk kx → ls.length = 1)
    (hC : ∀ ls kk kx, C ls kk kx → t_law_bag  (endsOf [] ls kk) (entry [] 3 ls)) : FnOk P w K mg base (L2.CX P w) (k + 1) T.a_law_bag T.fd_law_bag ["_law_script"] (spD K C) :=
  okD [] T.F_law_bag sc_law_bag hlen (t_law_bag ) (fun cdv A outer s H E Y hr hY => have hN := sc_law_bag.nd
  (dss_cons (ds_set (nofx hY (by decide)) hN rfl (.inl rfl) de_int)
  (dss_cons (ds_for (passes_of rfl) rfl (di_list (de_sl (de_var (pv 0)) do_none (do_some de_int))) (dg_name (nofx hY (by decide)) hN rfl (.inl rfl))
  (dss_one (ds_set (nofx hY (by decide)) hN rfl (.inl rfl) (de_op opr_mod (de_op opr_add (de_op opr_add (de_op opr_mul (de_var (pv 1)) de_int) (de_op opr_mod (de_var (pv 2)) de_int)) de_int) de_int))))
  (dss_one (ds_ret (de_lst (da_cons (de_ty bi_list (by rfl) T.z_list (by decide +kernel) (da_cons (de_sl (de_var (pv 0)) do_none (do_some de_int)) da_nil)) (da_cons de_int (da_cons de_int (da_cons (de_var (pv 1)) (da_cons de_int da_nil))))))))))) hC
theorem b_law_pull (T : Txt K mg) {k : Nat}  {C : Con} (hlen : ∀ ls kk kx, C ls kk kx → ls.length = 2)
    (hC : ∀ ls kk kx, C ls kk kx → t_law_pull  (endsOf [0] ls kk) (entry [0] 5 ls)) : FnOk P w K mg base (L2.CX P w) (k + 1) T.a_law_pull T.fd_law_pull ["_law_bag_here", "_law_size"] (spD K C) :=
  okD [0] T.F_law_pull sc_law_pull hlen (t_law_pull ) (fun cdv A outer s H E Y hr hY => have hN := sc_law_pull.nd
  (dss_cons (ds_asg (de_op opr_add (de_ixv (pv 0) de_int (fun _ _ => rfl)) de_int) (dg_ix (pv 0) de_int))
  (dss_cons (ds_if (PW.pt (dw_and (dt_cmp (opr_eq hr) (de_ixv (pv 0) de_int (fun _ _ => rfl)) de_int (nomark _)) (dw_and1 (dt_cmp opr_lt (de_ixv (pv 0) de_int (fun _ _ => rfl)) (de_bi bi_len (by rfl) T.z_len (by decide +kernel) (da_cons (de_ixv (pv 0) de_int (fun _ _ => rfl)) da_nil)) (nomark _)))))
  (dss_cons (ds_set (nofx hY (by decide)) hN rfl (.inl rfl) (de_ix (de_ixv (pv 0) de_int (fun _ _ => rfl)) (de_ixv (pv 0) de_int (fun _ _ => rfl)) (fun _ _ => rfl)))
  (dss_cons (ds_asg (de_op opr_add (de_ixv (pv 0) de_int (fun _ _ => rfl)) de_int) (dg_ix (pv 0) de_int))
  (dss_one (ds_if (dt_cmp opr_ge (de_var (pv 2)) (de_op opr_pow de_int de_int) (nomark _))
  (dss_one (ds_asg (de_var (pv 2)) (dg_ix (pv 0) de_int)))
  (dss_cons (ds_set (nofx hY (by decide)) hN rfl (.inl rfl) (de_op opr_add (de_op opr_mul (de_ixv (pv 0) de_int (fun _ _ => rfl)) de_int) (de_op opr_mul (de_op opr_mod (de_var (pv 2)) de_int) de_int)))
  (dss_one (ds_asg (de_op opr_mod (de_op opr_add (de_var (pv 3)) de_int) de_int) (dg_ix (pv 0) de_int))))))))
  dss_nil)
  (dss_cons (ds_if (dt_cmp opr_gt (de_ixv (pv 0) de_int (fun _ _ => rfl)) de_int (nomark _))
  (dss_cons (ds_set (nofx hY (by decide)) hN rfl (.inl rfl) (de_op opr_mod (de_ixv (pv 0) de_int (fun _ _ => rfl)) (de_var (pv 1))))
  (dss_cons (ds_asg (de_op opr_fdiv (de_ixv (pv 0) de_int (fun _ _ => rfl)) (de_var (pv 1))) (dg_ix (pv 0) de_int))
  (dss_one (ds_ret (de_take (pv 4))))))
  dss_nil)
  (dss_cons (ds_set (nofx hY (by decide)) hN rfl (.inl rfl) (de_op opr_add (de_op opr_mul (de_op opr_mul (de_ixv (pv 0) de_int (fun _ _ => rfl)) (de_ixv (pv 0) de_int (fun _ _ => rfl))) de_int) (de_op opr_mul (de_ixv (pv 0) de_int (fun _ _ => rfl)) de_int)))
  (dss_cons (ds_asg (de_op opr_mod (de_op opr_add (de_var (pv 3)) (de_op opr_mul de_int (de_ixv (pv 0) de_int (fun _ _ => rfl)))) de_int) (dg_ix (pv 0) de_int))
  (dss_one (ds_ret (de_op opr_mod (de_op opr_fdiv (de_ixv (pv 0) de_int (fun _ _ => rfl)) de_int) (de_var (pv 1))))))))))) hC
theorem b_law_of (T : Txt K mg) {k : Nat} {c_law_pull : Con} (G_law_pull : FnOk P w K mg base (L2.CX P w) k T.a_law_pull T.fd_law_pull ["_law_bag_here", "_law_size"] (spD K c_law_pull)) {C : Con} (hlen : ∀ ls kk kx, C ls kk kx → ls.length = 2)
    (hC : ∀ ls kk kx, C ls kk kx → t_law_of c_law_pull (endsOf [0] ls kk) (entry [0] 2 ls)) : FnOk P w K mg base (L2.CX P w) (k + 1) T.a_law_of T.fd_law_of ["_law_bag_here", "_law_some"] (spD K C) :=
  okD [0] T.F_law_of sc_law_of hlen (t_law_of c_law_pull) (fun cdv A outer s H E Y hr hY => have hN := sc_law_of.nd
  (dss_one (ds_ret (de_ixv (pv 1) (de_call G_law_pull hr rfl T.m_law_pull T.F_law_pull.kp T.b_law_pull .nil .nil (da_bor (pv 0) (da_cons (de_bi bi_len (by rfl) T.z_len (by decide +kernel) (da_bor (pv 1) da_nil)) da_nil))) (fun _ _ => rfl))))) hC
theorem b_law_like (T : Txt K mg) {k : Nat} {c_law_like : Con} (G_law_like : FnOk P w K mg base (L2.CX P w) k T.a_law_like T.fd_law_like ["_law_found", "_law_due"] (spD K c_law_like)) {C : Con} (hlen : ∀ ls kk kx, C ls kk kx → ls.length = 2)
    (hC : ∀ ls kk kx, C ls kk kx → t_law_like c_law_like (endsOf [] ls kk) (entry [] 5 ls)) : FnOk P w K mg base (L2.CX P w) (k + 1) T.a_law_like T.fd_law_like ["_law_found", "_law_due"] (spD K C) :=
  okD [] T.F_law_like sc_law_like hlen (t_law_like c_law_like) (fun cdv A outer s H E Y hr hY => have hN := sc_law_like.nd
  (dss_cons (ds_if (dt_val (de_bi bi_isi (by rfl) T.z_isinstance (by decide +kernel) (da_bor (pv 1) (da_cons (de_tup (da_cons (de_tyn (by rfl) T.z_list (by decide +kernel)) (da_cons (de_tyn (by rfl) T.z_tuple (by decide +kernel)) da_nil))) da_nil))))
  (dss_cons (ds_setLc (i := 2) (nofx hY (by decide)) (own := [("_law_one", 3)]) rfl hN rfl rfl (sw_true rfl rfl rfl (by decide +kernel)) (di_tup (de_tup (da_cons (de_var (pv 0)) (da_cons (de_var (pv 1)) da_nil)))) (blkOk_by (N := ["_law_found", "_law_due", "_law_kinds", "_law_one", "_law_k"]) (sc := defScope s_law_like) (by decide +kernel)) (fun _ y1 _ _ _ _ _ => (dg_name (nofxB y1 (by decide)) hN rfl (.inl rfl))) (fun _ y1 _ _ _ _ _ => dts_nil) (fun _ y1 _ _ _ _ _ => (de_tup (da_cons (de_bi bi_isi (by rfl) T.z_isinstance (by decide +kernel) (da_bor (pv 3) (da_cons (de_tyn (by rfl) T.z_list (by decide +kernel)) da_nil))) (da_cons (de_bi bi_isi (by rfl) T.z_isinstance (by decide +kernel) (da_bor (pv 3) (da_cons (de_tyn (by rfl) T.z_tuple (by decide +kernel)) da_nil))) da_nil)))))
  (dss_cons (ds_if (PW.pt (dw_or (dt_cmp (opr_ne hr) (de_ixv (pv 2) de_int (fun _ _ => rfl)) (de_ixv (pv 2) de_int (fun _ _ => rfl)) (nomark _)) (dw_or1 (dt_cmp (opr_ne hr) (de_bi bi_len (by rfl) T.z_len (by decide +kernel) (da_bor (pv 0) da_nil)) (de_bi bi_len (by rfl) T.z_len (by decide +kernel) (da_bor (pv 1) da_nil)) (nomark _)))))
  (dss_one (ds_ret de_bl))
  dss_nil)
  (dss_one (ds_ret (de_bi (bi_all rfl) (by rfl) T.z_all (by decide +kernel) (da_cons (de_comp (own := [("_law_k", 4)]) rfl hN (di_range1 (by rfl) T.z_range (da_cons (de_bi bi_len (by rfl) T.z_len (by decide +kernel) (da_bor (pv 1) da_nil)) da_nil)) (blkOk_by (N := ["_law_found", "_law_due", "_law_kinds", "_law_one", "_law_k"]) (sc := defScope s_law_like) (by decide +kernel)) (fun _ y2 _ _ _ _ _ => (dg_name (nofxB y2 (by decide)) hN rfl (.inl rfl))) (fun _ y2 _ _ _ _ _ => dts_nil) (fun _ y2 _ _ _ _ _ => (de_tmp (de_call G_law_like hr rfl T.m_law_like T.F_law_like.kp T.b_law_like .nil .nil (da_cons (de_ixv (pv 0) (de_var (pv 4)) (fun _ _ => rfl)) (da_cons (de_ixv (pv 1) (de_var (pv 4)) (fun _ _ => rfl)) da_nil)))))) da_nil))))))
  dss_nil)
  (dss_cons (ds_if (PW.pt (dw_or (dt_cmp opr_isN (de_var (pv 1)) de_non (nomark _)) (dw_or1 (dt_cmp opr_isN (de_var (pv 0)) de_non (nomark _)))))
  (dss_one (ds_ret (de_and (de_cmp opr_isN (de_var (pv 1)) de_non (nomark _)) (de_one (de_cmp opr_isN (de_var (pv 0)) de_non (nomark _))))))
  dss_nil)
  (dss_cons (ds_if (PW.pt (dw_or (dt_val (de_bi bi_isi (by rfl) T.z_isinstance (by decide +kernel) (da_bor (pv 1) (da_cons (de_tyn (by rfl) T.z_bool (by decide +kernel)) da_nil)))) (dw_or1 (dt_val (de_bi bi_isi (by rfl) T.z_isinstance (by decide +kernel) (da_bor (pv 0) (da_cons (de_tyn (by rfl) T.z_bool (by decide +kernel)) da_nil)))))))
  (dss_one (ds_ret (de_and (de_bi bi_isi (by rfl) T.z_isinstance (by decide +kernel) (da_bor (pv 1) (da_cons (de_tyn (by rfl) T.z_bool (by decide +kernel)) da_nil))) (de_and (de_bi bi_isi (by rfl) T.z_isinstance (by decide +kernel) (da_bor (pv 0) (da_cons (de_tyn (by rfl) T.z_bool (by decide +kernel)) da_nil))) (de_one (de_cmp (opr_eq hr) (de_var (pv 0)) (de_var (pv 1)) (nomark _)))))))
  dss_nil)
  (dss_cons (ds_if (PW.pt (dw_or (dt_cmp (opr_ne hr) (de_bi bi_isi (by rfl) T.z_isinstance (by decide +kernel) (da_bor (pv 0) (da_cons (de_tyn (by rfl) T.z_int (by decide +kernel)) da_nil))) (de_bi bi_isi (by rfl) T.z_isinstance (by decide +kernel) (da_bor (pv 1) (da_cons (de_tyn (by rfl) T.z_int (by decide +kernel)) da_nil))) (nomark _)) (dw_or1 (dt_cmp (opr_ne hr) (de_bi bi_isi (by rfl) T.z_isinstance (by decide +kernel) (da_bor (pv 0) (da_cons (de_tyn (by rfl) T.z_str (by decide +kernel)) da_nil))) (de_bi bi_isi (by rfl) T.z_isinstance (by decide +kernel) (da_bor (pv 1) (da_cons (de_tyn (by rfl) T.z_str (by decide +kernel)) da_nil))) (nomark _)))))
  (dss_one (ds_ret de_bl))
  dss_nil)
  (dss_one (ds_ret (de_cmp (opr_eq hr) (de_var (pv 0)) (de_var (pv 1)) (nomark _))))))))) hC
theorem b_law_move (T : Txt K mg) {k : Nat} {c_law_pull : Con} (G_law_pull : FnOk P w K mg base (L2.CX P w) k T.a_law_pull T.fd_law_pull ["_law_bag_here", "_law_size"] (spD K c_law_pull)) {C : Con} (hlen : ∀ ls kk kx, C ls kk kx → ls.length = 2)
    (hC : ∀ ls kk kx, C ls kk kx → t_law_move c_law_pull (endsOf [0] ls kk) (entry [0] 5 ls)) : FnOk P w K mg base (L2.CX P w) (k + 1) T.a_law_move T.fd_law_move ["_law_bag_here", "_law_wide"] (spD K C) :=
  okD [0] T.F_law_move sc_law_move hlen (t_law_move c_law_pull) (fun cdv A outer s H E Y hr hY => have hN := sc_law_move.nd
  (dss_cons (ds_if (PW.pt (dw_and (dt_cmp opr_gt (de_var (pv 1)) de_int (nomark _)) (dw_and1 (dt_cmp (opr_eq hr) (de_call G_law_pull hr rfl T.m_law_pull T.F_law_pull.kp T.b_law_pull .nil .nil (da_bor (pv 0) (da_cons de_int da_nil))) de_int (nomark _)))))
  (dss_cons (ds_set (nofx hY (by decide)) hN rfl (.inl rfl) (de_call G_law_pull hr rfl T.m_law_pull T.F_law_pull.kp T.b_law_pull .nil .nil (da_bor (pv 0) (da_cons (de_var (pv 1)) da_nil))))
  (dss_one (ds_ret (de_tup (da_cons de_str (da_cons (de_var (pv 2)) (da_cons (de_op opr_mod (de_op opr_add (de_op opr_add (de_var (pv 2)) de_int) (de_call G_law_pull hr rfl T.m_law_pull T.F_law_pull.kp T.b_law_pull .nil .nil (da_bor (pv 0) (da_cons (de_op opr_sub (de_var (pv 1)) de_int) da_nil)))) (de_var (pv 1))) da_nil)))))))
  dss_nil)
  (dss_cons (ds_setLc (i := 3) (nofx hY (by decide)) (own := [("_law_k", 4)]) rfl hN rfl rfl (sw_true rfl rfl rfl (by decide +kernel)) (di_range1 (by rfl) T.z_range (da_cons de_int da_nil)) (blkOk_by (N := ["_law_bag_here", "_law_wide", "_law_source", "_law_ends", "_law_k"]) (sc := defScope s_law_move) (by decide +kernel)) (fun _ y1 _ _ _ _ _ => (dg_name (nofxB y1 (by decide)) hN rfl (.inl rfl))) (fun _ y1 _ _ _ _ _ => dts_nil) (fun _ y1 _ _ _ _ _ => (de_tup (da_cons (de_call G_law_pull hr rfl T.m_law_pull T.F_law_pull.kp T.b_law_pull .nil .nil (da_bor (pv 0) (da_cons (de_var (pv 1)) da_nil))) (da_cons (de_call G_law_pull hr rfl T.m_law_pull T.F_law_pull.kp T.b_law_pull .nil .nil (da_bor (pv 0) (da_cons de_int da_nil))) da_nil)))))
  (dss_one (ds_ret (de_tup (da_cons de_str (da_cons (de_ixv (pv 3) de_int (fun _ _ => rfl)) (da_cons (de_ixv (pv 3) de_int (fun _ _ => rfl)) da_nil))))))))) hC
theorem b_law_names (T : Txt K mg) {k : Nat} {c_law_of c_law_pull : Con} (G_law_of : FnOk P w K mg base (L2.CX P w) k T.a_law_of T.fd_law_of ["_law_bag_here", "_law_some"] (spD K c_law_of)) (G_law_pull : FnOk P w K mg base (L2.CX P w) k T.a_law_pull T.fd_law_pull ["_law_bag_here", "_law_size"] (spD K c_law_pull)) {C : Con} (hlen : ∀ ls kk kx, C ls kk kx → ls.length = 2)
    (hC : ∀ ls kk kx, C ls kk kx → t_law_names c_law_of c_law_pull (endsOf [0] ls kk) (entry [0] 8 ls)) : FnOk P w K mg base (L2.CX P w) (k + 1) T.a_law_names T.fd_law_names ["_law_bag_here", "_law_many"] (spD K C) :=
  okD [0] T.F_law_names sc_law_names hlen (t_law_names c_law_of c_law_pull) (fun cdv A outer s H E Y hr hY => have hN := sc_law_names.nd
  (dss_cons (ds_set (nofx hY (by decide)) hN rfl (.inr rfl) de_str)
  (dss_cons (ds_asg (de_tup (da_cons (de_call G_law_pull hr rfl T.m_law_pull T.F_law_pull.kp T.b_law_pull .nil .nil (da_bor (pv 0) (da_cons de_int da_nil))) (da_cons (de_call G_law_of hr rfl T.m_law_of T.F_law_of.kp T.b_law_of .nil .nil (da_bor (pv 0) (da_cons (de_lst (da_cons de_int (da_cons de_int (da_cons de_int (da_cons de_int (da_cons de_int da_nil)))))) da_nil))) da_nil))) (dg_tup rfl (dgs_cons (dg_name (nofx hY (by decide)) hN rfl (.inr rfl)) (dgs_cons (dg_name (nofx hY (by decide)) hN rfl (.inr rfl)) dgs_nil))))
  (dss_cons (ds_asg (de_tup (da_cons (de_call G_law_of hr rfl T.m_law_of T.F_law_of.kp T.b_law_of .nil .nil (da_bor (pv 0) (da_cons (de_lst (da_cons de_str (da_cons de_str (da_cons de_str (da_cons de_str da_nil))))) da_nil))) (da_cons (de_call G_law_of hr rfl T.m_law_of T.F_law_of.kp T.b_law_of .nil .nil (da_bor (pv 0) (da_cons (de_lst (da_cons de_str (da_cons de_str (da_cons de_str da_nil)))) da_nil))) da_nil))) (dg_tup rfl (dgs_cons (dg_name (nofx hY (by decide)) hN rfl (.inr rfl)) (dgs_cons (dg_name (nofx hY (by decide)) hN rfl (.inr rfl)) dgs_nil))))
  (dss_one (ds_ret (de_comp (own := [("_law_k", 7)]) rfl hN (di_range1 (by rfl) T.z_range (da_cons (de_var (pv 1)) da_nil)) (blkOk_by (N := ["_law_bag_here", "_law_many", "_law_letters", "_law_first", "_law_step", "_law_after", "_law_front", "_law_k"]) (sc := defScope s_law_names) (by decide +kernel)) (fun _ y1 _ _ _ _ _ => (dg_name (nofxB y1 (by decide)) hN rfl (.inl rfl))) (fun _ y1 _ _ _ _ _ => dts_nil) (fun _ y1 _ _ _ _ _ => (de_op opr_add (de_op opr_add (de_var (pv 6)) (de_ixv (pv 2) (de_op opr_mod (de_op opr_add (de_var (pv 3)) (de_op opr_mul (de_var (pv 4)) (de_var (pv 7)))) de_int) (fun _ _ => rfl))) (de_var (pv 5))))))))))) hC
theorem b_law_tree (T : Txt K mg) {k : Nat} {c_law_pull c_law_atom c_law_tree : Con} (G_law_pull : FnOk P w K mg base (L2.CX P w) k T.a_law_pull T.fd_law_pull ["_law_bag_here", "_law_size"] (spD K c_law_pull)) (G_law_atom : FnOk P w K mg base (L2.CX P w) k T.a_law_atom T.fd_law_atom ["_law_bag_here", "_law_wide", "_law_names_here"] (spD K c_law_atom)) (G_law_tree : FnOk P w K mg base (L2.CX P w) k T.a_law_tree T.fd_law_tree ["_law_bag_here", "_law_wide", "_law_names_here", "_law_deep"] (spD K c_law_tree)) {C : Con} (hlen : ∀ ls kk kx, C ls kk kx → ls.length = 4)
    (hC : ∀ ls kk kx, C ls kk kx → t_law_tree c_law_pull c_law_atom c_law_tree (endsOf [0] ls kk) (entry [0] 6 ls)) : FnOk P w K mg base (L2.CX P w) (k + 1) T.a_law_tree T.fd_law_tree ["_law_bag_here", "_law_wide", "_law_names_here", "_law_deep"] (spD K C) :=
  okD [0] T.F_law_tree sc_law_tree hlen (t_law_tree c_law_pull c_law_atom c_law_tree) (fun cdv A outer s H E Y hr hY => have hN := sc_law_tree.nd
  (dss_cons (ds_set (nofx hY (by decide)) hN rfl (.inl rfl) (de_call G_law_pull hr rfl T.m_law_pull T.F_law_pull.kp T.b_law_pull .nil .nil (da_bor (pv 0) (da_cons de_int da_nil))))
  (dss_cons (ds_if (PW.pt (dw_or (dt_cmp (opr_eq hr) (de_var (pv 3)) de_int (nomark _)) (dw_or1 (dt_cmp opr_lt (de_var (pv 4)) de_int (nomark _)))))
  (dss_one (ds_ret (de_call G_law_atom hr rfl T.m_law_atom T.F_law_atom.kp T.b_law_atom .nil .nil (da_bor (pv 0) (da_cons (de_var (pv 1)) (da_cons (de_var (pv 2)) da_nil))))))
  dss_nil)
  (dss_cons (ds_if (dt_cmp opr_lt (de_var (pv 4)) de_int (nomark _))
  (dss_cons (ds_set (nofx hY (by decide)) hN rfl (.inl rfl) (de_call G_law_tree hr rfl T.m_law_tree T.F_law_tree.kp T.b_law_tree .nil .nil (da_bor (pv 0) (da_cons (de_var (pv 1)) (da_cons (de_var (pv 2)) (da_cons (de_op opr_sub (de_var (pv 3)) de_int) da_nil))))))
  (dss_one (ds_ret (de_tup (da_cons de_str (da_cons (de_var (pv 5)) (da_cons (de_call G_law_tree hr rfl T.m_law_tree T.F_law_tree.kp T.b_law_tree .nil .nil (da_bor (pv 0) (da_cons (de_var (pv 1)) (da_cons (de_var (pv 2)) (da_cons (de_op opr_sub (de_var (pv 3)) de_int) da_nil))))) da_nil)))))))
  dss_nil)
  (dss_cons (ds_if (dt_cmp opr_lt (de_var (pv 4)) de_int (nomark _))
  (dss_cons (ds_set (nofx hY (by decide)) hN rfl (.inl rfl) (de_call G_law_tree hr rfl T.m_law_tree T.F_law_tree.kp T.b_law_tree .nil .nil (da_bor (pv 0) (da_cons (de_var (pv 1)) (da_cons (de_var (pv 2)) (da_cons (de_op opr_sub (de_var (pv 3)) de_int) da_nil))))))
  (dss_one (ds_ret (de_tup (da_cons de_str (da_cons (de_var (pv 5)) (da_cons (de_call G_law_tree hr rfl T.m_law_tree T.F_law_tree.kp T.b_law_tree .nil .nil (da_bor (pv 0) (da_cons (de_var (pv 1)) (da_cons (de_var (pv 2)) (da_cons (de_op opr_sub (de_var (pv 3)) de_int) da_nil))))) da_nil)))))))
  dss_nil)
  (dss_one (ds_ret (de_tup (da_cons de_str (da_cons (de_call G_law_tree hr rfl T.m_law_tree T.F_law_tree.kp T.b_law_tree .nil .nil (da_bor (pv 0) (da_cons (de_var (pv 1)) (da_cons (de_var (pv 2)) (da_cons (de_op opr_sub (de_var (pv 3)) de_int) da_nil))))) (da_cons (de_op opr_sub (de_call G_law_pull hr rfl T.m_law_pull T.F_law_pull.kp T.b_law_pull .nil .nil (da_bor (pv 0) (da_cons de_int da_nil))) de_int) da_nil))))))))))) hC
theorem b_law_atom (T : Txt K mg) {k : Nat} {c_law_pull c_law_of c_law_move : Con} (G_law_pull : FnOk P w K mg base (L2.CX P w) k T.a_law_pull T.fd_law_pull ["_law_bag_here", "_law_size"] (spD K c_law_pull)) (G_law_of : FnOk P w K mg base (L2.CX P w) k T.a_law_of T.fd_law_of ["_law_bag_here", "_law_some"] (spD K c_law_of)) (G_law_move : FnOk P w K mg base (L2.CX P w) k T.a_law_move T.fd_law_move ["_law_bag_here", "_law_wide"] (spD K c_law_move)) {C : Con} (hlen : ∀ ls kk kx, C ls kk kx → ls.length = 3)
    (hC : ∀ ls kk kx, C ls kk kx → t_law_atom c_law_pull c_law_of c_law_move (endsOf [0] ls kk) (entry [0] 4 ls)) : FnOk P w K mg base (L2.CX P w) (k + 1) T.a_law_atom T.fd_law_atom ["_law_bag_here", "_law_wide", "_law_names_here"] (spD K C) :=
  okD [0] T.F_law_atom sc_law_atom hlen (t_law_atom c_law_pull c_law_of c_law_move) (fun cdv A outer s H E Y hr hY => have hN := sc_law_atom.nd
  (dss_cons (ds_set (nofx hY (by decide)) hN rfl (.inl rfl) (de_call G_law_pull hr rfl T.m_law_pull T.F_law_pull.kp T.b_law_pull .nil .nil (da_bor (pv 0) (da_cons de_int da_nil))))
  (dss_cons (ds_if (dt_cmp (opr_eq hr) (de_var (pv 3)) de_int (nomark _))
  (dss_one (ds_ret (de_tup (da_cons de_str da_nil))))
  dss_nil)
  (dss_cons (ds_if (PW.pt (dw_and (dt_cmp opr_lt (de_var (pv 3)) de_int (nomark _)) (dw_and1 (dt_cmp (opr_ne hr) (de_var (pv 2)) (de_lst da_nil) (nomark _)))))
  (dss_one (ds_ret (de_tup (da_cons de_str (da_cons (de_call G_law_of hr rfl T.m_law_of T.F_law_of.kp T.b_law_of .nil .nil (da_bor (pv 0) (da_cons (de_var (pv 2)) da_nil))) da_nil)))))
  dss_nil)
  (dss_one (ds_ret (de_call G_law_move hr rfl T.m_law_move T.F_law_move.kp T.b_law_move .nil .nil (da_bor (pv 0) (da_cons (de_var (pv 1)) da_nil))))))))) hC
theorem b_law_program (T : Txt K mg) {k : Nat} {c_law_program : Con} (G_law_program : FnOk P w K mg base (L2.CX P w) k T.a_law_program T.fd_law_program ["_law_tree_here"] (spD K c_law_program)) {C : Con} (hlen : ∀ ls kk kx, C ls kk kx → ls.length = 1)
    (hC : ∀ ls kk kx, C ls kk kx → t_law_program c_law_program (endsOf [] ls kk) (entry [] 2 ls)) : FnOk P w K mg base (L2.CX P w) (k + 1) T.a_law_program T.fd_law_program ["_law_tree_here"] (spD K C) :=
  okD [] T.F_law_program sc_law_program hlen (t_law_program c_law_program) (fun cdv A outer s H E Y hr hY => have hN := sc_law_program.nd
  (dss_cons (ds_if (dt_cmp opr_in (de_ixv (pv 0) de_int (fun _ _ => rfl)) (de_tup (da_cons de_str (da_cons de_str da_nil))) (by rfl))
  (dss_cons (ds_set (nofx hY (by decide)) hN rfl (.inl rfl) (de_if (dt_cmp (opr_eq hr) (de_ixv (pv 0) de_int (fun _ _ => rfl)) de_str (nomark _)) (de_tup (da_cons de_str da_nil)) (de_tup (da_cons de_str da_nil))))
  (dss_one (ds_ret (de_op opr_add (de_op opr_add (de_call G_law_program hr rfl T.m_law_program T.F_law_program.kp T.b_law_program .nil .nil (da_cons (de_ixv (pv 0) de_int (fun _ _ => rfl)) da_nil)) (de_call G_law_program hr rfl T.m_law_program T.F_law_program.kp T.b_law_program .nil .nil (da_cons (de_ixv (pv 0) de_int (fun _ _ => rfl)) da_nil))) (de_lst (da_cons (de_var (pv 1)) da_nil))))))
  dss_nil)
  (dss_cons (ds_if (dt_cmp (opr_eq hr) (de_ixv (pv 0) de_int (fun _ _ => rfl)) de_str (nomark _))
  (dss_one (ds_ret (de_op opr_add (de_call G_law_program hr rfl T.m_law_program T.F_law_program.kp T.b_law_program .nil .nil (da_cons (de_ixv (pv 0) de_int (fun _ _ => rfl)) da_nil)) (de_lst (da_cons (de_tup (da_cons de_str (da_cons (de_ixv (pv 0) de_int (fun _ _ => rfl)) da_nil))) da_nil)))))
  dss_nil)
  (dss_one (ds_ret (de_if (dt_cmp (opr_eq hr) (de_ixv (pv 0) de_int (fun _ _ => rfl)) de_str (nomark _)) (de_lst (da_cons (de_tup (da_cons de_str (da_cons (de_ixv (pv 0) de_int (fun _ _ => rfl)) da_nil))) da_nil)) (de_lst (da_cons (de_var (pv 0)) da_nil)))))))) hC
theorem b_law (T : Txt K mg) {k : Nat} {c_law_bag c_law_names c_law_pull c_law_tree c_compiled c_law_program c_law_like : Con} (G_law_bag : FnOk P w K mg base (L2.CX P w) k T.a_law_bag T.fd_law_bag ["_law_script"] (spD K c_law_bag)) (G_law_names : FnOk P w K mg base (L2.CX P w) k T.a_law_names T.fd_law_names ["_law_bag_here", "_law_many"] (spD K c_law_names)) (G_law_pull : FnOk P w K mg base (L2.CX P w) k T.a_law_pull T.fd_law_pull ["_law_bag_here", "_law_size"] (spD K c_law_pull)) (G_law_tree : FnOk P w K mg base (L2.CX P w) k T.a_law_tree T.fd_law_tree ["_law_bag_here", "_law_wide", "_law_names_here", "_law_deep"] (spD K c_law_tree)) (G_compiled : FnOk P w K mg base (L2.CX P w) k T.a_compiled T.fd_compiled ["tree"] (spD K c_compiled)) (G_law_program : FnOk P w K mg base (L2.CX P w) k T.a_law_program T.fd_law_program ["_law_tree_here"] (spD K c_law_program)) (G_law_like : FnOk P w K mg base (L2.CX P w) k T.a_law_like T.fd_law_like ["_law_found", "_law_due"] (spD K c_law_like)) {C : Con} (hlen : ∀ ls kk kx, C ls kk kx → ls.length = 1)
    (hC : ∀ ls kk kx, C ls kk kx → t_law c_law_bag c_law_names c_law_pull c_law_tree c_compiled c_law_program c_law_like (endsOf [] ls kk) (entry [] 6 ls)) : FnOk P w K mg base (L2.CX P w) (k + 1) T.a_law T.fd_law ["_law_script"] (spD K C) :=
  okD [] T.F_law sc_law hlen (t_law c_law_bag c_law_names c_law_pull c_law_tree c_compiled c_law_program c_law_like) (fun cdv A outer s H E Y hr hY => have hN := sc_law.nd
  (dss_cons (ds_set (nofx hY (by decide)) hN rfl (.inl rfl) (de_call G_law_bag hr rfl T.m_law_bag T.F_law_bag.kp T.b_law_bag .nil .nil (da_cons (de_var (pv 0)) da_nil)))
  (dss_cons (ds_for (passes_of rfl) rfl (di_range1 (by rfl) T.z_range (da_cons de_int da_nil)) (dg_name (nofx hY (by decide)) hN rfl (.inl rfl))
  (dss_cons (ds_set (nofx hY (by decide)) hN rfl (.inl rfl) (de_call G_law_tree hr rfl T.m_law_tree T.F_law_tree.kp T.b_law_tree .nil .nil (da_bor (pv 1) (da_cons (de_op opr_add de_int (de_call G_law_pull hr rfl T.m_law_pull T.F_law_pull.kp T.b_law_pull .nil .nil (da_bor (pv 1) (da_cons de_int da_nil)))) (da_cons (de_call G_law_names hr rfl T.m_law_names T.F_law_names.kp T.b_law_names .nil .nil (da_bor (pv 1) (da_cons de_int da_nil))) (da_cons de_int da_nil))))))
  (dss_one (ds_for (passes_of rfl) rfl (di_range1 (by rfl) T.z_range (da_cons de_int da_nil)) (dg_name (nofx hY (by decide)) hN rfl (.inl rfl))
  (dss_cons (ds_set (nofx hY (by decide)) hN rfl (.inl rfl) (de_call G_compiled hr rfl T.m_compiled T.F_compiled.kp T.b_compiled .nil .nil (da_cons (de_var (pv 3)) da_nil)))
  (dss_cons (ds_if (dt_not (dt_val (de_tmp (de_call G_law_like hr rfl T.m_law_like T.F_law_like.kp T.b_law_like .nil .nil (da_cons (de_var (pv 5)) (da_cons (de_call G_law_program hr rfl T.m_law_program T.F_law_program.kp T.b_law_program .nil .nil (da_cons (de_var (pv 3)) da_nil)) da_nil))))))
  (dss_one (ds_ret de_bl))
  dss_nil)
  (dss_cons (ds_expr (de_mt0 PySem.F.slot_list_reverse PySem.F.type_list_reverse mtr_reverse (pv 5)))
  (dss_one (ds_expr (de_mt PySem.F.slot_list_append PySem.F.type_list_append mtr_append (pv 5) (da_own (de_tup da_nil) da_nil)))))))))))
  (dss_one (ds_ret (de_cmp (opr_eq hr) (de_call G_compiled hr rfl T.m_compiled T.F_compiled.kp T.b_compiled .nil .nil (da_cons (de_tup (da_cons de_str da_nil)) da_nil)) (de_lst (da_cons (de_tup (da_cons de_str da_nil)) da_nil)) (nomark _))))))) hC
end
end K48

namespace K48
open PySem PySem.Spec PyProof.Rows L2 TL
/-! ### the bag -/
def IsBag (l : L) : Prop := ∃ (xs : List Int) (pos held mix cnt : Int), l = .box .lst [.fr (.box .lst (xs.map D.int)), .fr (.int pos), .fr (.int held), .fr (.int mix), .fr (.int cnt)] ∧ 0 ≤ pos ∧ 0 ≤ held ∧ 0 ≤ mix ∧ mix < 2147483629
def cPull : Con := fun args k _ => match args with
  | [b, .fr (.int z)] => IsBag b ∧ (0 < z ∧ z < 1000000) ∧ ∀ r b' l', IsBag b' → 0 ≤ r → r < z → k (.fr (.int r)) [b', l']
  | _ => False
def cBag : Con := fun args k _ => ∃ ns : List Int, args = [.fr (.ro (ns.map D.int))] ∧ ns.length ≤ 63 ∧ ∀ b l', IsBag b → k b [l']
theorem cutD_map {α β : Type} (f : α → β) (xs : List α) (lo hi : Option Int) : TL.cutD (xs.map f) lo hi = (TL.cutD xs lo hi).map f := by
  unfold TL.cutD
  rw [List.length_map, ← List.map_drop, ← List.map_take]
theorem v_bag : ∀ ls kk kx, cBag ls kk kx → t_law_bag (endsOf [] ls kk) (entry [] 3 ls) := by
  rintro _ kk kx ⟨ns, rfl, hl, h⟩
  simp (maxSteps := 4000000) only [r_ofStr, r_ofStrB, r_consN, r_consK, r_set0, r_setS, r_isSl0, r_isSlS, r_take0, r_takeS, r_dTake, r_peek0, r_peekS, r_dVar0, r_dVarS, r_seqK, r_seq, r_next, r_exprK, r_expr, r_ret, r_retN, r_ifK, r_if, r_dsSet, r_gName, r_asgK, r_asg, r_gTup, r_gsK, r_gsCons, r_gsNil, r_gStar, r_put0, r_put1, r_put2, r_put3, r_put4, r_boxK, r_gIx, r_gix0, r_gixS, r_setK2, r_parK, r_par, r_augK3, r_augK2, r_augK, r_aug, r_dC, r_opK3, r_opK2, r_opK, r_op, r_bK, r_dB, r_chK4, r_chK2, r_chK1, r_chain, r_andK, r_and, r_orK, r_or, r_notK, r_not, r_andVK, r_andV, r_orVK, r_orV, r_notVK, r_notV, r_difK, r_dIf, r_negK, r_neg, r_aNil, r_acK2, r_acK, r_aCons, r_aoK, r_aOwn, r_borK2, r_borK, r_aBor, r_lstK, r_lst, r_tupK, r_tup, r_retK, r_callK, r_call, r_res0, r_resN, r_resS, r_tmpK, r_tmp, r_frzN, r_frz0, r_frz1, r_at0, r_at1, r_at2, r_at3, r_frK, r_atF0, r_atF1, r_atF2, r_atF3, r_atF4, r_ixTup, r_ixRo, r_ixLst, r_ixStr, r_ixvF, r_ixvB, r_ixvK, r_ixV, r_isBx0, r_isBxS, r_mtK3, r_mtK2, r_mtK, r_mt, r_append, r_reverse, r_pop, r_slK3, r_slK2, r_slK, r_sl, r_oNone, r_osK, r_oSome, r_slLst, r_slRo, r_slTup, r_slStr, r_sqK2, r_sqK, r_iSeq, r_tqK2, r_tqK, r_iTup, r_rg1K, r_iRange1, r_rg2K, r_iRange2, r_forK, r_for, r_bodyK, r_cpEnd, r_cpK, r_comp, r_wipe0, r_wipeS, r_yes, r_cmK3, r_cmK2, r_cmK, r_cmN, r_compC, r_compN, r_endN, r_endR, r_ends, r_outOk0, r_outOkS, r_addI, r_addS, r_addL, r_addT, r_iaddI, r_iaddS, r_sub, r_mulI, r_mod, r_fdiv, r_pow, r_cmpI, r_eqI, r_eqS, r_eqB, r_eqT, r_eqL, r_neI, r_neS, r_neB, r_neT, r_neL, r_isN, r_notN, r_inT, r_inR, r_inL, r_inS, r_notIn, r_c1K, r_con1, r_con2, r_con1F, r_lenL, r_lenT, r_lenR, r_lenS, r_isi1, r_isi2, r_listL, r_listR, r_listT, r_tupleT, r_tupleL, r_intI, r_intB, r_absI, r_bools, r_ints, r_toD, r_toDb, r_toDsN, r_toDsC, r_toDsF, List.getElem?_cons_zero, List.getElem?_cons_succ, List.getElem?_nil, List.set_cons_zero, List.set_cons_succ, List.map_cons, List.map_nil, List.cons_append, List.nil_append, List.append_nil, List.length_cons, List.length_nil, List.length_map, List.length_append, List.replicate_succ, List.replicate_zero, List.all_cons, List.all_nil, List.any_cons, List.any_nil, List.drop_succ_cons, List.drop_zero, List.take_succ_cons, List.take_zero, List.reverse_cons, List.reverse_nil, Option.some.injEq, Option.isSome_some, Option.isSome_none, Option.getD_some, Option.getD_none, Option.map_some, Option.map_none, Option.bind_some, L.fr.injEq, D.bl.injEq, D.int.injEq, D.str.injEq, D.ty.injEq, exists_eq_left, exists_eq_left', exists_eq_right, true_and, and_true, false_and, and_false, false_or, or_false, true_or, or_true, reduceIte, if_true, if_false, Bool.not_true, Bool.not_false, Bool.true_and, Bool.and_true, Bool.false_and, Bool.and_false, Bool.or_true, Bool.true_or, Bool.or_false, Bool.false_or, Bool.false_eq_true, Bool.true_eq_false, Bool.not_eq_true, decide_eq_true_eq, decide_eq_false_iff_not, decide_true, decide_false, Bool.not_eq_eq_eq_not, List.mem_cons, List.not_mem_nil, ne_eq, not_true_eq_false, not_false_eq_true, reduceCtorEq, Nat.sub_zero, Nat.add_zero, Nat.zero_add, entry, entryL, outs, slotL, knownTy, isB, D.tyn, D.isNon, D.flat, D.feq, D.scalar, sizeLine_eq, Int.cast_ofNat_Int, Nat.reduceAdd, Nat.reduceSub, Nat.reduceMul, Nat.reduceLeDiff, Nat.reduceEqDiff, Nat.reducePow, Nat.reduceLT, Int.reduceLE, Int.reduceLT, Int.reduceNe, Int.reduceEq, Int.reduceAdd, Int.reduceSub, Int.reduceMul, Int.reduceNeg, Int.reduceToNat, Int.reducePow, String.reduceEq, String.reduceBEq, String.reduceBNe, Int.reduceFMod, Int.reduceFDiv, Int.reduceNegSucc, Int.reduceAbs, beq_self_eq_true, t_law_bag]
  refine forD_ix' (I := fun _ e => ∃ (m : Int) (o : Option L), 0 ≤ m ∧ m < 2147483629 ∧ e = [some (.fr (.ro (ns.map D.int))), some (.fr (.int m)), o]) ⟨_, _, by decide, by decide, rfl⟩ ?_ ?_
  · rintro i d env hd ⟨m, o, h0, h1, rfl⟩ N hN
    rw [cutD_map, List.getElem?_map] at hd
    obtain ⟨x, _, rfl⟩ := Option.map_eq_some_iff.mp hd
    simp (maxSteps := 4000000) only [r_ofStr, r_ofStrB, r_consN, r_consK, r_set0, r_setS, r_isSl0, r_isSlS, r_take0, r_takeS, r_dTake, r_peek0, r_peekS, r_dVar0, r_dVarS, r_seqK, r_seq, r_next, r_exprK, r_expr, r_ret, r_retN, r_ifK, r_if, r_dsSet, r_gName, r_asgK, r_asg, r_gTup, r_gsK, r_gsCons, r_gsNil, r_gStar, r_put0, r_put1, r_put2, r_put3, r_put4, r_boxK, r_gIx, r_gix0, r_gixS, r_setK2, r_parK, r_par, r_augK3, r_augK2, r_augK, r_aug, r_dC, r_opK3, r_opK2, r_opK, r_op, r_bK, r_dB, r_chK4, r_chK2, r_chK1, r_chain, r_andK, r_and, r_orK, r_or, r_notK, r_not, r_andVK, r_andV, r_orVK, r_orV, r_notVK, r_notV, r_difK, r_dIf, r_negK, r_neg, r_aNil, r_acK2, r_acK, r_aCons, r_aoK, r_aOwn, r_borK2, r_borK, r_aBor, r_lstK, r_lst, r_tupK, r_tup, r_retK, r_callK, r_call, r_res0, r_resN, r_resS, r_tmpK, r_tmp, r_frzN, r_frz0, r_frz1, r_at0, r_at1, r_at2, r_at3, r_frK, r_atF0, r_atF1, r_atF2, r_atF3, r_atF4, r_ixTup, r_ixRo, r_ixLst, r_ixStr, r_ixvF, r_ixvB, r_ixvK, r_ixV, r_isBx0, r_isBxS, r_mtK3, r_mtK2, r_mtK, r_mt, r_append, r_reverse, r_pop, r_slK3, r_slK2, r_slK, r_sl, r_oNone, r_osK, r_oSome, r_slLst, r_slRo, r_slTup, r_slStr, r_sqK2, r_sqK, r_iSeq, r_tqK2, r_tqK, r_iTup, r_rg1K, r_iRange1, r_rg2K, r_iRange2, r_forK, r_for, r_bodyK, r_cpEnd, r_cpK, r_comp, r_wipe0, r_wipeS, r_yes, r_cmK3, r_cmK2, r_cmK, r_cmN, r_compC, r_compN, r_endN, r_endR, r_ends, r_outOk0, r_outOkS, r_addI, r_addS, r_addL, r_addT, r_iaddI, r_iaddS, r_sub, r_mulI, r_mod, r_fdiv, r_pow, r_cmpI, r_eqI, r_eqS, r_eqB, r_eqT, r_eqL, r_neI, r_neS, r_neB, r_neT, r_neL, r_isN, r_notN, r_inT, r_inR, r_inL, r_inS, r_notIn, r_c1K, r_con1, r_con2, r_con1F, r_lenL, r_lenT, r_lenR, r_lenS, r_isi1, r_isi2, r_listL, r_listR, r_listT, r_tupleT, r_tupleL, r_intI, r_intB, r_absI, r_bools, r_ints, r_toD, r_toDb, r_toDsN, r_toDsC, r_toDsF, List.getElem?_cons_zero, List.getElem?_cons_succ, List.getElem?_nil, List.set_cons_zero, List.set_cons_succ, List.map_cons, List.map_nil, List.cons_append, List.nil_append, List.append_nil, List.length_cons, List.length_nil, List.length_map, List.length_append, List.replicate_succ, List.replicate_zero, List.all_cons, List.all_nil, List.any_cons, List.any_nil, List.drop_succ_cons, List.drop_zero, List.take_succ_cons, List.take_zero, List.reverse_cons, List.reverse_nil, Option.some.injEq, Option.isSome_some, Option.isSome_none, Option.getD_some, Option.getD_none, Option.map_some, Option.map_none, Option.bind_some, L.fr.injEq, D.bl.injEq, D.int.injEq, D.str.injEq, D.ty.injEq, exists_eq_left, exists_eq_left', exists_eq_right, true_and, and_true, false_and, and_false, false_or, or_false, true_or, or_true, reduceIte, if_true, if_false, Bool.not_true, Bool.not_false, Bool.true_and, Bool.and_true, Bool.false_and, Bool.and_false, Bool.or_true, Bool.true_or, Bool.or_false, Bool.false_or, Bool.false_eq_true, Bool.true_eq_false, Bool.not_eq_true, decide_eq_true_eq, decide_eq_false_iff_not, decide_true, decide_false, Bool.not_eq_eq_eq_not, List.mem_cons, List.not_mem_nil, ne_eq, not_true_eq_false, not_false_eq_true, reduceCtorEq, Nat.sub_zero, Nat.add_zero, Nat.zero_add, entry, entryL, outs, slotL, knownTy, isB, D.tyn, D.isNon, D.flat, D.feq, D.scalar, sizeLine_eq, Int.cast_ofNat_Int, Nat.reduceAdd, Nat.reduceSub, Nat.reduceMul, Nat.reduceLeDiff, Nat.reduceEqDiff, Nat.reducePow, Nat.reduceLT, Int.reduceLE, Int.reduceLT, Int.reduceNe, Int.reduceEq, Int.reduceAdd, Int.reduceSub, Int.reduceMul, Int.reduceNeg, Int.reduceToNat, Int.reducePow, String.reduceEq, String.reduceBEq, String.reduceBNe, Int.reduceFMod, Int.reduceFDiv, Int.reduceNegSucc, Int.reduceAbs, beq_self_eq_true, t_law_bag_b1]
    exact ⟨.of_right (by decide), hN _ ⟨_, _, fmod_nn _ (by decide), fmod_lt _ (by decide), rfl⟩⟩
  · rintro e ⟨m, o, h0, h1, rfl⟩
    simp (maxSteps := 4000000) only [r_ofStr, r_ofStrB, r_consN, r_consK, r_set0, r_setS, r_isSl0, r_isSlS, r_take0, r_takeS, r_dTake, r_peek0, r_peekS, r_dVar0, r_dVarS, r_seqK, r_seq, r_next, r_exprK, r_expr, r_ret, r_retN, r_ifK, r_if, r_dsSet, r_gName, r_asgK, r_asg, r_gTup, r_gsK, r_gsCons, r_gsNil, r_gStar, r_put0, r_put1, r_put2, r_put3, r_put4, r_boxK, r_gIx, r_gix0, r_gixS, r_setK2, r_parK, r_par, r_augK3, r_augK2, r_augK, r_aug, r_dC, r_opK3, r_opK2, r_opK, r_op, r_bK, r_dB, r_chK4, r_chK2, r_chK1, r_chain, r_andK, r_and, r_orK, r_or, r_notK, r_not, r_andVK, r_andV, r_orVK, r_orV, r_notVK, r_notV, r_difK, r_dIf, r_negK, r_neg, r_aNil, r_acK2, r_acK, r_aCons, r_aoK, r_aOwn, r_borK2, r_borK, r_aBor, r_lstK, r_lst, r_tupK, r_tup, r_retK, r_callK, r_call, r_res0, r_resN, r_resS, r_tmpK, r_tmp, r_frzN, r_frz0, r_frz1, r_at0, r_at1, r_at2, r_at3, r_frK, r_atF0, r_atF1, r_atF2, r_atF3, r_atF4, r_ixTup, r_ixRo, r_ixLst, r_ixStr, r_ixvF, r_ixvB, r_ixvK, r_ixV, r_isBx0, r_isBxS, r_mtK3, r_mtK2, r_mtK, r_mt, r_append, r_reverse, r_pop, r_slK3, r_slK2, r_slK, r_sl, r_oNone, r_osK, r_oSome, r_slLst, r_slRo, r_slTup, r_slStr, r_sqK2, r_sqK, r_iSeq, r_tqK2, r_tqK, r_iTup, r_rg1K, r_iRange1, r_rg2K, r_iRange2, r_forK, r_for, r_bodyK, r_cpEnd, r_cpK, r_comp, r_wipe0, r_wipeS, r_yes, r_cmK3, r_cmK2, r_cmK, r_cmN, r_compC, r_compN, r_endN, r_endR, r_ends, r_outOk0, r_outOkS, r_addI, r_addS, r_addL, r_addT, r_iaddI, r_iaddS, r_sub, r_mulI, r_mod, r_fdiv, r_pow, r_cmpI, r_eqI, r_eqS, r_eqB, r_eqT, r_eqL, r_neI, r_neS, r_neB, r_neT, r_neL, r_isN, r_notN, r_inT, r_inR, r_inL, r_inS, r_notIn, r_c1K, r_con1, r_con2, r_con1F, r_lenL, r_lenT, r_lenR, r_lenS, r_isi1, r_isi2, r_listL, r_listR, r_listT, r_tupleT, r_tupleL, r_intI, r_intB, r_absI, r_bools, r_ints, r_toD, r_toDb, r_toDsN, r_toDsC, r_toDsF, List.getElem?_cons_zero, List.getElem?_cons_succ, List.getElem?_nil, List.set_cons_zero, List.set_cons_succ, List.map_cons, List.map_nil, List.cons_append, List.nil_append, List.append_nil, List.length_cons, List.length_nil, List.length_map, List.length_append, List.replicate_succ, List.replicate_zero, List.all_cons, List.all_nil, List.any_cons, List.any_nil, List.drop_succ_cons, List.drop_zero, List.take_succ_cons, List.take_zero, List.reverse_cons, List.reverse_nil, Option.some.injEq, Option.isSome_some, Option.isSome_none, Option.getD_some, Option.getD_none, Option.map_some, Option.map_none, Option.bind_some, L.fr.injEq, D.bl.injEq, D.int.injEq, D.str.injEq, D.ty.injEq, exists_eq_left, exists_eq_left', exists_eq_right, true_and, and_true, false_and, and_false, false_or, or_false, true_or, or_true, reduceIte, if_true, if_false, Bool.not_true, Bool.not_false, Bool.true_and, Bool.and_true, Bool.false_and, Bool.and_false, Bool.or_true, Bool.true_or, Bool.or_false, Bool.false_or, Bool.false_eq_true, Bool.true_eq_false, Bool.not_eq_true, decide_eq_true_eq, decide_eq_false_iff_not, decide_true, decide_false, Bool.not_eq_eq_eq_not, List.mem_cons, List.not_mem_nil, ne_eq, not_true_eq_false, not_false_eq_true, reduceCtorEq, Nat.sub_zero, Nat.add_zero, Nat.zero_add, entry, entryL, outs, slotL, knownTy, isB, D.tyn, D.isNon, D.flat, D.feq, D.scalar, sizeLine_eq, Int.cast_ofNat_Int, Nat.reduceAdd, Nat.reduceSub, Nat.reduceMul, Nat.reduceLeDiff, Nat.reduceEqDiff, Nat.reducePow, Nat.reduceLT, Int.reduceLE, Int.reduceLT, Int.reduceNe, Int.reduceEq, Int.reduceAdd, Int.reduceSub, Int.reduceMul, Int.reduceNeg, Int.reduceToNat, Int.reducePow, String.reduceEq, String.reduceBEq, String.reduceBNe, Int.reduceFMod, Int.reduceFDiv, Int.reduceNegSucc, Int.reduceAbs, beq_self_eq_true]
    refine h _ _ ⟨TL.cutD ns none (some 63), 0, 0, m, 0, ?_, by decide, by decide, h0, h1⟩
    rw [cutD_map]
theorem v_pull_s1 {xs : List Int} {pos held mix cnt z : Int} (h0 : 0 ≤ pos) (h1 : 0 ≤ held) (h2 : 0 ≤ mix) (h3 : mix < 2147483629) (De : DEnds)
    (h : ∀ b o1 o2, IsBag b → De.nx [some b, some (.fr (.int z)), o1, o2, none]) :
    t_law_pull_s1 De [some (.box .lst [.fr (.box .lst (xs.map D.int)), .fr (.int pos), .fr (.int held), .fr (.int mix), .fr (.int cnt)]), some (.fr (.int z)), none, none, none] := by
  obtain ⟨n, r, bk, ct⟩ := De
  have h : ∀ b o1 o2, IsBag b → n [some b, some (.fr (.int z)), o1, o2, none] := h
  simp (maxSteps := 4000000) only [r_ofStr, r_ofStrB, r_consN, r_consK, r_set0, r_setS, r_isSl0, r_isSlS, r_take0, r_takeS, r_dTake, r_peek0, r_peekS, r_dVar0, r_dVarS, r_seqK, r_seq, r_next, r_exprK, r_expr, r_ret, r_retN, r_ifK, r_if, r_dsSet, r_gName, r_asgK, r_asg, r_gTup, r_gsK, r_gsCons, r_gsNil, r_gStar, r_put0, r_put1, r_put2, r_put3, r_put4, r_boxK, r_gIx, r_gix0, r_gixS, r_setK2, r_parK, r_par, r_augK3, r_augK2, r_augK, r_aug, r_dC, r_opK3, r_opK2, r_opK, r_op, r_bK, r_dB, r_chK4, r_chK2, r_chK1, r_chain, r_andK, r_and, r_orK, r_or, r_notK, r_not, r_andVK, r_andV, r_orVK, r_orV, r_notVK, r_notV, r_difK, r_dIf, r_negK, r_neg, r_aNil, r_acK2, r_acK, r_aCons, r_aoK, r_aOwn, r_borK2, r_borK, r_aBor, r_lstK, r_lst, r_tupK, r_tup, r_retK, r_callK, r_call, r_res0, r_resN, r_resS, r_tmpK, r_tmp, r_frzN, r_frz0, r_frz1, r_at0, r_at1, r_at2, r_at3, r_frK, r_atF0, r_atF1, r_atF2, r_atF3, r_atF4, r_ixTup, r_ixRo, r_ixLst, r_ixStr, r_ixvF, r_ixvB, r_ixvK, r_ixV, r_isBx0, r_isBxS, r_mtK3, r_mtK2, r_mtK, r_mt, r_append, r_reverse, r_pop, r_slK3, r_slK2, r_slK, r_sl, r_oNone, r_osK, r_oSome, r_slLst, r_slRo, r_slTup, r_slStr, r_sqK2, r_sqK, r_iSeq, r_tqK2, r_tqK, r_iTup, r_rg1K, r_iRange1, r_rg2K, r_iRange2, r_forK, r_for, r_bodyK, r_cpEnd, r_cpK, r_comp, r_wipe0, r_wipeS, r_yes, r_cmK3, r_cmK2, r_cmK, r_cmN, r_compC, r_compN, r_endN, r_endR, r_ends, r_outOk0, r_outOkS, r_addI, r_addS, r_addL, r_addT, r_iaddI, r_iaddS, r_sub, r_mulI, r_mod, r_fdiv, r_pow, r_cmpI, r_eqI, r_eqS, r_eqB, r_eqT, r_eqL, r_neI, r_neS, r_neB, r_neT, r_neL, r_isN, r_notN, r_inT, r_inR, r_inL, r_inS, r_notIn, r_c1K, r_con1, r_con2, r_con1F, r_lenL, r_lenT, r_lenR, r_lenS, r_isi1, r_isi2, r_listL, r_listR, r_listT, r_tupleT, r_tupleL, r_intI, r_intB, r_absI, r_bools, r_ints, r_toD, r_toDb, r_toDsN, r_toDsC, r_toDsF, List.getElem?_cons_zero, List.getElem?_cons_succ, List.getElem?_nil, List.set_cons_zero, List.set_cons_succ, List.map_cons, List.map_nil, List.cons_append, List.nil_append, List.append_nil, List.length_cons, List.length_nil, List.length_map, List.length_append, List.replicate_succ, List.replicate_zero, List.all_cons, List.all_nil, List.any_cons, List.any_nil, List.drop_succ_cons, List.drop_zero, List.take_succ_cons, List.take_zero, List.reverse_cons, List.reverse_nil, Option.some.injEq, Option.isSome_some, Option.isSome_none, Option.getD_some, Option.getD_none, Option.map_some, Option.map_none, Option.bind_some, L.fr.injEq, D.bl.injEq, D.int.injEq, D.str.injEq, D.ty.injEq, exists_eq_left, exists_eq_left', exists_eq_right, true_and, and_true, false_and, and_false, false_or, or_false, true_or, or_true, reduceIte, if_true, if_false, Bool.not_true, Bool.not_false, Bool.true_and, Bool.and_true, Bool.false_and, Bool.and_false, Bool.or_true, Bool.true_or, Bool.or_false, Bool.false_or, Bool.false_eq_true, Bool.true_eq_false, Bool.not_eq_true, decide_eq_true_eq, decide_eq_false_iff_not, decide_true, decide_false, Bool.not_eq_eq_eq_not, List.mem_cons, List.not_mem_nil, ne_eq, not_true_eq_false, not_false_eq_true, reduceCtorEq, Nat.sub_zero, Nat.add_zero, Nat.zero_add, entry, entryL, outs, slotL, knownTy, isB, D.tyn, D.isNon, D.flat, D.feq, D.scalar, sizeLine_eq, Int.cast_ofNat_Int, Nat.reduceAdd, Nat.reduceSub, Nat.reduceMul, Nat.reduceLeDiff, Nat.reduceEqDiff, Nat.reducePow, Nat.reduceLT, Int.reduceLE, Int.reduceLT, Int.reduceNe, Int.reduceEq, Int.reduceAdd, Int.reduceSub, Int.reduceMul, Int.reduceNeg, Int.reduceToNat, Int.reducePow, String.reduceEq, String.reduceBEq, String.reduceBNe, Int.reduceFMod, Int.reduceFDiv, Int.reduceNegSucc, Int.reduceAbs, beq_self_eq_true, t_law_pull_s1]
  have same := h _ none none ⟨xs, pos, held, mix, cnt, rfl, h0, h1, h2, h3⟩
  split
  · split
    · rename_i e1 e2
      refine atK_ints h0 e2 fun x => ?_
      simp (maxSteps := 4000000) only [r_ofStr, r_ofStrB, r_consN, r_consK, r_set0, r_setS, r_isSl0, r_isSlS, r_take0, r_takeS, r_dTake, r_peek0, r_peekS, r_dVar0, r_dVarS, r_seqK, r_seq, r_next, r_exprK, r_expr, r_ret, r_retN, r_ifK, r_if, r_dsSet, r_gName, r_asgK, r_asg, r_gTup, r_gsK, r_gsCons, r_gsNil, r_gStar, r_put0, r_put1, r_put2, r_put3, r_put4, r_boxK, r_gIx, r_gix0, r_gixS, r_setK2, r_parK, r_par, r_augK3, r_augK2, r_augK, r_aug, r_dC, r_opK3, r_opK2, r_opK, r_op, r_bK, r_dB, r_chK4, r_chK2, r_chK1, r_chain, r_andK, r_and, r_orK, r_or, r_notK, r_not, r_andVK, r_andV, r_orVK, r_orV, r_notVK, r_notV, r_difK, r_dIf, r_negK, r_neg, r_aNil, r_acK2, r_acK, r_aCons, r_aoK, r_aOwn, r_borK2, r_borK, r_aBor, r_lstK, r_lst, r_tupK, r_tup, r_retK, r_callK, r_call, r_res0, r_resN, r_resS, r_tmpK, r_tmp, r_frzN, r_frz0, r_frz1, r_at0, r_at1, r_at2, r_at3, r_frK, r_atF0, r_atF1, r_atF2, r_atF3, r_atF4, r_ixTup, r_ixRo, r_ixLst, r_ixStr, r_ixvF, r_ixvB, r_ixvK, r_ixV, r_isBx0, r_isBxS, r_mtK3, r_mtK2, r_mtK, r_mt, r_append, r_reverse, r_pop, r_slK3, r_slK2, r_slK, r_sl, r_oNone, r_osK, r_oSome, r_slLst, r_slRo, r_slTup, r_slStr, r_sqK2, r_sqK, r_iSeq, r_tqK2, r_tqK, r_iTup, r_rg1K, r_iRange1, r_rg2K, r_iRange2, r_forK, r_for, r_bodyK, r_cpEnd, r_cpK, r_comp, r_wipe0, r_wipeS, r_yes, r_cmK3, r_cmK2, r_cmK, r_cmN, r_compC, r_compN, r_endN, r_endR, r_ends, r_outOk0, r_outOkS, r_addI, r_addS, r_addL, r_addT, r_iaddI, r_iaddS, r_sub, r_mulI, r_mod, r_fdiv, r_pow, r_cmpI, r_eqI, r_eqS, r_eqB, r_eqT, r_eqL, r_neI, r_neS, r_neB, r_neT, r_neL, r_isN, r_notN, r_inT, r_inR, r_inL, r_inS, r_notIn, r_c1K, r_con1, r_con2, r_con1F, r_lenL, r_lenT, r_lenR, r_lenS, r_isi1, r_isi2, r_listL, r_listR, r_listT, r_tupleT, r_tupleL, r_intI, r_intB, r_absI, r_bools, r_ints, r_toD, r_toDb, r_toDsN, r_toDsC, r_toDsF, List.getElem?_cons_zero, List.getElem?_cons_succ, List.getElem?_nil, List.set_cons_zero, List.set_cons_succ, List.map_cons, List.map_nil, List.cons_append, List.nil_append, List.append_nil, List.length_cons, List.length_nil, List.length_map, List.length_append, List.replicate_succ, List.replicate_zero, List.all_cons, List.all_nil, List.any_cons, List.any_nil, List.drop_succ_cons, List.drop_zero, List.take_succ_cons, List.take_zero, List.reverse_cons, List.reverse_nil, Option.some.injEq, Option.isSome_some, Option.isSome_none, Option.getD_some, Option.getD_none, Option.map_some, Option.map_none, Option.bind_some, L.fr.injEq, D.bl.injEq, D.int.injEq, D.str.injEq, D.ty.injEq, exists_eq_left, exists_eq_left', exists_eq_right, true_and, and_true, false_and, and_false, false_or, or_false, true_or, or_true, reduceIte, if_true, if_false, Bool.not_true, Bool.not_false, Bool.true_and, Bool.and_true, Bool.false_and, Bool.and_false, Bool.or_true, Bool.true_or, Bool.or_false, Bool.false_or, Bool.false_eq_true, Bool.true_eq_false, Bool.not_eq_true, decide_eq_true_eq, decide_eq_false_iff_not, decide_true, decide_false, Bool.not_eq_eq_eq_not, List.mem_cons, List.not_mem_nil, ne_eq, not_true_eq_false, not_false_eq_true, reduceCtorEq, Nat.sub_zero, Nat.add_zero, Nat.zero_add, entry, entryL, outs, slotL, knownTy, isB, D.tyn, D.isNon, D.flat, D.feq, D.scalar, sizeLine_eq, Int.cast_ofNat_Int, Nat.reduceAdd, Nat.reduceSub, Nat.reduceMul, Nat.reduceLeDiff, Nat.reduceEqDiff, Nat.reducePow, Nat.reduceLT, Int.reduceLE, Int.reduceLT, Int.reduceNe, Int.reduceEq, Int.reduceAdd, Int.reduceSub, Int.reduceMul, Int.reduceNeg, Int.reduceToNat, Int.reducePow, String.reduceEq, String.reduceBEq, String.reduceBNe, Int.reduceFMod, Int.reduceFDiv, Int.reduceNegSucc, Int.reduceAbs, beq_self_eq_true]
      split
      · exact h _ _ _ ⟨xs, pos + 1, x, mix, cnt, rfl, by omega, by omega, h2, h3⟩
      · exact ⟨.of_right (by decide), .of_right (by decide), h _ _ _ ⟨xs, pos + 1, held, _, cnt, rfl, by omega, h1, fmod_nn _ (by decide), fmod_lt _ (by decide)⟩⟩
    · exact same
  · exact same
theorem v_pull : ∀ ls kk kx, cPull ls kk kx → t_law_pull (endsOf [0] ls kk) (entry [0] 5 ls) := by
  intro ls kk kx h
  unfold cPull at h
  split at h
  · rename_i b z
    obtain ⟨⟨xs, pos, held, mix, cnt, rfl, h0, h1, h2, h3⟩, ⟨z0, z1⟩, h⟩ := h
    simp (maxSteps := 4000000) only [r_ofStr, r_ofStrB, r_consN, r_consK, r_set0, r_setS, r_isSl0, r_isSlS, r_take0, r_takeS, r_dTake, r_peek0, r_peekS, r_dVar0, r_dVarS, r_seqK, r_seq, r_next, r_exprK, r_expr, r_ret, r_retN, r_ifK, r_if, r_dsSet, r_gName, r_asgK, r_asg, r_gTup, r_gsK, r_gsCons, r_gsNil, r_gStar, r_put0, r_put1, r_put2, r_put3, r_put4, r_boxK, r_gIx, r_gix0, r_gixS, r_setK2, r_parK, r_par, r_augK3, r_augK2, r_augK, r_aug, r_dC, r_opK3, r_opK2, r_opK, r_op, r_bK, r_dB, r_chK4, r_chK2, r_chK1, r_chain, r_andK, r_and, r_orK, r_or, r_notK, r_not, r_andVK, r_andV, r_orVK, r_orV, r_notVK, r_notV, r_difK, r_dIf, r_negK, r_neg, r_aNil, r_acK2, r_acK, r_aCons, r_aoK, r_aOwn, r_borK2, r_borK, r_aBor, r_lstK, r_lst, r_tupK, r_tup, r_retK, r_callK, r_call, r_res0, r_resN, r_resS, r_tmpK, r_tmp, r_frzN, r_frz0, r_frz1, r_at0, r_at1, r_at2, r_at3, r_frK, r_atF0, r_atF1, r_atF2, r_atF3, r_atF4, r_ixTup, r_ixRo, r_ixLst, r_ixStr, r_ixvF, r_ixvB, r_ixvK, r_ixV, r_isBx0, r_isBxS, r_mtK3, r_mtK2, r_mtK, r_mt, r_append, r_reverse, r_pop, r_slK3, r_slK2, r_slK, r_sl, r_oNone, r_osK, r_oSome, r_slLst, r_slRo, r_slTup, r_slStr, r_sqK2, r_sqK, r_iSeq, r_tqK2, r_tqK, r_iTup, r_rg1K, r_iRange1, r_rg2K, r_iRange2, r_forK, r_for, r_bodyK, r_cpEnd, r_cpK, r_comp, r_wipe0, r_wipeS, r_yes, r_cmK3, r_cmK2, r_cmK, r_cmN, r_compC, r_compN, r_endN, r_endR, r_ends, r_outOk0, r_outOkS, r_addI, r_addS, r_addL, r_addT, r_iaddI, r_iaddS, r_sub, r_mulI, r_mod, r_fdiv, r_pow, r_cmpI, r_eqI, r_eqS, r_eqB, r_eqT, r_eqL, r_neI, r_neS, r_neB, r_neT, r_neL, r_isN, r_notN, r_inT, r_inR, r_inL, r_inS, r_notIn, r_c1K, r_con1, r_con2, r_con1F, r_lenL, r_lenT, r_lenR, r_lenS, r_isi1, r_isi2, r_listL, r_listR, r_listT, r_tupleT, r_tupleL, r_intI, r_intB, r_absI, r_bools, r_ints, r_toD, r_toDb, r_toDsN, r_toDsC, r_toDsF, List.getElem?_cons_zero, List.getElem?_cons_succ, List.getElem?_nil, List.set_cons_zero, List.set_cons_succ, List.map_cons, List.map_nil, List.cons_append, List.nil_append, List.append_nil, List.length_cons, List.length_nil, List.length_map, List.length_append, List.replicate_succ, List.replicate_zero, List.all_cons, List.all_nil, List.any_cons, List.any_nil, List.drop_succ_cons, List.drop_zero, List.take_succ_cons, List.take_zero, List.reverse_cons, List.reverse_nil, Option.some.injEq, Option.isSome_some, Option.isSome_none, Option.getD_some, Option.getD_none, Option.map_some, Option.map_none, Option.bind_some, L.fr.injEq, D.bl.injEq, D.int.injEq, D.str.injEq, D.ty.injEq, exists_eq_left, exists_eq_left', exists_eq_right, true_and, and_true, false_and, and_false, false_or, or_false, true_or, or_true, reduceIte, if_true, if_false, Bool.not_true, Bool.not_false, Bool.true_and, Bool.and_true, Bool.false_and, Bool.and_false, Bool.or_true, Bool.true_or, Bool.or_false, Bool.false_or, Bool.false_eq_true, Bool.true_eq_false, Bool.not_eq_true, decide_eq_true_eq, decide_eq_false_iff_not, decide_true, decide_false, Bool.not_eq_eq_eq_not, List.mem_cons, List.not_mem_nil, ne_eq, not_true_eq_false, not_false_eq_true, reduceCtorEq, Nat.sub_zero, Nat.add_zero, Nat.zero_add, entry, entryL, outs, slotL, knownTy, isB, D.tyn, D.isNon, D.flat, D.feq, D.scalar, sizeLine_eq, Int.cast_ofNat_Int, Nat.reduceAdd, Nat.reduceSub, Nat.reduceMul, Nat.reduceLeDiff, Nat.reduceEqDiff, Nat.reducePow, Nat.reduceLT, Int.reduceLE, Int.reduceLT, Int.reduceNe, Int.reduceEq, Int.reduceAdd, Int.reduceSub, Int.reduceMul, Int.reduceNeg, Int.reduceToNat, Int.reducePow, String.reduceEq, String.reduceBEq, String.reduceBNe, Int.reduceFMod, Int.reduceFDiv, Int.reduceNegSucc, Int.reduceAbs, beq_self_eq_true, t_law_pull]
    refine v_pull_s1 h0 h1 h2 h3 _ fun b o1 o2 hb => ?_
    obtain ⟨xs, pos, held, mix, cnt, rfl, h0, h1, h2, h3⟩ := hb
    simp (maxSteps := 4000000) only [r_ofStr, r_ofStrB, r_consN, r_consK, r_set0, r_setS, r_isSl0, r_isSlS, r_take0, r_takeS, r_dTake, r_peek0, r_peekS, r_dVar0, r_dVarS, r_seqK, r_seq, r_next, r_exprK, r_expr, r_ret, r_retN, r_ifK, r_if, r_dsSet, r_gName, r_asgK, r_asg, r_gTup, r_gsK, r_gsCons, r_gsNil, r_gStar, r_put0, r_put1, r_put2, r_put3, r_put4, r_boxK, r_gIx, r_gix0, r_gixS, r_setK2, r_parK, r_par, r_augK3, r_augK2, r_augK, r_aug, r_dC, r_opK3, r_opK2, r_opK, r_op, r_bK, r_dB, r_chK4, r_chK2, r_chK1, r_chain, r_andK, r_and, r_orK, r_or, r_notK, r_not, r_andVK, r_andV, r_orVK, r_orV, r_notVK, r_notV, r_difK, r_dIf, r_negK, r_neg, r_aNil, r_acK2, r_acK, r_aCons, r_aoK, r_aOwn, r_borK2, r_borK, r_aBor, r_lstK, r_lst, r_tupK, r_tup, r_retK, r_callK, r_call, r_res0, r_resN, r_resS, r_tmpK, r_tmp, r_frzN, r_frz0, r_frz1, r_at0, r_at1, r_at2, r_at3, r_frK, r_atF0, r_atF1, r_atF2, r_atF3, r_atF4, r_ixTup, r_ixRo, r_ixLst, r_ixStr, r_ixvF, r_ixvB, r_ixvK, r_ixV, r_isBx0, r_isBxS, r_mtK3, r_mtK2, r_mtK, r_mt, r_append, r_reverse, r_pop, r_slK3, r_slK2, r_slK, r_sl, r_oNone, r_osK, r_oSome, r_slLst, r_slRo, r_slTup, r_slStr, r_sqK2, r_sqK, r_iSeq, r_tqK2, r_tqK, r_iTup, r_rg1K, r_iRange1, r_rg2K, r_iRange2, r_forK, r_for, r_bodyK, r_cpEnd, r_cpK, r_comp, r_wipe0, r_wipeS, r_yes, r_cmK3, r_cmK2, r_cmK, r_cmN, r_compC, r_compN, r_endN, r_endR, r_ends, r_outOk0, r_outOkS, r_addI, r_addS, r_addL, r_addT, r_iaddI, r_iaddS, r_sub, r_mulI, r_mod, r_fdiv, r_pow, r_cmpI, r_eqI, r_eqS, r_eqB, r_eqT, r_eqL, r_neI, r_neS, r_neB, r_neT, r_neL, r_isN, r_notN, r_inT, r_inR, r_inL, r_inS, r_notIn, r_c1K, r_con1, r_con2, r_con1F, r_lenL, r_lenT, r_lenR, r_lenS, r_isi1, r_isi2, r_listL, r_listR, r_listT, r_tupleT, r_tupleL, r_intI, r_intB, r_absI, r_bools, r_ints, r_toD, r_toDb, r_toDsN, r_toDsC, r_toDsF, List.getElem?_cons_zero, List.getElem?_cons_succ, List.getElem?_nil, List.set_cons_zero, List.set_cons_succ, List.map_cons, List.map_nil, List.cons_append, List.nil_append, List.append_nil, List.length_cons, List.length_nil, List.length_map, List.length_append, List.replicate_succ, List.replicate_zero, List.all_cons, List.all_nil, List.any_cons, List.any_nil, List.drop_succ_cons, List.drop_zero, List.take_succ_cons, List.take_zero, List.reverse_cons, List.reverse_nil, Option.some.injEq, Option.isSome_some, Option.isSome_none, Option.getD_some, Option.getD_none, Option.map_some, Option.map_none, Option.bind_some, L.fr.injEq, D.bl.injEq, D.int.injEq, D.str.injEq, D.ty.injEq, exists_eq_left, exists_eq_left', exists_eq_right, true_and, and_true, false_and, and_false, false_or, or_false, true_or, or_true, reduceIte, if_true, if_false, Bool.not_true, Bool.not_false, Bool.true_and, Bool.and_true, Bool.false_and, Bool.and_false, Bool.or_true, Bool.true_or, Bool.or_false, Bool.false_or, Bool.false_eq_true, Bool.true_eq_false, Bool.not_eq_true, decide_eq_true_eq, decide_eq_false_iff_not, decide_true, decide_false, Bool.not_eq_eq_eq_not, List.mem_cons, List.not_mem_nil, ne_eq, not_true_eq_false, not_false_eq_true, reduceCtorEq, Nat.sub_zero, Nat.add_zero, Nat.zero_add, entry, entryL, outs, slotL, knownTy, isB, D.tyn, D.isNon, D.flat, D.feq, D.scalar, sizeLine_eq, Int.cast_ofNat_Int, Nat.reduceAdd, Nat.reduceSub, Nat.reduceMul, Nat.reduceLeDiff, Nat.reduceEqDiff, Nat.reducePow, Nat.reduceLT, Int.reduceLE, Int.reduceLT, Int.reduceNe, Int.reduceEq, Int.reduceAdd, Int.reduceSub, Int.reduceMul, Int.reduceNeg, Int.reduceToNat, Int.reducePow, String.reduceEq, String.reduceBEq, String.reduceBNe, Int.reduceFMod, Int.reduceFDiv, Int.reduceNegSucc, Int.reduceAbs, beq_self_eq_true]
    have dz : DivOk z := ⟨by omega, .inl (by omega)⟩
    split
    · exact ⟨by omega, dz, h _ _ _ ⟨xs, pos, _, mix, cnt, rfl, h0, fdiv_nn h1 z0, h2, h3⟩ (fmod_nn _ z0) (fmod_lt _ z0)⟩
    · refine ⟨.of_right (intBits_le_64 (by omega) (by omega)), .of_right (by decide), .of_right (by decide), .of_left (by decide), ⟨by decide, .inl (by decide)⟩, by omega, h _ _ _ ⟨xs, pos, held, _, cnt, rfl, h0, h1, fmod_nn _ (by decide), fmod_lt _ (by decide)⟩ (fmod_nn _ z0) (fmod_lt _ z0)⟩
  · exact h.elim
def MemD (d : D) (ds : List D) : Prop := d ∈ ds
def cOf : Con := fun args k _ => match args with
  | [b, .fr (.box .lst (.int x :: r))] => IsBag b ∧ r.length < 1000 ∧ (∀ d, MemD d r → ∃ i, d = .int i) ∧ ∀ x b' l', IsBag b' → k (.fr (.int x)) [b', l']
  | [b, .fr (.box .lst (.str x :: r))] => IsBag b ∧ r.length < 1000 ∧ (∀ d, MemD d r → ∃ i, d = .str i) ∧ ∀ y, MemD (.str y) (.str x :: r) → ∀ b' l', IsBag b' → k (.fr (.str y)) [b', l']
  | _ => False
theorem v_of : ∀ ls kk kx, cOf ls kk kx → t_law_of cPull (endsOf [0] ls kk) (entry [0] 2 ls) := by
  intro ls kk kx h
  unfold cOf at h
  split at h
  · rename_i b x r
    obtain ⟨hb, hl, hr, h⟩ := h
    simp (maxSteps := 4000000) only [r_ofStr, r_ofStrB, r_consN, r_consK, r_set0, r_setS, r_isSl0, r_isSlS, r_take0, r_takeS, r_dTake, r_peek0, r_peekS, r_dVar0, r_dVarS, r_seqK, r_seq, r_next, r_exprK, r_expr, r_ret, r_retN, r_ifK, r_if, r_dsSet, r_gName, r_asgK, r_asg, r_gTup, r_gsK, r_gsCons, r_gsNil, r_gStar, r_put0, r_put1, r_put2, r_put3, r_put4, r_boxK, r_gIx, r_gix0, r_gixS, r_setK2, r_parK, r_par, r_augK3, r_augK2, r_augK, r_aug, r_dC, r_opK3, r_opK2, r_opK, r_op, r_bK, r_dB, r_chK4, r_chK2, r_chK1, r_chain, r_andK, r_and, r_orK, r_or, r_notK, r_not, r_andVK, r_andV, r_orVK, r_orV, r_notVK, r_notV, r_difK, r_dIf, r_negK, r_neg, r_aNil, r_acK2, r_acK, r_aCons, r_aoK, r_aOwn, r_borK2, r_borK, r_aBor, r_lstK, r_lst, r_tupK, r_tup, r_retK, r_callK, r_call, r_res0, r_resN, r_resS, r_tmpK, r_tmp, r_frzN, r_frz0, r_frz1, r_at0, r_at1, r_at2, r_at3, r_frK, r_atF0, r_atF1, r_atF2, r_atF3, r_atF4, r_ixTup, r_ixRo, r_ixLst, r_ixStr, r_ixvF, r_ixvB, r_ixvK, r_ixV, r_isBx0, r_isBxS, r_mtK3, r_mtK2, r_mtK, r_mt, r_append, r_reverse, r_pop, r_slK3, r_slK2, r_slK, r_sl, r_oNone, r_osK, r_oSome, r_slLst, r_slRo, r_slTup, r_slStr, r_sqK2, r_sqK, r_iSeq, r_tqK2, r_tqK, r_iTup, r_rg1K, r_iRange1, r_rg2K, r_iRange2, r_forK, r_for, r_bodyK, r_cpEnd, r_cpK, r_comp, r_wipe0, r_wipeS, r_yes, r_cmK3, r_cmK2, r_cmK, r_cmN, r_compC, r_compN, r_endN, r_endR, r_ends, r_outOk0, r_outOkS, r_addI, r_addS, r_addL, r_addT, r_iaddI, r_iaddS, r_sub, r_mulI, r_mod, r_fdiv, r_pow, r_cmpI, r_eqI, r_eqS, r_eqB, r_eqT, r_eqL, r_neI, r_neS, r_neB, r_neT, r_neL, r_isN, r_notN, r_inT, r_inR, r_inL, r_inS, r_notIn, r_c1K, r_con1, r_con2, r_con1F, r_lenL, r_lenT, r_lenR, r_lenS, r_isi1, r_isi2, r_listL, r_listR, r_listT, r_tupleT, r_tupleL, r_intI, r_intB, r_absI, r_bools, r_ints, r_toD, r_toDb, r_toDsN, r_toDsC, r_toDsF, List.getElem?_cons_zero, List.getElem?_cons_succ, List.getElem?_nil, List.set_cons_zero, List.set_cons_succ, List.map_cons, List.map_nil, List.cons_append, List.nil_append, List.append_nil, List.length_cons, List.length_nil, List.length_map, List.length_append, List.replicate_succ, List.replicate_zero, List.all_cons, List.all_nil, List.any_cons, List.any_nil, List.drop_succ_cons, List.drop_zero, List.take_succ_cons, List.take_zero, List.reverse_cons, List.reverse_nil, Option.some.injEq, Option.isSome_some, Option.isSome_none, Option.getD_some, Option.getD_none, Option.map_some, Option.map_none, Option.bind_some, L.fr.injEq, D.bl.injEq, D.int.injEq, D.str.injEq, D.ty.injEq, exists_eq_left, exists_eq_left', exists_eq_right, true_and, and_true, false_and, and_false, false_or, or_false, true_or, or_true, reduceIte, if_true, if_false, Bool.not_true, Bool.not_false, Bool.true_and, Bool.and_true, Bool.false_and, Bool.and_false, Bool.or_true, Bool.true_or, Bool.or_false, Bool.false_or, Bool.false_eq_true, Bool.true_eq_false, Bool.not_eq_true, decide_eq_true_eq, decide_eq_false_iff_not, decide_true, decide_false, Bool.not_eq_eq_eq_not, List.mem_cons, List.not_mem_nil, ne_eq, not_true_eq_false, not_false_eq_true, reduceCtorEq, Nat.sub_zero, Nat.add_zero, Nat.zero_add, entry, entryL, outs, slotL, knownTy, isB, D.tyn, D.isNon, D.flat, D.feq, D.scalar, sizeLine_eq, Int.cast_ofNat_Int, Nat.reduceAdd, Nat.reduceSub, Nat.reduceMul, Nat.reduceLeDiff, Nat.reduceEqDiff, Nat.reducePow, Nat.reduceLT, Int.reduceLE, Int.reduceLT, Int.reduceNe, Int.reduceEq, Int.reduceAdd, Int.reduceSub, Int.reduceMul, Int.reduceNeg, Int.reduceToNat, Int.reducePow, String.reduceEq, String.reduceBEq, String.reduceBNe, Int.reduceFMod, Int.reduceFDiv, Int.reduceNegSucc, Int.reduceAbs, beq_self_eq_true, t_law_of, cPull]
    refine ⟨hb, by omega, fun y b' l' hb' h0 h1 => atK_of h0 (by simpa using h1) fun d hd => ?_⟩
    obtain ⟨i, rfl⟩ : ∃ i, d = .int i := by
      rcases List.mem_cons.mp hd with e | e
      · exact ⟨x, e⟩
      · exact hr _ e
    simp (maxSteps := 4000000) only [r_ofStr, r_ofStrB, r_consN, r_consK, r_set0, r_setS, r_isSl0, r_isSlS, r_take0, r_takeS, r_dTake, r_peek0, r_peekS, r_dVar0, r_dVarS, r_seqK, r_seq, r_next, r_exprK, r_expr, r_ret, r_retN, r_ifK, r_if, r_dsSet, r_gName, r_asgK, r_asg, r_gTup, r_gsK, r_gsCons, r_gsNil, r_gStar, r_put0, r_put1, r_put2, r_put3, r_put4, r_boxK, r_gIx, r_gix0, r_gixS, r_setK2, r_parK, r_par, r_augK3, r_augK2, r_augK, r_aug, r_dC, r_opK3, r_opK2, r_opK, r_op, r_bK, r_dB, r_chK4, r_chK2, r_chK1, r_chain, r_andK, r_and, r_orK, r_or, r_notK, r_not, r_andVK, r_andV, r_orVK, r_orV, r_notVK, r_notV, r_difK, r_dIf, r_negK, r_neg, r_aNil, r_acK2, r_acK, r_aCons, r_aoK, r_aOwn, r_borK2, r_borK, r_aBor, r_lstK, r_lst, r_tupK, r_tup, r_retK, r_callK, r_call, r_res0, r_resN, r_resS, r_tmpK, r_tmp, r_frzN, r_frz0, r_frz1, r_at0, r_at1, r_at2, r_at3, r_frK, r_atF0, r_atF1, r_atF2, r_atF3, r_atF4, r_ixTup, r_ixRo, r_ixLst, r_ixStr, r_ixvF, r_ixvB, r_ixvK, r_ixV, r_isBx0, r_isBxS, r_mtK3, r_mtK2, r_mtK, r_mt, r_append, r_reverse, r_pop, r_slK3, r_slK2, r_slK, r_sl, r_oNone, r_osK, r_oSome, r_slLst, r_slRo, r_slTup, r_slStr, r_sqK2, r_sqK, r_iSeq, r_tqK2, r_tqK, r_iTup, r_rg1K, r_iRange1, r_rg2K, r_iRange2, r_forK, r_for, r_bodyK, r_cpEnd, r_cpK, r_comp, r_wipe0, r_wipeS, r_yes, r_cmK3, r_cmK2, r_cmK, r_cmN, r_compC, r_compN, r_endN, r_endR, r_ends, r_outOk0, r_outOkS, r_addI, r_addS, r_addL, r_addT, r_iaddI, r_iaddS, r_sub, r_mulI, r_mod, r_fdiv, r_pow, r_cmpI, r_eqI, r_eqS, r_eqB, r_eqT, r_eqL, r_neI, r_neS, r_neB, r_neT, r_neL, r_isN, r_notN, r_inT, r_inR, r_inL, r_inS, r_notIn, r_c1K, r_con1, r_con2, r_con1F, r_lenL, r_lenT, r_lenR, r_lenS, r_isi1, r_isi2, r_listL, r_listR, r_listT, r_tupleT, r_tupleL, r_intI, r_intB, r_absI, r_bools, r_ints, r_toD, r_toDb, r_toDsN, r_toDsC, r_toDsF, List.getElem?_cons_zero, List.getElem?_cons_succ, List.getElem?_nil, List.set_cons_zero, List.set_cons_succ, List.map_cons, List.map_nil, List.cons_append, List.nil_append, List.append_nil, List.length_cons, List.length_nil, List.length_map, List.length_append, List.replicate_succ, List.replicate_zero, List.all_cons, List.all_nil, List.any_cons, List.any_nil, List.drop_succ_cons, List.drop_zero, List.take_succ_cons, List.take_zero, List.reverse_cons, List.reverse_nil, Option.some.injEq, Option.isSome_some, Option.isSome_none, Option.getD_some, Option.getD_none, Option.map_some, Option.map_none, Option.bind_some, L.fr.injEq, D.bl.injEq, D.int.injEq, D.str.injEq, D.ty.injEq, exists_eq_left, exists_eq_left', exists_eq_right, true_and, and_true, false_and, and_false, false_or, or_false, true_or, or_true, reduceIte, if_true, if_false, Bool.not_true, Bool.not_false, Bool.true_and, Bool.and_true, Bool.false_and, Bool.and_false, Bool.or_true, Bool.true_or, Bool.or_false, Bool.false_or, Bool.false_eq_true, Bool.true_eq_false, Bool.not_eq_true, decide_eq_true_eq, decide_eq_false_iff_not, decide_true, decide_false, Bool.not_eq_eq_eq_not, List.mem_cons, List.not_mem_nil, ne_eq, not_true_eq_false, not_false_eq_true, reduceCtorEq, Nat.sub_zero, Nat.add_zero, Nat.zero_add, entry, entryL, outs, slotL, knownTy, isB, D.tyn, D.isNon, D.flat, D.feq, D.scalar, sizeLine_eq, Int.cast_ofNat_Int, Nat.reduceAdd, Nat.reduceSub, Nat.reduceMul, Nat.reduceLeDiff, Nat.reduceEqDiff, Nat.reducePow, Nat.reduceLT, Int.reduceLE, Int.reduceLT, Int.reduceNe, Int.reduceEq, Int.reduceAdd, Int.reduceSub, Int.reduceMul, Int.reduceNeg, Int.reduceToNat, Int.reducePow, String.reduceEq, String.reduceBEq, String.reduceBNe, Int.reduceFMod, Int.reduceFDiv, Int.reduceNegSucc, Int.reduceAbs, beq_self_eq_true]
    exact h _ _ _ hb'
  · rename_i b x r
    obtain ⟨hb, hl, hr, h⟩ := h
    simp (maxSteps := 4000000) only [r_ofStr, r_ofStrB, r_consN, r_consK, r_set0, r_setS, r_isSl0, r_isSlS, r_take0, r_takeS, r_dTake, r_peek0, r_peekS, r_dVar0, r_dVarS, r_seqK, r_seq, r_next, r_exprK, r_expr, r_ret, r_retN, r_ifK, r_if, r_dsSet, r_gName, r_asgK, r_asg, r_gTup, r_gsK, r_gsCons, r_gsNil, r_gStar, r_put0, r_put1, r_put2, r_put3, r_put4, r_boxK, r_gIx, r_gix0, r_gixS, r_setK2, r_parK, r_par, r_augK3, r_augK2, r_augK, r_aug, r_dC, r_opK3, r_opK2, r_opK, r_op, r_bK, r_dB, r_chK4, r_chK2, r_chK1, r_chain, r_andK, r_and, r_orK, r_or, r_notK, r_not, r_andVK, r_andV, r_orVK, r_orV, r_notVK, r_notV, r_difK, r_dIf, r_negK, r_neg, r_aNil, r_acK2, r_acK, r_aCons, r_aoK, r_aOwn, r_borK2, r_borK, r_aBor, r_lstK, r_lst, r_tupK, r_tup, r_retK, r_callK, r_call, r_res0, r_resN, r_resS, r_tmpK, r_tmp, r_frzN, r_frz0, r_frz1, r_at0, r_at1, r_at2, r_at3, r_frK, r_atF0, r_atF1, r_atF2, r_atF3, r_atF4, r_ixTup, r_ixRo, r_ixLst, r_ixStr, r_ixvF, r_ixvB, r_ixvK, r_ixV, r_isBx0, r_isBxS, r_mtK3, r_mtK2, r_mtK, r_mt, r_append, r_reverse, r_pop, r_slK3, r_slK2, r_slK, r_sl, r_oNone, r_osK, r_oSome, r_slLst, r_slRo, r_slTup, r_slStr, r_sqK2, r_sqK, r_iSeq, r_tqK2, r_tqK, r_iTup, r_rg1K, r_iRange1, r_rg2K, r_iRange2, r_forK, r_for, r_bodyK, r_cpEnd, r_cpK, r_comp, r_wipe0, r_wipeS, r_yes, r_cmK3, r_cmK2, r_cmK, r_cmN, r_compC, r_compN, r_endN, r_endR, r_ends, r_outOk0, r_outOkS, r_addI, r_addS, r_addL, r_addT, r_iaddI, r_iaddS, r_sub, r_mulI, r_mod, r_fdiv, r_pow, r_cmpI, r_eqI, r_eqS, r_eqB, r_eqT, r_eqL, r_neI, r_neS, r_neB, r_neT, r_neL, r_isN, r_notN, r_inT, r_inR, r_inL, r_inS, r_notIn, r_c1K, r_con1, r_con2, r_con1F, r_lenL, r_lenT, r_lenR, r_lenS, r_isi1, r_isi2, r_listL, r_listR, r_listT, r_tupleT, r_tupleL, r_intI, r_intB, r_absI, r_bools, r_ints, r_toD, r_toDb, r_toDsN, r_toDsC, r_toDsF, List.getElem?_cons_zero, List.getElem?_cons_succ, List.getElem?_nil, List.set_cons_zero, List.set_cons_succ, List.map_cons, List.map_nil, List.cons_append, List.nil_append, List.append_nil, List.length_cons, List.length_nil, List.length_map, List.length_append, List.replicate_succ, List.replicate_zero, List.all_cons, List.all_nil, List.any_cons, List.any_nil, List.drop_succ_cons, List.drop_zero, List.take_succ_cons, List.take_zero, List.reverse_cons, List.reverse_nil, Option.some.injEq, Option.isSome_some, Option.isSome_none, Option.getD_some, Option.getD_none, Option.map_some, Option.map_none, Option.bind_some, L.fr.injEq, D.bl.injEq, D.int.injEq, D.str.injEq, D.ty.injEq, exists_eq_left, exists_eq_left', exists_eq_right, true_and, and_true, false_and, and_false, false_or, or_false, true_or, or_true, reduceIte, if_true, if_false, Bool.not_true, Bool.not_false, Bool.true_and, Bool.and_true, Bool.false_and, Bool.and_false, Bool.or_true, Bool.true_or, Bool.or_false, Bool.false_or, Bool.false_eq_true, Bool.true_eq_false, Bool.not_eq_true, decide_eq_true_eq, decide_eq_false_iff_not, decide_true, decide_false, Bool.not_eq_eq_eq_not, List.mem_cons, List.not_mem_nil, ne_eq, not_true_eq_false, not_false_eq_true, reduceCtorEq, Nat.sub_zero, Nat.add_zero, Nat.zero_add, entry, entryL, outs, slotL, knownTy, isB, D.tyn, D.isNon, D.flat, D.feq, D.scalar, sizeLine_eq, Int.cast_ofNat_Int, Nat.reduceAdd, Nat.reduceSub, Nat.reduceMul, Nat.reduceLeDiff, Nat.reduceEqDiff, Nat.reducePow, Nat.reduceLT, Int.reduceLE, Int.reduceLT, Int.reduceNe, Int.reduceEq, Int.reduceAdd, Int.reduceSub, Int.reduceMul, Int.reduceNeg, Int.reduceToNat, Int.reducePow, String.reduceEq, String.reduceBEq, String.reduceBNe, Int.reduceFMod, Int.reduceFDiv, Int.reduceNegSucc, Int.reduceAbs, beq_self_eq_true, t_law_of, cPull]
    refine ⟨hb, by omega, fun y b' l' hb' h0 h1 => atK_of h0 (by simpa using h1) fun d hd => ?_⟩
    obtain ⟨i, rfl⟩ : ∃ i, d = .str i := by
      rcases List.mem_cons.mp hd with e | e
      · exact ⟨x, e⟩
      · exact hr _ e
    simp (maxSteps := 4000000) only [r_ofStr, r_ofStrB, r_consN, r_consK, r_set0, r_setS, r_isSl0, r_isSlS, r_take0, r_takeS, r_dTake, r_peek0, r_peekS, r_dVar0, r_dVarS, r_seqK, r_seq, r_next, r_exprK, r_expr, r_ret, r_retN, r_ifK, r_if, r_dsSet, r_gName, r_asgK, r_asg, r_gTup, r_gsK, r_gsCons, r_gsNil, r_gStar, r_put0, r_put1, r_put2, r_put3, r_put4, r_boxK, r_gIx, r_gix0, r_gixS, r_setK2, r_parK, r_par, r_augK3, r_augK2, r_augK, r_aug, r_dC, r_opK3, r_opK2, r_opK, r_op, r_bK, r_dB, r_chK4, r_chK2, r_chK1, r_chain, r_andK, r_and, r_orK, r_or, r_notK, r_not, r_andVK, r_andV, r_orVK, r_orV, r_notVK, r_notV, r_difK, r_dIf, r_negK, r_neg, r_aNil, r_acK2, r_acK, r_aCons, r_aoK, r_aOwn, r_borK2, r_borK, r_aBor, r_lstK, r_lst, r_tupK, r_tup, r_retK, r_callK, r_call, r_res0, r_resN, r_resS, r_tmpK, r_tmp, r_frzN, r_frz0, r_frz1, r_at0, r_at1, r_at2, r_at3, r_frK, r_atF0, r_atF1, r_atF2, r_atF3, r_atF4, r_ixTup, r_ixRo, r_ixLst, r_ixStr, r_ixvF, r_ixvB, r_ixvK, r_ixV, r_isBx0, r_isBxS, r_mtK3, r_mtK2, r_mtK, r_mt, r_append, r_reverse, r_pop, r_slK3, r_slK2, r_slK, r_sl, r_oNone, r_osK, r_oSome, r_slLst, r_slRo, r_slTup, r_slStr, r_sqK2, r_sqK, r_iSeq, r_tqK2, r_tqK, r_iTup, r_rg1K, r_iRange1, r_rg2K, r_iRange2, r_forK, r_for, r_bodyK, r_cpEnd, r_cpK, r_comp, r_wipe0, r_wipeS, r_yes, r_cmK3, r_cmK2, r_cmK, r_cmN, r_compC, r_compN, r_endN, r_endR, r_ends, r_outOk0, r_outOkS, r_addI, r_addS, r_addL, r_addT, r_iaddI, r_iaddS, r_sub, r_mulI, r_mod, r_fdiv, r_pow, r_cmpI, r_eqI, r_eqS, r_eqB, r_eqT, r_eqL, r_neI, r_neS, r_neB, r_neT, r_neL, r_isN, r_notN, r_inT, r_inR, r_inL, r_inS, r_notIn, r_c1K, r_con1, r_con2, r_con1F, r_lenL, r_lenT, r_lenR, r_lenS, r_isi1, r_isi2, r_listL, r_listR, r_listT, r_tupleT, r_tupleL, r_intI, r_intB, r_absI, r_bools, r_ints, r_toD, r_toDb, r_toDsN, r_toDsC, r_toDsF, List.getElem?_cons_zero, List.getElem?_cons_succ, List.getElem?_nil, List.set_cons_zero, List.set_cons_succ, List.map_cons, List.map_nil, List.cons_append, List.nil_append, List.append_nil, List.length_cons, List.length_nil, List.length_map, List.length_append, List.replicate_succ, List.replicate_zero, List.all_cons, List.all_nil, List.any_cons, List.any_nil, List.drop_succ_cons, List.drop_zero, List.take_succ_cons, List.take_zero, List.reverse_cons, List.reverse_nil, Option.some.injEq, Option.isSome_some, Option.isSome_none, Option.getD_some, Option.getD_none, Option.map_some, Option.map_none, Option.bind_some, L.fr.injEq, D.bl.injEq, D.int.injEq, D.str.injEq, D.ty.injEq, exists_eq_left, exists_eq_left', exists_eq_right, true_and, and_true, false_and, and_false, false_or, or_false, true_or, or_true, reduceIte, if_true, if_false, Bool.not_true, Bool.not_false, Bool.true_and, Bool.and_true, Bool.false_and, Bool.and_false, Bool.or_true, Bool.true_or, Bool.or_false, Bool.false_or, Bool.false_eq_true, Bool.true_eq_false, Bool.not_eq_true, decide_eq_true_eq, decide_eq_false_iff_not, decide_true, decide_false, Bool.not_eq_eq_eq_not, List.mem_cons, List.not_mem_nil, ne_eq, not_true_eq_false, not_false_eq_true, reduceCtorEq, Nat.sub_zero, Nat.add_zero, Nat.zero_add, entry, entryL, outs, slotL, knownTy, isB, D.tyn, D.isNon, D.flat, D.feq, D.scalar, sizeLine_eq, Int.cast_ofNat_Int, Nat.reduceAdd, Nat.reduceSub, Nat.reduceMul, Nat.reduceLeDiff, Nat.reduceEqDiff, Nat.reducePow, Nat.reduceLT, Int.reduceLE, Int.reduceLT, Int.reduceNe, Int.reduceEq, Int.reduceAdd, Int.reduceSub, Int.reduceMul, Int.reduceNeg, Int.reduceToNat, Int.reducePow, String.reduceEq, String.reduceBEq, String.reduceBNe, Int.reduceFMod, Int.reduceFDiv, Int.reduceNegSucc, Int.reduceAbs, beq_self_eq_true]
    exact h _ hd _ _ hb'
  · exact h.elim
/-! ### trees -/
inductive T where
  | ident | name (x : Str) | lead (i j : Int) | swap (a b c d : Int)
  | prod (s t : T) | conj (s t : T) | pow (s : T) (k : Int)
def T.h : T → Nat
  | .prod s t => max s.h t.h + 1
  | .conj s t => max s.h t.h + 1
  | .pow s _ => s.h + 1
  | _ => 0
def T.d : T → D
  | .ident => .tup [.str (Str.ofString "identity")]
  | .name x => .tup [.str (Str.ofString "name"), .str x]
  | .lead i j => .tup [.str (Str.ofString "lead"), .int i, .int j]
  | .swap a b c d => .tup [.str (Str.ofString "swap"), .tup [.int a, .int b], .tup [.int c, .int d]]
  | .prod s t => .tup [.str (Str.ofString "product"), s.d, t.d]
  | .conj s t => .tup [.str (Str.ofString "conjugate"), s.d, t.d]
  | .pow s k => .tup [.str (Str.ofString "power"), s.d, .int k]
def T.code : T → List D
  | .name x => [.tup [.str (Str.ofString "load"), .str x]]
  | .prod s t => s.code ++ t.code ++ [.tup [.str (Str.ofString "compose")]]
  | .conj s t => s.code ++ t.code ++ [.tup [.str (Str.ofString "conjugate")]]
  | .pow s k => s.code ++ [.tup [.str (Str.ofString "power"), .int k]]
  | t => [t.d]
theorem T.code_len : ∀ t : T, t.code.length < 2 ^ (t.h + 1)
  | .ident => by simp [T.code, T.h]
  | .name x => by simp [T.code, T.h]
  | .lead i j => by simp [T.code, T.h]
  | .swap a b c d => by simp [T.code, T.h]
  | .prod s t => by
    have h1 := s.code_len
    have h2 := t.code_len
    have h3 : 2 ^ (s.h + 1) ≤ 2 ^ (max s.h t.h + 1) := Nat.pow_le_pow_right (by decide) (by omega)
    have h4 : 2 ^ (t.h + 1) ≤ 2 ^ (max s.h t.h + 1) := Nat.pow_le_pow_right (by decide) (by omega)
    have h5 : 2 ^ (max s.h t.h + 1 + 1) = 2 ^ (max s.h t.h + 1) * 2 := Nat.pow_succ ..
    simp only [T.code, T.h, List.length_append, List.length_cons, List.length_nil]
    omega
  | .conj s t => by
    have h1 := s.code_len
    have h2 := t.code_len
    have h3 : 2 ^ (s.h + 1) ≤ 2 ^ (max s.h t.h + 1) := Nat.pow_le_pow_right (by decide) (by omega)
    have h4 : 2 ^ (t.h + 1) ≤ 2 ^ (max s.h t.h + 1) := Nat.pow_le_pow_right (by decide) (by omega)
    have h5 : 2 ^ (max s.h t.h + 1 + 1) = 2 ^ (max s.h t.h + 1) * 2 := Nat.pow_succ ..
    simp only [T.code, T.h, List.length_append, List.length_cons, List.length_nil]
    omega
  | .pow s k => by
    have h1 := s.code_len
    have h5 : 2 ^ (s.h + 1 + 1) = 2 ^ (s.h + 1) * 2 := Nat.pow_succ ..
    simp only [T.code, T.h, List.length_append, List.length_cons, List.length_nil]
    omega
def cMove : Con := fun args k _ => match args with
  | [b, .fr (.int w)] => IsBag b ∧ (0 < w ∧ w < 1000) ∧ ∀ t : T, t.h = 0 → ∀ b' l', IsBag b' → k (.fr t.d) [b', l']
  | _ => False
theorem v_move : ∀ ls kk kx, cMove ls kk kx → t_law_move cPull (endsOf [0] ls kk) (entry [0] 5 ls) := by
  intro ls kk kx h
  unfold cMove at h
  split at h
  · rename_i b w
    obtain ⟨hb, ⟨w0, w1⟩, h⟩ := h
    simp (maxSteps := 4000000) only [r_ofStr, r_ofStrB, r_consN, r_consK, r_set0, r_setS, r_isSl0, r_isSlS, r_take0, r_takeS, r_dTake, r_peek0, r_peekS, r_dVar0, r_dVarS, r_seqK, r_seq, r_next, r_exprK, r_expr, r_ret, r_retN, r_ifK, r_if, r_dsSet, r_gName, r_asgK, r_asg, r_gTup, r_gsK, r_gsCons, r_gsNil, r_gStar, r_put0, r_put1, r_put2, r_put3, r_put4, r_boxK, r_gIx, r_gix0, r_gixS, r_setK2, r_parK, r_par, r_augK3, r_augK2, r_augK, r_aug, r_dC, r_opK3, r_opK2, r_opK, r_op, r_bK, r_dB, r_chK4, r_chK2, r_chK1, r_chain, r_andK, r_and, r_orK, r_or, r_notK, r_not, r_andVK, r_andV, r_orVK, r_orV, r_notVK, r_notV, r_difK, r_dIf, r_negK, r_neg, r_aNil, r_acK2, r_acK, r_aCons, r_aoK, r_aOwn, r_borK2, r_borK, r_aBor, r_lstK, r_lst, r_tupK, r_tup, r_retK, r_callK, r_call, r_res0, r_resN, r_resS, r_tmpK, r_tmp, r_frzN, r_frz0, r_frz1, r_at0, r_at1, r_at2, r_at3, r_frK, r_atF0, r_atF1, r_atF2, r_atF3, r_atF4, r_ixTup, r_ixRo, r_ixLst, r_ixStr, r_ixvF, r_ixvB, r_ixvK, r_ixV, r_isBx0, r_isBxS, r_mtK3, r_mtK2, r_mtK, r_mt, r_append, r_reverse, r_pop, r_slK3, r_slK2, r_slK, r_sl, r_oNone, r_osK, r_oSome, r_slLst, r_slRo, r_slTup, r_slStr, r_sqK2, r_sqK, r_iSeq, r_tqK2, r_tqK, r_iTup, r_rg1K, r_iRange1, r_rg2K, r_iRange2, r_forK, r_for, r_bodyK, r_cpEnd, r_cpK, r_comp, r_wipe0, r_wipeS, r_yes, r_cmK3, r_cmK2, r_cmK, r_cmN, r_compC, r_compN, r_endN, r_endR, r_ends, r_outOk0, r_outOkS, r_addI, r_addS, r_addL, r_addT, r_iaddI, r_iaddS, r_sub, r_mulI, r_mod, r_fdiv, r_pow, r_cmpI, r_eqI, r_eqS, r_eqB, r_eqT, r_eqL, r_neI, r_neS, r_neB, r_neT, r_neL, r_isN, r_notN, r_inT, r_inR, r_inL, r_inS, r_notIn, r_c1K, r_con1, r_con2, r_con1F, r_lenL, r_lenT, r_lenR, r_lenS, r_isi1, r_isi2, r_listL, r_listR, r_listT, r_tupleT, r_tupleL, r_intI, r_intB, r_absI, r_bools, r_ints, r_toD, r_toDb, r_toDsN, r_toDsC, r_toDsF, List.getElem?_cons_zero, List.getElem?_cons_succ, List.getElem?_nil, List.set_cons_zero, List.set_cons_succ, List.map_cons, List.map_nil, List.cons_append, List.nil_append, List.append_nil, List.length_cons, List.length_nil, List.length_map, List.length_append, List.replicate_succ, List.replicate_zero, List.all_cons, List.all_nil, List.any_cons, List.any_nil, List.drop_succ_cons, List.drop_zero, List.take_succ_cons, List.take_zero, List.reverse_cons, List.reverse_nil, Option.some.injEq, Option.isSome_some, Option.isSome_none, Option.getD_some, Option.getD_none, Option.map_some, Option.map_none, Option.bind_some, L.fr.injEq, D.bl.injEq, D.int.injEq, D.str.injEq, D.ty.injEq, exists_eq_left, exists_eq_left', exists_eq_right, true_and, and_true, false_and, and_false, false_or, or_false, true_or, or_true, reduceIte, if_true, if_false, Bool.not_true, Bool.not_false, Bool.true_and, Bool.and_true, Bool.false_and, Bool.and_false, Bool.or_true, Bool.true_or, Bool.or_false, Bool.false_or, Bool.false_eq_true, Bool.true_eq_false, Bool.not_eq_true, decide_eq_true_eq, decide_eq_false_iff_not, decide_true, decide_false, Bool.not_eq_eq_eq_not, List.mem_cons, List.not_mem_nil, ne_eq, not_true_eq_false, not_false_eq_true, reduceCtorEq, Nat.sub_zero, Nat.add_zero, Nat.zero_add, entry, entryL, outs, slotL, knownTy, isB, D.tyn, D.isNon, D.flat, D.feq, D.scalar, sizeLine_eq, Int.cast_ofNat_Int, Nat.reduceAdd, Nat.reduceSub, Nat.reduceMul, Nat.reduceLeDiff, Nat.reduceEqDiff, Nat.reducePow, Nat.reduceLT, Int.reduceLE, Int.reduceLT, Int.reduceNe, Int.reduceEq, Int.reduceAdd, Int.reduceSub, Int.reduceMul, Int.reduceNeg, Int.reduceToNat, Int.reducePow, String.reduceEq, String.reduceBEq, String.reduceBNe, Int.reduceFMod, Int.reduceFDiv, Int.reduceNegSucc, Int.reduceAbs, beq_self_eq_true, t_law_move, cPull, rng2]
    repeat' (first | assumption | intro _ | apply And.intro | split | omega)
    · exact h (.lead _ _) rfl _ _ (by assumption)
    · exact h (.swap _ _ _ _) rfl _ _ (by assumption)
    · exact h (.swap _ _ _ _) rfl _ _ (by assumption)
  · exact h.elim
def cNames : Con := fun args k _ => match args with
  | [b, .fr (.int z)] => IsBag b ∧ z = 3 ∧ ∀ (x y z : Str) (b' l' : L), PyData.strOk x = true → PyData.strOk y = true → PyData.strOk z = true → IsBag b' → k (.box .lst [.fr (.str x), .fr (.str y), .fr (.str z)]) [b', l']
  | _ => False
theorem letters {i : Int} (h0 : 0 ≤ i) (h1 : i < 26) : ∃ c, atI (Str.ofString "abcdefghijklmnopqrstuvwxyz").cps.toList i = some c ∧ c < 0x110000 := by
  have e : (Str.ofString "abcdefghijklmnopqrstuvwxyz").cps.toList.length = 26 := by decide +kernel
  have al : ∀ c ∈ (Str.ofString "abcdefghijklmnopqrstuvwxyz").cps.toList, c < 0x110000 := by decide +kernel
  obtain ⟨d, h, m, _⟩ := atI_of (xs := (Str.ofString "abcdefghijklmnopqrstuvwxyz").cps.toList) h0 (by rw [e]; exact h1)
  exact ⟨d, h, al d m⟩
theorem v_names : ∀ ls kk kx, cNames ls kk kx → t_law_names cOf cPull (endsOf [0] ls kk) (entry [0] 8 ls) := by
  intro ls kk kx h
  unfold cNames at h
  split at h
  · rename_i b z
    obtain ⟨hb, rfl, h⟩ := h
    simp (maxSteps := 4000000) only [r_ofStr, r_ofStrB, r_consN, r_consK, r_set0, r_setS, r_isSl0, r_isSlS, r_take0, r_takeS, r_dTake, r_peek0, r_peekS, r_dVar0, r_dVarS, r_seqK, r_seq, r_next, r_exprK, r_expr, r_ret, r_retN, r_ifK, r_if, r_dsSet, r_gName, r_asgK, r_asg, r_gTup, r_gsK, r_gsCons, r_gsNil, r_gStar, r_put0, r_put1, r_put2, r_put3, r_put4, r_boxK, r_gIx, r_gix0, r_gixS, r_setK2, r_parK, r_par, r_augK3, r_augK2, r_augK, r_aug, r_dC, r_opK3, r_opK2, r_opK, r_op, r_bK, r_dB, r_chK4, r_chK2, r_chK1, r_chain, r_andK, r_and, r_orK, r_or, r_notK, r_not, r_andVK, r_andV, r_orVK, r_orV, r_notVK, r_notV, r_difK, r_dIf, r_negK, r_neg, r_aNil, r_acK2, r_acK, r_aCons, r_aoK, r_aOwn, r_borK2, r_borK, r_aBor, r_lstK, r_lst, r_tupK, r_tup, r_retK, r_callK, r_call, r_res0, r_resN, r_resS, r_tmpK, r_tmp, r_frzN, r_frz0, r_frz1, r_at0, r_at1, r_at2, r_at3, r_frK, r_atF0, r_atF1, r_atF2, r_atF3, r_atF4, r_ixTup, r_ixRo, r_ixLst, r_ixStr, r_ixvF, r_ixvB, r_ixvK, r_ixV, r_isBx0, r_isBxS, r_mtK3, r_mtK2, r_mtK, r_mt, r_append, r_reverse, r_pop, r_slK3, r_slK2, r_slK, r_sl, r_oNone, r_osK, r_oSome, r_slLst, r_slRo, r_slTup, r_slStr, r_sqK2, r_sqK, r_iSeq, r_tqK2, r_tqK, r_iTup, r_rg1K, r_iRange1, r_rg2K, r_iRange2, r_forK, r_for, r_bodyK, r_cpEnd, r_cpK, r_comp, r_wipe0, r_wipeS, r_yes, r_cmK3, r_cmK2, r_cmK, r_cmN, r_compC, r_compN, r_endN, r_endR, r_ends, r_outOk0, r_outOkS, r_addI, r_addS, r_addL, r_addT, r_iaddI, r_iaddS, r_sub, r_mulI, r_mod, r_fdiv, r_pow, r_cmpI, r_eqI, r_eqS, r_eqB, r_eqT, r_eqL, r_neI, r_neS, r_neB, r_neT, r_neL, r_isN, r_notN, r_inT, r_inR, r_inL, r_inS, r_notIn, r_c1K, r_con1, r_con2, r_con1F, r_lenL, r_lenT, r_lenR, r_lenS, r_isi1, r_isi2, r_listL, r_listR, r_listT, r_tupleT, r_tupleL, r_intI, r_intB, r_absI, r_bools, r_ints, r_toD, r_toDb, r_toDsN, r_toDsC, r_toDsF, List.getElem?_cons_zero, List.getElem?_cons_succ, List.getElem?_nil, List.set_cons_zero, List.set_cons_succ, List.map_cons, List.map_nil, List.cons_append, List.nil_append, List.append_nil, List.length_cons, List.length_nil, List.length_map, List.length_append, List.replicate_succ, List.replicate_zero, List.all_cons, List.all_nil, List.any_cons, List.any_nil, List.drop_succ_cons, List.drop_zero, List.take_succ_cons, List.take_zero, List.reverse_cons, List.reverse_nil, Option.some.injEq, Option.isSome_some, Option.isSome_none, Option.getD_some, Option.getD_none, Option.map_some, Option.map_none, Option.bind_some, L.fr.injEq, D.bl.injEq, D.int.injEq, D.str.injEq, D.ty.injEq, exists_eq_left, exists_eq_left', exists_eq_right, true_and, and_true, false_and, and_false, false_or, or_false, true_or, or_true, reduceIte, if_true, if_false, Bool.not_true, Bool.not_false, Bool.true_and, Bool.and_true, Bool.false_and, Bool.and_false, Bool.or_true, Bool.true_or, Bool.or_false, Bool.false_or, Bool.false_eq_true, Bool.true_eq_false, Bool.not_eq_true, decide_eq_true_eq, decide_eq_false_iff_not, decide_true, decide_false, Bool.not_eq_eq_eq_not, List.mem_cons, List.not_mem_nil, ne_eq, not_true_eq_false, not_false_eq_true, reduceCtorEq, Nat.sub_zero, Nat.add_zero, Nat.zero_add, entry, entryL, outs, slotL, knownTy, isB, D.tyn, D.isNon, D.flat, D.feq, D.scalar, sizeLine_eq, Int.cast_ofNat_Int, Nat.reduceAdd, Nat.reduceSub, Nat.reduceMul, Nat.reduceLeDiff, Nat.reduceEqDiff, Nat.reducePow, Nat.reduceLT, Int.reduceLE, Int.reduceLT, Int.reduceNe, Int.reduceEq, Int.reduceAdd, Int.reduceSub, Int.reduceMul, Int.reduceNeg, Int.reduceToNat, Int.reducePow, String.reduceEq, String.reduceBEq, String.reduceBNe, Int.reduceFMod, Int.reduceFDiv, Int.reduceNegSucc, Int.reduceAbs, beq_self_eq_true, t_law_names, cPull, cOf, rng3]
    have hl : (Str.ofString "abcdefghijklmnopqrstuvwxyz").length ≤ 16777216 := by decide +kernel
    refine ⟨hb, fun r b1 _ hb1 r0 r1 => ⟨hb1, ?_, fun x b2 _ hb2 => ⟨hb2, ?_, fun y hy b3 _ hb3 => ⟨hb3, ?_, fun u hu b4 _ hb4 => ?_⟩⟩⟩⟩
    · intro d hd
      simp only [MemD, List.mem_cons, List.not_mem_nil, or_false] at hd
      rcases hd with rfl | rfl | rfl | rfl <;> exact ⟨_, rfl⟩
    · intro d hd
      simp only [MemD, List.mem_cons, List.not_mem_nil, or_false] at hd
      rcases hd with rfl | rfl | rfl <;> exact ⟨_, rfl⟩
    · intro d hd
      simp only [MemD, List.mem_cons, List.not_mem_nil, or_false] at hd
      rcases hd with rfl | rfl <;> exact ⟨_, rfl⟩
    · have hy2 : y.length ≤ 10 := by
        simp only [MemD, List.mem_cons, List.not_mem_nil, or_false, D.str.injEq] at hy
        rcases hy with rfl | rfl | rfl | rfl <;> decide +kernel
      have hu2 : u.length ≤ 10 := by
        simp only [MemD, List.mem_cons, List.not_mem_nil, or_false, D.str.injEq] at hu
        rcases hu with rfl | rfl | rfl <;> decide +kernel
      have hy3 : PyData.strOk y = true := by
        simp only [MemD, List.mem_cons, List.not_mem_nil, or_false, D.str.injEq] at hy
        rcases hy with rfl | rfl | rfl | rfl <;> decide +kernel
      have hu3 : PyData.strOk u = true := by
        simp only [MemD, List.mem_cons, List.not_mem_nil, or_false, D.str.injEq] at hu
        rcases hu with rfl | rfl | rfl <;> decide +kernel
      have ok : ∀ c : Nat, c < 0x110000 → PyData.strOk (u ++ ⟨#[c]⟩ ++ y) = true := fun c hc => by
        show ((u.cps ++ #[c]) ++ y.cps).all (· < 0x110000) = true
        have hy3 : y.cps.all (· < 0x110000) = true := hy3
        have hu3 : u.cps.all (· < 0x110000) = true := hu3
        rw [Array.all_append, Array.all_append, hy3, hu3]
        simp [hc]
      have one : ∀ c : Nat, Str.length ⟨#[c]⟩ = 1 := fun _ => rfl
      have app : ∀ (a b : Str), (a ++ b).length = a.length + b.length := fun a b => Array.size_append
      obtain ⟨c0, e0, l0⟩ := letters (i := (r + x * 0).fmod 26) (fmod_nn _ (by decide)) (fmod_lt _ (by decide))
      obtain ⟨c1, e1, l1⟩ := letters (i := (r + x * 1).fmod 26) (fmod_nn _ (by decide)) (fmod_lt _ (by decide))
      obtain ⟨c2, e2, l2⟩ := letters (i := (r + x * 2).fmod 26) (fmod_nn _ (by decide)) (fmod_lt _ (by decide))
      refine ⟨.of_right (by decide), hl, c0, e0, ?_, ?_, .of_right (by decide), hl, c1, e1, ?_, ?_, .of_right (by decide), hl, c2, e2, ?_, ?_, h _ _ _ _ _ (ok _ l0) (ok _ l1) (ok _ l2) hb4⟩ <;> simp only [app, one] <;> omega
  · exact h.elim
def NmOk (ds : List D) : Prop := ∃ x y z : Str, ds = [.str x, .str y, .str z] ∧ PyData.strOk x = true ∧ PyData.strOk y = true ∧ PyData.strOk z = true
def cAtom : Con := fun args k _ => match args with
  | [b, .fr (.int w), .fr (.box .lst ds)] => IsBag b ∧ (0 < w ∧ w < 1000) ∧ NmOk ds ∧ ∀ t : T, t.h = 0 → ∀ b' l1 l2, IsBag b' → k (.fr t.d) [b', l1, l2]
  | _ => False
theorem cmp_strs {x y z : Str} (sx : PyData.strOk x = true) (sy : PyData.strOk y = true) (sz : PyData.strOk z = true) : Cmp2 (.box .lst [.str x, .str y, .str z]) (.box .lst []) := by simp [sx, sy, sz, Cmp2, SeqAt.shaped, D.py, D.pys, PyData.canLay0, PyData.canLayAll0, PyData.depth, PyData.depthAll]
theorem v_atom : ∀ ls kk kx, cAtom ls kk kx → t_law_atom cPull cOf cMove (endsOf [0] ls kk) (entry [0] 4 ls) := by
  intro ls kk kx h
  unfold cAtom at h
  split at h
  · rename_i b w ds
    obtain ⟨hb, ⟨w0, w1⟩, ⟨x, y, z, rfl, sx, sy, sz⟩, h⟩ := h
    simp (maxSteps := 4000000) only [r_ofStr, r_ofStrB, r_consN, r_consK, r_set0, r_setS, r_isSl0, r_isSlS, r_take0, r_takeS, r_dTake, r_peek0, r_peekS, r_dVar0, r_dVarS, r_seqK, r_seq, r_next, r_exprK, r_expr, r_ret, r_retN, r_ifK, r_if, r_dsSet, r_gName, r_asgK, r_asg, r_gTup, r_gsK, r_gsCons, r_gsNil, r_gStar, r_put0, r_put1, r_put2, r_put3, r_put4, r_boxK, r_gIx, r_gix0, r_gixS, r_setK2, r_parK, r_par, r_augK3, r_augK2, r_augK, r_aug, r_dC, r_opK3, r_opK2, r_opK, r_op, r_bK, r_dB, r_chK4, r_chK2, r_chK1, r_chain, r_andK, r_and, r_orK, r_or, r_notK, r_not, r_andVK, r_andV, r_orVK, r_orV, r_notVK, r_notV, r_difK, r_dIf, r_negK, r_neg, r_aNil, r_acK2, r_acK, r_aCons, r_aoK, r_aOwn, r_borK2, r_borK, r_aBor, r_lstK, r_lst, r_tupK, r_tup, r_retK, r_callK, r_call, r_res0, r_resN, r_resS, r_tmpK, r_tmp, r_frzN, r_frz0, r_frz1, r_at0, r_at1, r_at2, r_at3, r_frK, r_atF0, r_atF1, r_atF2, r_atF3, r_atF4, r_ixTup, r_ixRo, r_ixLst, r_ixStr, r_ixvF, r_ixvB, r_ixvK, r_ixV, r_isBx0, r_isBxS, r_mtK3, r_mtK2, r_mtK, r_mt, r_append, r_reverse, r_pop, r_slK3, r_slK2, r_slK, r_sl, r_oNone, r_osK, r_oSome, r_slLst, r_slRo, r_slTup, r_slStr, r_sqK2, r_sqK, r_iSeq, r_tqK2, r_tqK, r_iTup, r_rg1K, r_iRange1, r_rg2K, r_iRange2, r_forK, r_for, r_bodyK, r_cpEnd, r_cpK, r_comp, r_wipe0, r_wipeS, r_yes, r_cmK3, r_cmK2, r_cmK, r_cmN, r_compC, r_compN, r_endN, r_endR, r_ends, r_outOk0, r_outOkS, r_addI, r_addS, r_addL, r_addT, r_iaddI, r_iaddS, r_sub, r_mulI, r_mod, r_fdiv, r_pow, r_cmpI, r_eqI, r_eqS, r_eqB, r_eqT, r_eqL, r_neI, r_neS, r_neB, r_neT, r_neL, r_isN, r_notN, r_inT, r_inR, r_inL, r_inS, r_notIn, r_c1K, r_con1, r_con2, r_con1F, r_lenL, r_lenT, r_lenR, r_lenS, r_isi1, r_isi2, r_listL, r_listR, r_listT, r_tupleT, r_tupleL, r_intI, r_intB, r_absI, r_bools, r_ints, r_toD, r_toDb, r_toDsN, r_toDsC, r_toDsF, List.getElem?_cons_zero, List.getElem?_cons_succ, List.getElem?_nil, List.set_cons_zero, List.set_cons_succ, List.map_cons, List.map_nil, List.cons_append, List.nil_append, List.append_nil, List.length_cons, List.length_nil, List.length_map, List.length_append, List.replicate_succ, List.replicate_zero, List.all_cons, List.all_nil, List.any_cons, List.any_nil, List.drop_succ_cons, List.drop_zero, List.take_succ_cons, List.take_zero, List.reverse_cons, List.reverse_nil, Option.some.injEq, Option.isSome_some, Option.isSome_none, Option.getD_some, Option.getD_none, Option.map_some, Option.map_none, Option.bind_some, L.fr.injEq, D.bl.injEq, D.int.injEq, D.str.injEq, D.ty.injEq, exists_eq_left, exists_eq_left', exists_eq_right, true_and, and_true, false_and, and_false, false_or, or_false, true_or, or_true, reduceIte, if_true, if_false, Bool.not_true, Bool.not_false, Bool.true_and, Bool.and_true, Bool.false_and, Bool.and_false, Bool.or_true, Bool.true_or, Bool.or_false, Bool.false_or, Bool.false_eq_true, Bool.true_eq_false, Bool.not_eq_true, decide_eq_true_eq, decide_eq_false_iff_not, decide_true, decide_false, Bool.not_eq_eq_eq_not, List.mem_cons, List.not_mem_nil, ne_eq, not_true_eq_false, not_false_eq_true, reduceCtorEq, Nat.sub_zero, Nat.add_zero, Nat.zero_add, entry, entryL, outs, slotL, knownTy, isB, D.tyn, D.isNon, D.flat, D.feq, D.scalar, sizeLine_eq, Int.cast_ofNat_Int, Nat.reduceAdd, Nat.reduceSub, Nat.reduceMul, Nat.reduceLeDiff, Nat.reduceEqDiff, Nat.reducePow, Nat.reduceLT, Int.reduceLE, Int.reduceLT, Int.reduceNe, Int.reduceEq, Int.reduceAdd, Int.reduceSub, Int.reduceMul, Int.reduceNeg, Int.reduceToNat, Int.reducePow, String.reduceEq, String.reduceBEq, String.reduceBNe, Int.reduceFMod, Int.reduceFDiv, Int.reduceNegSucc, Int.reduceAbs, beq_self_eq_true, t_law_atom, cPull, cOf, cMove]
    have allS : ∀ d, MemD d [D.str y, D.str z] → ∃ i, d = D.str i := by
      intro d hd
      simp only [MemD, List.mem_cons, List.not_mem_nil, or_false] at hd
      rcases hd with rfl | rfl <;> exact ⟨_, rfl⟩
    have cm := cmp_strs sx sy sz
    repeat' (first | assumption | intro _ | apply And.intro | split | omega)
    all_goals first
      | exact h .ident rfl _ _ _ (by assumption)
      | exact allS _ (by assumption)
      | exact h (.name _) rfl _ _ _ (by assumption)
      | exact h _ (by assumption) _ _ _ (by assumption)
  · exact h.elim
def cTree (n : Nat) : Con := fun args k _ => match args with
  | [b, .fr (.int w), .fr (.box .lst ds), .fr (.int e)] => IsBag b ∧ (0 < w ∧ w < 1000) ∧ NmOk ds ∧ e = (n : Int) ∧ ∀ t : T, t.h ≤ n → ∀ b' l1 l2 l3, IsBag b' → k (.fr t.d) [b', l1, l2, l3]
  | _ => False
theorem v_tree0 : ∀ ls kk kx, cTree 0 ls kk kx → t_law_tree cPull cAtom cNo (endsOf [0] ls kk) (entry [0] 6 ls) := by
  intro ls kk kx h
  unfold cTree at h
  split at h
  · rename_i b w ds e
    obtain ⟨hb, ⟨w0, w1⟩, ⟨x, y, z, rfl, sx, sy, sz⟩, rfl, h⟩ := h
    simp (maxSteps := 4000000) only [r_ofStr, r_ofStrB, r_consN, r_consK, r_set0, r_setS, r_isSl0, r_isSlS, r_take0, r_takeS, r_dTake, r_peek0, r_peekS, r_dVar0, r_dVarS, r_seqK, r_seq, r_next, r_exprK, r_expr, r_ret, r_retN, r_ifK, r_if, r_dsSet, r_gName, r_asgK, r_asg, r_gTup, r_gsK, r_gsCons, r_gsNil, r_gStar, r_put0, r_put1, r_put2, r_put3, r_put4, r_boxK, r_gIx, r_gix0, r_gixS, r_setK2, r_parK, r_par, r_augK3, r_augK2, r_augK, r_aug, r_dC, r_opK3, r_opK2, r_opK, r_op, r_bK, r_dB, r_chK4, r_chK2, r_chK1, r_chain, r_andK, r_and, r_orK, r_or, r_notK, r_not, r_andVK, r_andV, r_orVK, r_orV, r_notVK, r_notV, r_difK, r_dIf, r_negK, r_neg, r_aNil, r_acK2, r_acK, r_aCons, r_aoK, r_aOwn, r_borK2, r_borK, r_aBor, r_lstK, r_lst, r_tupK, r_tup, r_retK, r_callK, r_call, r_res0, r_resN, r_resS, r_tmpK, r_tmp, r_frzN, r_frz0, r_frz1, r_at0, r_at1, r_at2, r_at3, r_frK, r_atF0, r_atF1, r_atF2, r_atF3, r_atF4, r_ixTup, r_ixRo, r_ixLst, r_ixStr, r_ixvF, r_ixvB, r_ixvK, r_ixV, r_isBx0, r_isBxS, r_mtK3, r_mtK2, r_mtK, r_mt, r_append, r_reverse, r_pop, r_slK3, r_slK2, r_slK, r_sl, r_oNone, r_osK, r_oSome, r_slLst, r_slRo, r_slTup, r_slStr, r_sqK2, r_sqK, r_iSeq, r_tqK2, r_tqK, r_iTup, r_rg1K, r_iRange1, r_rg2K, r_iRange2, r_forK, r_for, r_bodyK, r_cpEnd, r_cpK, r_comp, r_wipe0, r_wipeS, r_yes, r_cmK3, r_cmK2, r_cmK, r_cmN, r_compC, r_compN, r_endN, r_endR, r_ends, r_outOk0, r_outOkS, r_addI, r_addS, r_addL, r_addT, r_iaddI, r_iaddS, r_sub, r_mulI, r_mod, r_fdiv, r_pow, r_cmpI, r_eqI, r_eqS, r_eqB, r_eqT, r_eqL, r_neI, r_neS, r_neB, r_neT, r_neL, r_isN, r_notN, r_inT, r_inR, r_inL, r_inS, r_notIn, r_c1K, r_con1, r_con2, r_con1F, r_lenL, r_lenT, r_lenR, r_lenS, r_isi1, r_isi2, r_listL, r_listR, r_listT, r_tupleT, r_tupleL, r_intI, r_intB, r_absI, r_bools, r_ints, r_toD, r_toDb, r_toDsN, r_toDsC, r_toDsF, List.getElem?_cons_zero, List.getElem?_cons_succ, List.getElem?_nil, List.set_cons_zero, List.set_cons_succ, List.map_cons, List.map_nil, List.cons_append, List.nil_append, List.append_nil, List.length_cons, List.length_nil, List.length_map, List.length_append, List.replicate_succ, List.replicate_zero, List.all_cons, List.all_nil, List.any_cons, List.any_nil, List.drop_succ_cons, List.drop_zero, List.take_succ_cons, List.take_zero, List.reverse_cons, List.reverse_nil, Option.some.injEq, Option.isSome_some, Option.isSome_none, Option.getD_some, Option.getD_none, Option.map_some, Option.map_none, Option.bind_some, L.fr.injEq, D.bl.injEq, D.int.injEq, D.str.injEq, D.ty.injEq, exists_eq_left, exists_eq_left', exists_eq_right, true_and, and_true, false_and, and_false, false_or, or_false, true_or, or_true, reduceIte, if_true, if_false, Bool.not_true, Bool.not_false, Bool.true_and, Bool.and_true, Bool.false_and, Bool.and_false, Bool.or_true, Bool.true_or, Bool.or_false, Bool.false_or, Bool.false_eq_true, Bool.true_eq_false, Bool.not_eq_true, decide_eq_true_eq, decide_eq_false_iff_not, decide_true, decide_false, Bool.not_eq_eq_eq_not, List.mem_cons, List.not_mem_nil, ne_eq, not_true_eq_false, not_false_eq_true, reduceCtorEq, Nat.sub_zero, Nat.add_zero, Nat.zero_add, entry, entryL, outs, slotL, knownTy, isB, D.tyn, D.isNon, D.flat, D.feq, D.scalar, sizeLine_eq, Int.cast_ofNat_Int, Nat.reduceAdd, Nat.reduceSub, Nat.reduceMul, Nat.reduceLeDiff, Nat.reduceEqDiff, Nat.reducePow, Nat.reduceLT, Int.reduceLE, Int.reduceLT, Int.reduceNe, Int.reduceEq, Int.reduceAdd, Int.reduceSub, Int.reduceMul, Int.reduceNeg, Int.reduceToNat, Int.reducePow, String.reduceEq, String.reduceBEq, String.reduceBNe, Int.reduceFMod, Int.reduceFDiv, Int.reduceNegSucc, Int.reduceAbs, beq_self_eq_true, t_law_tree, cPull, cAtom]
    repeat' (first | assumption | intro _ | apply And.intro | split | omega)
    · exact ⟨_, _, _, rfl, sx, sy, sz⟩
    · exact h _ (by omega) _ _ _ _ (by assumption)
  · exact h.elim
theorem v_treeS (n : Nat) : ∀ ls kk kx, cTree (n + 1) ls kk kx → t_law_tree cPull cAtom (cTree n) (endsOf [0] ls kk) (entry [0] 6 ls) := by
  intro ls kk kx h
  unfold cTree at h
  split at h
  · rename_i b w ds e
    obtain ⟨hb, ⟨w0, w1⟩, ⟨x, y, z, rfl, sx, sy, sz⟩, rfl, h⟩ := h
    simp (maxSteps := 4000000) only [r_ofStr, r_ofStrB, r_consN, r_consK, r_set0, r_setS, r_isSl0, r_isSlS, r_take0, r_takeS, r_dTake, r_peek0, r_peekS, r_dVar0, r_dVarS, r_seqK, r_seq, r_next, r_exprK, r_expr, r_ret, r_retN, r_ifK, r_if, r_dsSet, r_gName, r_asgK, r_asg, r_gTup, r_gsK, r_gsCons, r_gsNil, r_gStar, r_put0, r_put1, r_put2, r_put3, r_put4, r_boxK, r_gIx, r_gix0, r_gixS, r_setK2, r_parK, r_par, r_augK3, r_augK2, r_augK, r_aug, r_dC, r_opK3, r_opK2, r_opK, r_op, r_bK, r_dB, r_chK4, r_chK2, r_chK1, r_chain, r_andK, r_and, r_orK, r_or, r_notK, r_not, r_andVK, r_andV, r_orVK, r_orV, r_notVK, r_notV, r_difK, r_dIf, r_negK, r_neg, r_aNil, r_acK2, r_acK, r_aCons, r_aoK, r_aOwn, r_borK2, r_borK, r_aBor, r_lstK, r_lst, r_tupK, r_tup, r_retK, r_callK, r_call, r_res0, r_resN, r_resS, r_tmpK, r_tmp, r_frzN, r_frz0, r_frz1, r_at0, r_at1, r_at2, r_at3, r_frK, r_atF0, r_atF1, r_atF2, r_atF3, r_atF4, r_ixTup, r_ixRo, r_ixLst, r_ixStr, r_ixvF, r_ixvB, r_ixvK, r_ixV, r_isBx0, r_isBxS, r_mtK3, r_mtK2, r_mtK, r_mt, r_append, r_reverse, r_pop, r_slK3, r_slK2, r_slK, r_sl, r_oNone, r_osK, r_oSome, r_slLst, r_slRo, r_slTup, r_slStr, r_sqK2, r_sqK, r_iSeq, r_tqK2, r_tqK, r_iTup, r_rg1K, r_iRange1, r_rg2K, r_iRange2, r_forK, r_for, r_bodyK, r_cpEnd, r_cpK, r_comp, r_wipe0, r_wipeS, r_yes, r_cmK3, r_cmK2, r_cmK, r_cmN, r_compC, r_compN, r_endN, r_endR, r_ends, r_outOk0, r_outOkS, r_addI, r_addS, r_addL, r_addT, r_iaddI, r_iaddS, r_sub, r_mulI, r_mod, r_fdiv, r_pow, r_cmpI, r_eqI, r_eqS, r_eqB, r_eqT, r_eqL, r_neI, r_neS, r_neB, r_neT, r_neL, r_isN, r_notN, r_inT, r_inR, r_inL, r_inS, r_notIn, r_c1K, r_con1, r_con2, r_con1F, r_lenL, r_lenT, r_lenR, r_lenS, r_isi1, r_isi2, r_listL, r_listR, r_listT, r_tupleT, r_tupleL, r_intI, r_intB, r_absI, r_bools, r_ints, r_toD, r_toDb, r_toDsN, r_toDsC, r_toDsF, List.getElem?_cons_zero, List.getElem?_cons_succ, List.getElem?_nil, List.set_cons_zero, List.set_cons_succ, List.map_cons, List.map_nil, List.cons_append, List.nil_append, List.append_nil, List.length_cons, List.length_nil, List.length_map, List.length_append, List.replicate_succ, List.replicate_zero, List.all_cons, List.all_nil, List.any_cons, List.any_nil, List.drop_succ_cons, List.drop_zero, List.take_succ_cons, List.take_zero, List.reverse_cons, List.reverse_nil, Option.some.injEq, Option.isSome_some, Option.isSome_none, Option.getD_some, Option.getD_none, Option.map_some, Option.map_none, Option.bind_some, L.fr.injEq, D.bl.injEq, D.int.injEq, D.str.injEq, D.ty.injEq, exists_eq_left, exists_eq_left', exists_eq_right, true_and, and_true, false_and, and_false, false_or, or_false, true_or, or_true, reduceIte, if_true, if_false, Bool.not_true, Bool.not_false, Bool.true_and, Bool.and_true, Bool.false_and, Bool.and_false, Bool.or_true, Bool.true_or, Bool.or_false, Bool.false_or, Bool.false_eq_true, Bool.true_eq_false, Bool.not_eq_true, decide_eq_true_eq, decide_eq_false_iff_not, decide_true, decide_false, Bool.not_eq_eq_eq_not, List.mem_cons, List.not_mem_nil, ne_eq, not_true_eq_false, not_false_eq_true, reduceCtorEq, Nat.sub_zero, Nat.add_zero, Nat.zero_add, entry, entryL, outs, slotL, knownTy, isB, D.tyn, D.isNon, D.flat, D.feq, D.scalar, sizeLine_eq, Int.cast_ofNat_Int, Nat.reduceAdd, Nat.reduceSub, Nat.reduceMul, Nat.reduceLeDiff, Nat.reduceEqDiff, Nat.reducePow, Nat.reduceLT, Int.reduceLE, Int.reduceLT, Int.reduceNe, Int.reduceEq, Int.reduceAdd, Int.reduceSub, Int.reduceMul, Int.reduceNeg, Int.reduceToNat, Int.reducePow, String.reduceEq, String.reduceBEq, String.reduceBNe, Int.reduceFMod, Int.reduceFDiv, Int.reduceNegSucc, Int.reduceAbs, beq_self_eq_true, t_law_tree, cPull, cAtom, cTree]
    repeat' (first | assumption | intro _ | apply And.intro | split | omega)
    all_goals first
      | exact ⟨_, _, _, rfl, sx, sy, sz⟩
      | exact h _ (by omega) _ _ _ _ (by assumption)
      | exact h (.prod _ _) (by simp only [T.h]; omega) _ _ _ _ (by assumption)
      | exact h (.conj _ _) (by simp only [T.h]; omega) _ _ _ _ (by assumption)
      | exact h (.pow _ _) (by simp only [T.h]; omega) _ _ _ _ (by assumption)
  · exact h.elim
/-! ### the program of a tree -/
def cCode (n : Nat) : Con := fun args k _ => ∃ t : T, args = [.fr t.d] ∧ t.h ≤ n ∧ t.code.length ≤ 1000 ∧ ∀ l, k (.box .lst (t.code.map L.fr)) [l]
theorem v_compiled0 : ∀ ls kk kx, cCode 0 ls kk kx → t_compiled cNo (endsOf [] ls kk) (entry [] 4 ls) := by
  rintro _ kk kx ⟨t, rfl, ht, hl, h⟩
  cases t <;> simp only [T.h, Nat.le_zero_eq, Nat.add_one_ne_zero] at ht
  all_goals
    simp only [T.code, T.d] at h
    simp (maxSteps := 4000000) only [r_ofStr, r_ofStrB, r_consN, r_consK, r_set0, r_setS, r_isSl0, r_isSlS, r_take0, r_takeS, r_dTake, r_peek0, r_peekS, r_dVar0, r_dVarS, r_seqK, r_seq, r_next, r_exprK, r_expr, r_ret, r_retN, r_ifK, r_if, r_dsSet, r_gName, r_asgK, r_asg, r_gTup, r_gsK, r_gsCons, r_gsNil, r_gStar, r_put0, r_put1, r_put2, r_put3, r_put4, r_boxK, r_gIx, r_gix0, r_gixS, r_setK2, r_parK, r_par, r_augK3, r_augK2, r_augK, r_aug, r_dC, r_opK3, r_opK2, r_opK, r_op, r_bK, r_dB, r_chK4, r_chK2, r_chK1, r_chain, r_andK, r_and, r_orK, r_or, r_notK, r_not, r_andVK, r_andV, r_orVK, r_orV, r_notVK, r_notV, r_difK, r_dIf, r_negK, r_neg, r_aNil, r_acK2, r_acK, r_aCons, r_aoK, r_aOwn, r_borK2, r_borK, r_aBor, r_lstK, r_lst, r_tupK, r_tup, r_retK, r_callK, r_call, r_res0, r_resN, r_resS, r_tmpK, r_tmp, r_frzN, r_frz0, r_frz1, r_at0, r_at1, r_at2, r_at3, r_frK, r_atF0, r_atF1, r_atF2, r_atF3, r_atF4, r_ixTup, r_ixRo, r_ixLst, r_ixStr, r_ixvF, r_ixvB, r_ixvK, r_ixV, r_isBx0, r_isBxS, r_mtK3, r_mtK2, r_mtK, r_mt, r_append, r_reverse, r_pop, r_slK3, r_slK2, r_slK, r_sl, r_oNone, r_osK, r_oSome, r_slLst, r_slRo, r_slTup, r_slStr, r_sqK2, r_sqK, r_iSeq, r_tqK2, r_tqK, r_iTup, r_rg1K, r_iRange1, r_rg2K, r_iRange2, r_forK, r_for, r_bodyK, r_cpEnd, r_cpK, r_comp, r_wipe0, r_wipeS, r_yes, r_cmK3, r_cmK2, r_cmK, r_cmN, r_compC, r_compN, r_endN, r_endR, r_ends, r_outOk0, r_outOkS, r_addI, r_addS, r_addL, r_addT, r_iaddI, r_iaddS, r_sub, r_mulI, r_mod, r_fdiv, r_pow, r_cmpI, r_eqI, r_eqS, r_eqB, r_eqT, r_eqL, r_neI, r_neS, r_neB, r_neT, r_neL, r_isN, r_notN, r_inT, r_inR, r_inL, r_inS, r_notIn, r_c1K, r_con1, r_con2, r_con1F, r_lenL, r_lenT, r_lenR, r_lenS, r_isi1, r_isi2, r_listL, r_listR, r_listT, r_tupleT, r_tupleL, r_intI, r_intB, r_absI, r_bools, r_ints, r_toD, r_toDb, r_toDsN, r_toDsC, r_toDsF, List.getElem?_cons_zero, List.getElem?_cons_succ, List.getElem?_nil, List.set_cons_zero, List.set_cons_succ, List.map_cons, List.map_nil, List.cons_append, List.nil_append, List.append_nil, List.length_cons, List.length_nil, List.length_map, List.length_append, List.replicate_succ, List.replicate_zero, List.all_cons, List.all_nil, List.any_cons, List.any_nil, List.drop_succ_cons, List.drop_zero, List.take_succ_cons, List.take_zero, List.reverse_cons, List.reverse_nil, Option.some.injEq, Option.isSome_some, Option.isSome_none, Option.getD_some, Option.getD_none, Option.map_some, Option.map_none, Option.bind_some, L.fr.injEq, D.bl.injEq, D.int.injEq, D.str.injEq, D.ty.injEq, exists_eq_left, exists_eq_left', exists_eq_right, true_and, and_true, false_and, and_false, false_or, or_false, true_or, or_true, reduceIte, if_true, if_false, Bool.not_true, Bool.not_false, Bool.true_and, Bool.and_true, Bool.false_and, Bool.and_false, Bool.or_true, Bool.true_or, Bool.or_false, Bool.false_or, Bool.false_eq_true, Bool.true_eq_false, Bool.not_eq_true, decide_eq_true_eq, decide_eq_false_iff_not, decide_true, decide_false, Bool.not_eq_eq_eq_not, List.mem_cons, List.not_mem_nil, ne_eq, not_true_eq_false, not_false_eq_true, reduceCtorEq, Nat.sub_zero, Nat.add_zero, Nat.zero_add, entry, entryL, outs, slotL, knownTy, isB, D.tyn, D.isNon, D.flat, D.feq, D.scalar, sizeLine_eq, Int.cast_ofNat_Int, Nat.reduceAdd, Nat.reduceSub, Nat.reduceMul, Nat.reduceLeDiff, Nat.reduceEqDiff, Nat.reducePow, Nat.reduceLT, Int.reduceLE, Int.reduceLT, Int.reduceNe, Int.reduceEq, Int.reduceAdd, Int.reduceSub, Int.reduceMul, Int.reduceNeg, Int.reduceToNat, Int.reducePow, String.reduceEq, String.reduceBEq, String.reduceBNe, Int.reduceFMod, Int.reduceFDiv, Int.reduceNegSucc, Int.reduceAbs, beq_self_eq_true, t_compiled, T.d]
    exact h _
theorem v_compiledS (n : Nat) : ∀ ls kk kx, cCode (n + 1) ls kk kx → t_compiled (cCode n) (endsOf [] ls kk) (entry [] 4 ls) := by
  rintro _ kk kx ⟨t, rfl, ht, hl, h⟩
  cases t
  all_goals
    simp only [T.code, T.d] at h
    simp only [T.code, T.h, List.length_append, List.length_cons, List.length_nil] at hl ht
    simp (maxSteps := 4000000) only [r_ofStr, r_ofStrB, r_consN, r_consK, r_set0, r_setS, r_isSl0, r_isSlS, r_take0, r_takeS, r_dTake, r_peek0, r_peekS, r_dVar0, r_dVarS, r_seqK, r_seq, r_next, r_exprK, r_expr, r_ret, r_retN, r_ifK, r_if, r_dsSet, r_gName, r_asgK, r_asg, r_gTup, r_gsK, r_gsCons, r_gsNil, r_gStar, r_put0, r_put1, r_put2, r_put3, r_put4, r_boxK, r_gIx, r_gix0, r_gixS, r_setK2, r_parK, r_par, r_augK3, r_augK2, r_augK, r_aug, r_dC, r_opK3, r_opK2, r_opK, r_op, r_bK, r_dB, r_chK4, r_chK2, r_chK1, r_chain, r_andK, r_and, r_orK, r_or, r_notK, r_not, r_andVK, r_andV, r_orVK, r_orV, r_notVK, r_notV, r_difK, r_dIf, r_negK, r_neg, r_aNil, r_acK2, r_acK, r_aCons, r_aoK, r_aOwn, r_borK2, r_borK, r_aBor, r_lstK, r_lst, r_tupK, r_tup, r_retK, r_callK, r_call, r_res0, r_resN, r_resS, r_tmpK, r_tmp, r_frzN, r_frz0, r_frz1, r_at0, r_at1, r_at2, r_at3, r_frK, r_atF0, r_atF1, r_atF2, r_atF3, r_atF4, r_ixTup, r_ixRo, r_ixLst, r_ixStr, r_ixvF, r_ixvB, r_ixvK, r_ixV, r_isBx0, r_isBxS, r_mtK3, r_mtK2, r_mtK, r_mt, r_append, r_reverse, r_pop, r_slK3, r_slK2, r_slK, r_sl, r_oNone, r_osK, r_oSome, r_slLst, r_slRo, r_slTup, r_slStr, r_sqK2, r_sqK, r_iSeq, r_tqK2, r_tqK, r_iTup, r_rg1K, r_iRange1, r_rg2K, r_iRange2, r_forK, r_for, r_bodyK, r_cpEnd, r_cpK, r_comp, r_wipe0, r_wipeS, r_yes, r_cmK3, r_cmK2, r_cmK, r_cmN, r_compC, r_compN, r_endN, r_endR, r_ends, r_outOk0, r_outOkS, r_addI, r_addS, r_addL, r_addT, r_iaddI, r_iaddS, r_sub, r_mulI, r_mod, r_fdiv, r_pow, r_cmpI, r_eqI, r_eqS, r_eqB, r_eqT, r_eqL, r_neI, r_neS, r_neB, r_neT, r_neL, r_isN, r_notN, r_inT, r_inR, r_inL, r_inS, r_notIn, r_c1K, r_con1, r_con2, r_con1F, r_lenL, r_lenT, r_lenR, r_lenS, r_isi1, r_isi2, r_listL, r_listR, r_listT, r_tupleT, r_tupleL, r_intI, r_intB, r_absI, r_bools, r_ints, r_toD, r_toDb, r_toDsN, r_toDsC, r_toDsF, List.getElem?_cons_zero, List.getElem?_cons_succ, List.getElem?_nil, List.set_cons_zero, List.set_cons_succ, List.map_cons, List.map_nil, List.cons_append, List.nil_append, List.append_nil, List.length_cons, List.length_nil, List.length_map, List.length_append, List.replicate_succ, List.replicate_zero, List.all_cons, List.all_nil, List.any_cons, List.any_nil, List.drop_succ_cons, List.drop_zero, List.take_succ_cons, List.take_zero, List.reverse_cons, List.reverse_nil, Option.some.injEq, Option.isSome_some, Option.isSome_none, Option.getD_some, Option.getD_none, Option.map_some, Option.map_none, Option.bind_some, L.fr.injEq, D.bl.injEq, D.int.injEq, D.str.injEq, D.ty.injEq, exists_eq_left, exists_eq_left', exists_eq_right, true_and, and_true, false_and, and_false, false_or, or_false, true_or, or_true, reduceIte, if_true, if_false, Bool.not_true, Bool.not_false, Bool.true_and, Bool.and_true, Bool.false_and, Bool.and_false, Bool.or_true, Bool.true_or, Bool.or_false, Bool.false_or, Bool.false_eq_true, Bool.true_eq_false, Bool.not_eq_true, decide_eq_true_eq, decide_eq_false_iff_not, decide_true, decide_false, Bool.not_eq_eq_eq_not, List.mem_cons, List.not_mem_nil, ne_eq, not_true_eq_false, not_false_eq_true, reduceCtorEq, Nat.sub_zero, Nat.add_zero, Nat.zero_add, entry, entryL, outs, slotL, knownTy, isB, D.tyn, D.isNon, D.flat, D.feq, D.scalar, sizeLine_eq, Int.cast_ofNat_Int, Nat.reduceAdd, Nat.reduceSub, Nat.reduceMul, Nat.reduceLeDiff, Nat.reduceEqDiff, Nat.reducePow, Nat.reduceLT, Int.reduceLE, Int.reduceLT, Int.reduceNe, Int.reduceEq, Int.reduceAdd, Int.reduceSub, Int.reduceMul, Int.reduceNeg, Int.reduceToNat, Int.reducePow, String.reduceEq, String.reduceBEq, String.reduceBNe, Int.reduceFMod, Int.reduceFDiv, Int.reduceNegSucc, Int.reduceAbs, beq_self_eq_true, t_compiled, T.d, T.code]
  case prod s t =>
    refine ⟨s, rfl, by omega, by omega, fun _ => ?_⟩
    simp (maxSteps := 4000000) only [r_ofStr, r_ofStrB, r_consN, r_consK, r_set0, r_setS, r_isSl0, r_isSlS, r_take0, r_takeS, r_dTake, r_peek0, r_peekS, r_dVar0, r_dVarS, r_seqK, r_seq, r_next, r_exprK, r_expr, r_ret, r_retN, r_ifK, r_if, r_dsSet, r_gName, r_asgK, r_asg, r_gTup, r_gsK, r_gsCons, r_gsNil, r_gStar, r_put0, r_put1, r_put2, r_put3, r_put4, r_boxK, r_gIx, r_gix0, r_gixS, r_setK2, r_parK, r_par, r_augK3, r_augK2, r_augK, r_aug, r_dC, r_opK3, r_opK2, r_opK, r_op, r_bK, r_dB, r_chK4, r_chK2, r_chK1, r_chain, r_andK, r_and, r_orK, r_or, r_notK, r_not, r_andVK, r_andV, r_orVK, r_orV, r_notVK, r_notV, r_difK, r_dIf, r_negK, r_neg, r_aNil, r_acK2, r_acK, r_aCons, r_aoK, r_aOwn, r_borK2, r_borK, r_aBor, r_lstK, r_lst, r_tupK, r_tup, r_retK, r_callK, r_call, r_res0, r_resN, r_resS, r_tmpK, r_tmp, r_frzN, r_frz0, r_frz1, r_at0, r_at1, r_at2, r_at3, r_frK, r_atF0, r_atF1, r_atF2, r_atF3, r_atF4, r_ixTup, r_ixRo, r_ixLst, r_ixStr, r_ixvF, r_ixvB, r_ixvK, r_ixV, r_isBx0, r_isBxS, r_mtK3, r_mtK2, r_mtK, r_mt, r_append, r_reverse, r_pop, r_slK3, r_slK2, r_slK, r_sl, r_oNone, r_osK, r_oSome, r_slLst, r_slRo, r_slTup, r_slStr, r_sqK2, r_sqK, r_iSeq, r_tqK2, r_tqK, r_iTup, r_rg1K, r_iRange1, r_rg2K, r_iRange2, r_forK, r_for, r_bodyK, r_cpEnd, r_cpK, r_comp, r_wipe0, r_wipeS, r_yes, r_cmK3, r_cmK2, r_cmK, r_cmN, r_compC, r_compN, r_endN, r_endR, r_ends, r_outOk0, r_outOkS, r_addI, r_addS, r_addL, r_addT, r_iaddI, r_iaddS, r_sub, r_mulI, r_mod, r_fdiv, r_pow, r_cmpI, r_eqI, r_eqS, r_eqB, r_eqT, r_eqL, r_neI, r_neS, r_neB, r_neT, r_neL, r_isN, r_notN, r_inT, r_inR, r_inL, r_inS, r_notIn, r_c1K, r_con1, r_con2, r_con1F, r_lenL, r_lenT, r_lenR, r_lenS, r_isi1, r_isi2, r_listL, r_listR, r_listT, r_tupleT, r_tupleL, r_intI, r_intB, r_absI, r_bools, r_ints, r_toD, r_toDb, r_toDsN, r_toDsC, r_toDsF, List.getElem?_cons_zero, List.getElem?_cons_succ, List.getElem?_nil, List.set_cons_zero, List.set_cons_succ, List.map_cons, List.map_nil, List.cons_append, List.nil_append, List.append_nil, List.length_cons, List.length_nil, List.length_map, List.length_append, List.replicate_succ, List.replicate_zero, List.all_cons, List.all_nil, List.any_cons, List.any_nil, List.drop_succ_cons, List.drop_zero, List.take_succ_cons, List.take_zero, List.reverse_cons, List.reverse_nil, Option.some.injEq, Option.isSome_some, Option.isSome_none, Option.getD_some, Option.getD_none, Option.map_some, Option.map_none, Option.bind_some, L.fr.injEq, D.bl.injEq, D.int.injEq, D.str.injEq, D.ty.injEq, exists_eq_left, exists_eq_left', exists_eq_right, true_and, and_true, false_and, and_false, false_or, or_false, true_or, or_true, reduceIte, if_true, if_false, Bool.not_true, Bool.not_false, Bool.true_and, Bool.and_true, Bool.false_and, Bool.and_false, Bool.or_true, Bool.true_or, Bool.or_false, Bool.false_or, Bool.false_eq_true, Bool.true_eq_false, Bool.not_eq_true, decide_eq_true_eq, decide_eq_false_iff_not, decide_true, decide_false, Bool.not_eq_eq_eq_not, List.mem_cons, List.not_mem_nil, ne_eq, not_true_eq_false, not_false_eq_true, reduceCtorEq, Nat.sub_zero, Nat.add_zero, Nat.zero_add, entry, entryL, outs, slotL, knownTy, isB, D.tyn, D.isNon, D.flat, D.feq, D.scalar, sizeLine_eq, Int.cast_ofNat_Int, Nat.reduceAdd, Nat.reduceSub, Nat.reduceMul, Nat.reduceLeDiff, Nat.reduceEqDiff, Nat.reducePow, Nat.reduceLT, Int.reduceLE, Int.reduceLT, Int.reduceNe, Int.reduceEq, Int.reduceAdd, Int.reduceSub, Int.reduceMul, Int.reduceNeg, Int.reduceToNat, Int.reducePow, String.reduceEq, String.reduceBEq, String.reduceBNe, Int.reduceFMod, Int.reduceFDiv, Int.reduceNegSucc, Int.reduceAbs, beq_self_eq_true]
    refine ⟨t, rfl, by omega, by omega, fun _ => ?_⟩
    simp (maxSteps := 4000000) only [r_ofStr, r_ofStrB, r_consN, r_consK, r_set0, r_setS, r_isSl0, r_isSlS, r_take0, r_takeS, r_dTake, r_peek0, r_peekS, r_dVar0, r_dVarS, r_seqK, r_seq, r_next, r_exprK, r_expr, r_ret, r_retN, r_ifK, r_if, r_dsSet, r_gName, r_asgK, r_asg, r_gTup, r_gsK, r_gsCons, r_gsNil, r_gStar, r_put0, r_put1, r_put2, r_put3, r_put4, r_boxK, r_gIx, r_gix0, r_gixS, r_setK2, r_parK, r_par, r_augK3, r_augK2, r_augK, r_aug, r_dC, r_opK3, r_opK2, r_opK, r_op, r_bK, r_dB, r_chK4, r_chK2, r_chK1, r_chain, r_andK, r_and, r_orK, r_or, r_notK, r_not, r_andVK, r_andV, r_orVK, r_orV, r_notVK, r_notV, r_difK, r_dIf, r_negK, r_neg, r_aNil, r_acK2, r_acK, r_aCons, r_aoK, r_aOwn, r_borK2, r_borK, r_aBor, r_lstK, r_lst, r_tupK, r_tup, r_retK, r_callK, r_call, r_res0, r_resN, r_resS, r_tmpK, r_tmp, r_frzN, r_frz0, r_frz1, r_at0, r_at1, r_at2, r_at3, r_frK, r_atF0, r_atF1, r_atF2, r_atF3, r_atF4, r_ixTup, r_ixRo, r_ixLst, r_ixStr, r_ixvF, r_ixvB, r_ixvK, r_ixV, r_isBx0, r_isBxS, r_mtK3, r_mtK2, r_mtK, r_mt, r_append, r_reverse, r_pop, r_slK3, r_slK2, r_slK, r_sl, r_oNone, r_osK, r_oSome, r_slLst, r_slRo, r_slTup, r_slStr, r_sqK2, r_sqK, r_iSeq, r_tqK2, r_tqK, r_iTup, r_rg1K, r_iRange1, r_rg2K, r_iRange2, r_forK, r_for, r_bodyK, r_cpEnd, r_cpK, r_comp, r_wipe0, r_wipeS, r_yes, r_cmK3, r_cmK2, r_cmK, r_cmN, r_compC, r_compN, r_endN, r_endR, r_ends, r_outOk0, r_outOkS, r_addI, r_addS, r_addL, r_addT, r_iaddI, r_iaddS, r_sub, r_mulI, r_mod, r_fdiv, r_pow, r_cmpI, r_eqI, r_eqS, r_eqB, r_eqT, r_eqL, r_neI, r_neS, r_neB, r_neT, r_neL, r_isN, r_notN, r_inT, r_inR, r_inL, r_inS, r_notIn, r_c1K, r_con1, r_con2, r_con1F, r_lenL, r_lenT, r_lenR, r_lenS, r_isi1, r_isi2, r_listL, r_listR, r_listT, r_tupleT, r_tupleL, r_intI, r_intB, r_absI, r_bools, r_ints, r_toD, r_toDb, r_toDsN, r_toDsC, r_toDsF, List.getElem?_cons_zero, List.getElem?_cons_succ, List.getElem?_nil, List.set_cons_zero, List.set_cons_succ, List.map_cons, List.map_nil, List.cons_append, List.nil_append, List.append_nil, List.length_cons, List.length_nil, List.length_map, List.length_append, List.replicate_succ, List.replicate_zero, List.all_cons, List.all_nil, List.any_cons, List.any_nil, List.drop_succ_cons, List.drop_zero, List.take_succ_cons, List.take_zero, List.reverse_cons, List.reverse_nil, Option.some.injEq, Option.isSome_some, Option.isSome_none, Option.getD_some, Option.getD_none, Option.map_some, Option.map_none, Option.bind_some, L.fr.injEq, D.bl.injEq, D.int.injEq, D.str.injEq, D.ty.injEq, exists_eq_left, exists_eq_left', exists_eq_right, true_and, and_true, false_and, and_false, false_or, or_false, true_or, or_true, reduceIte, if_true, if_false, Bool.not_true, Bool.not_false, Bool.true_and, Bool.and_true, Bool.false_and, Bool.and_false, Bool.or_true, Bool.true_or, Bool.or_false, Bool.false_or, Bool.false_eq_true, Bool.true_eq_false, Bool.not_eq_true, decide_eq_true_eq, decide_eq_false_iff_not, decide_true, decide_false, Bool.not_eq_eq_eq_not, List.mem_cons, List.not_mem_nil, ne_eq, not_true_eq_false, not_false_eq_true, reduceCtorEq, Nat.sub_zero, Nat.add_zero, Nat.zero_add, entry, entryL, outs, slotL, knownTy, isB, D.tyn, D.isNon, D.flat, D.feq, D.scalar, sizeLine_eq, Int.cast_ofNat_Int, Nat.reduceAdd, Nat.reduceSub, Nat.reduceMul, Nat.reduceLeDiff, Nat.reduceEqDiff, Nat.reducePow, Nat.reduceLT, Int.reduceLE, Int.reduceLT, Int.reduceNe, Int.reduceEq, Int.reduceAdd, Int.reduceSub, Int.reduceMul, Int.reduceNeg, Int.reduceToNat, Int.reducePow, String.reduceEq, String.reduceBEq, String.reduceBNe, Int.reduceFMod, Int.reduceFDiv, Int.reduceNegSucc, Int.reduceAbs, beq_self_eq_true]
    exact ⟨by omega, by omega, h _⟩
  case conj s t =>
    refine ⟨s, rfl, by omega, by omega, fun _ => ?_⟩
    simp (maxSteps := 4000000) only [r_ofStr, r_ofStrB, r_consN, r_consK, r_set0, r_setS, r_isSl0, r_isSlS, r_take0, r_takeS, r_dTake, r_peek0, r_peekS, r_dVar0, r_dVarS, r_seqK, r_seq, r_next, r_exprK, r_expr, r_ret, r_retN, r_ifK, r_if, r_dsSet, r_gName, r_asgK, r_asg, r_gTup, r_gsK, r_gsCons, r_gsNil, r_gStar, r_put0, r_put1, r_put2, r_put3, r_put4, r_boxK, r_gIx, r_gix0, r_gixS, r_setK2, r_parK, r_par, r_augK3, r_augK2, r_augK, r_aug, r_dC, r_opK3, r_opK2, r_opK, r_op, r_bK, r_dB, r_chK4, r_chK2, r_chK1, r_chain, r_andK, r_and, r_orK, r_or, r_notK, r_not, r_andVK, r_andV, r_orVK, r_orV, r_notVK, r_notV, r_difK, r_dIf, r_negK, r_neg, r_aNil, r_acK2, r_acK, r_aCons, r_aoK, r_aOwn, r_borK2, r_borK, r_aBor, r_lstK, r_lst, r_tupK, r_tup, r_retK, r_callK, r_call, r_res0, r_resN, r_resS, r_tmpK, r_tmp, r_frzN, r_frz0, r_frz1, r_at0, r_at1, r_at2, r_at3, r_frK, r_atF0, r_atF1, r_atF2, r_atF3, r_atF4, r_ixTup, r_ixRo, r_ixLst, r_ixStr, r_ixvF, r_ixvB, r_ixvK, r_ixV, r_isBx0, r_isBxS, r_mtK3, r_mtK2, r_mtK, r_mt, r_append, r_reverse, r_pop, r_slK3, r_slK2, r_slK, r_sl, r_oNone, r_osK, r_oSome, r_slLst, r_slRo, r_slTup, r_slStr, r_sqK2, r_sqK, r_iSeq, r_tqK2, r_tqK, r_iTup, r_rg1K, r_iRange1, r_rg2K, r_iRange2, r_forK, r_for, r_bodyK, r_cpEnd, r_cpK, r_comp, r_wipe0, r_wipeS, r_yes, r_cmK3, r_cmK2, r_cmK, r_cmN, r_compC, r_compN, r_endN, r_endR, r_ends, r_outOk0, r_outOkS, r_addI, r_addS, r_addL, r_addT, r_iaddI, r_iaddS, r_sub, r_mulI, r_mod, r_fdiv, r_pow, r_cmpI, r_eqI, r_eqS, r_eqB, r_eqT, r_eqL, r_neI, r_neS, r_neB, r_neT, r_neL, r_isN, r_notN, r_inT, r_inR, r_inL, r_inS, r_notIn, r_c1K, r_con1, r_con2, r_con1F, r_lenL, r_lenT, r_lenR, r_lenS, r_isi1, r_isi2, r_listL, r_listR, r_listT, r_tupleT, r_tupleL, r_intI, r_intB, r_absI, r_bools, r_ints, r_toD, r_toDb, r_toDsN, r_toDsC, r_toDsF, List.getElem?_cons_zero, List.getElem?_cons_succ, List.getElem?_nil, List.set_cons_zero, List.set_cons_succ, List.map_cons, List.map_nil, List.cons_append, List.nil_append, List.append_nil, List.length_cons, List.length_nil, List.length_map, List.length_append, List.replicate_succ, List.replicate_zero, List.all_cons, List.all_nil, List.any_cons, List.any_nil, List.drop_succ_cons, List.drop_zero, List.take_succ_cons, List.take_zero, List.reverse_cons, List.reverse_nil, Option.some.injEq, Option.isSome_some, Option.isSome_none, Option.getD_some, Option.getD_none, Option.map_some, Option.map_none, Option.bind_some, L.fr.injEq, D.bl.injEq, D.int.injEq, D.str.injEq, D.ty.injEq, exists_eq_left, exists_eq_left', exists_eq_right, true_and, and_true, false_and, and_false, false_or, or_false, true_or, or_true, reduceIte, if_true, if_false, Bool.not_true, Bool.not_false, Bool.true_and, Bool.and_true, Bool.false_and, Bool.and_false, Bool.or_true, Bool.true_or, Bool.or_false, Bool.false_or, Bool.false_eq_true, Bool.true_eq_false, Bool.not_eq_true, decide_eq_true_eq, decide_eq_false_iff_not, decide_true, decide_false, Bool.not_eq_eq_eq_not, List.mem_cons, List.not_mem_nil, ne_eq, not_true_eq_false, not_false_eq_true, reduceCtorEq, Nat.sub_zero, Nat.add_zero, Nat.zero_add, entry, entryL, outs, slotL, knownTy, isB, D.tyn, D.isNon, D.flat, D.feq, D.scalar, sizeLine_eq, Int.cast_ofNat_Int, Nat.reduceAdd, Nat.reduceSub, Nat.reduceMul, Nat.reduceLeDiff, Nat.reduceEqDiff, Nat.reducePow, Nat.reduceLT, Int.reduceLE, Int.reduceLT, Int.reduceNe, Int.reduceEq, Int.reduceAdd, Int.reduceSub, Int.reduceMul, Int.reduceNeg, Int.reduceToNat, Int.reducePow, String.reduceEq, String.reduceBEq, String.reduceBNe, Int.reduceFMod, Int.reduceFDiv, Int.reduceNegSucc, Int.reduceAbs, beq_self_eq_true]
    refine ⟨t, rfl, by omega, by omega, fun _ => ?_⟩
    simp (maxSteps := 4000000) only [r_ofStr, r_ofStrB, r_consN, r_consK, r_set0, r_setS, r_isSl0, r_isSlS, r_take0, r_takeS, r_dTake, r_peek0, r_peekS, r_dVar0, r_dVarS, r_seqK, r_seq, r_next, r_exprK, r_expr, r_ret, r_retN, r_ifK, r_if, r_dsSet, r_gName, r_asgK, r_asg, r_gTup, r_gsK, r_gsCons, r_gsNil, r_gStar, r_put0, r_put1, r_put2, r_put3, r_put4, r_boxK, r_gIx, r_gix0, r_gixS, r_setK2, r_parK, r_par, r_augK3, r_augK2, r_augK, r_aug, r_dC, r_opK3, r_opK2, r_opK, r_op, r_bK, r_dB, r_chK4, r_chK2, r_chK1, r_chain, r_andK, r_and, r_orK, r_or, r_notK, r_not, r_andVK, r_andV, r_orVK, r_orV, r_notVK, r_notV, r_difK, r_dIf, r_negK, r_neg, r_aNil, r_acK2, r_acK, r_aCons, r_aoK, r_aOwn, r_borK2, r_borK, r_aBor, r_lstK, r_lst, r_tupK, r_tup, r_retK, r_callK, r_call, r_res0, r_resN, r_resS, r_tmpK, r_tmp, r_frzN, r_frz0, r_frz1, r_at0, r_at1, r_at2, r_at3, r_frK, r_atF0, r_atF1, r_atF2, r_atF3, r_atF4, r_ixTup, r_ixRo, r_ixLst, r_ixStr, r_ixvF, r_ixvB, r_ixvK, r_ixV, r_isBx0, r_isBxS, r_mtK3, r_mtK2, r_mtK, r_mt, r_append, r_reverse, r_pop, r_slK3, r_slK2, r_slK, r_sl, r_oNone, r_osK, r_oSome, r_slLst, r_slRo, r_slTup, r_slStr, r_sqK2, r_sqK, r_iSeq, r_tqK2, r_tqK, r_iTup, r_rg1K, r_iRange1, r_rg2K, r_iRange2, r_forK, r_for, r_bodyK, r_cpEnd, r_cpK, r_comp, r_wipe0, r_wipeS, r_yes, r_cmK3, r_cmK2, r_cmK, r_cmN, r_compC, r_compN, r_endN, r_endR, r_ends, r_outOk0, r_outOkS, r_addI, r_addS, r_addL, r_addT, r_iaddI, r_iaddS, r_sub, r_mulI, r_mod, r_fdiv, r_pow, r_cmpI, r_eqI, r_eqS, r_eqB, r_eqT, r_eqL, r_neI, r_neS, r_neB, r_neT, r_neL, r_isN, r_notN, r_inT, r_inR, r_inL, r_inS, r_notIn, r_c1K, r_con1, r_con2, r_con1F, r_lenL, r_lenT, r_lenR, r_lenS, r_isi1, r_isi2, r_listL, r_listR, r_listT, r_tupleT, r_tupleL, r_intI, r_intB, r_absI, r_bools, r_ints, r_toD, r_toDb, r_toDsN, r_toDsC, r_toDsF, List.getElem?_cons_zero, List.getElem?_cons_succ, List.getElem?_nil, List.set_cons_zero, List.set_cons_succ, List.map_cons, List.map_nil, List.cons_append, List.nil_append, List.append_nil, List.length_cons, List.length_nil, List.length_map, List.length_append, List.replicate_succ, List.replicate_zero, List.all_cons, List.all_nil, List.any_cons, List.any_nil, List.drop_succ_cons, List.drop_zero, List.take_succ_cons, List.take_zero, List.reverse_cons, List.reverse_nil, Option.some.injEq, Option.isSome_some, Option.isSome_none, Option.getD_some, Option.getD_none, Option.map_some, Option.map_none, Option.bind_some, L.fr.injEq, D.bl.injEq, D.int.injEq, D.str.injEq, D.ty.injEq, exists_eq_left, exists_eq_left', exists_eq_right, true_and, and_true, false_and, and_false, false_or, or_false, true_or, or_true, reduceIte, if_true, if_false, Bool.not_true, Bool.not_false, Bool.true_and, Bool.and_true, Bool.false_and, Bool.and_false, Bool.or_true, Bool.true_or, Bool.or_false, Bool.false_or, Bool.false_eq_true, Bool.true_eq_false, Bool.not_eq_true, decide_eq_true_eq, decide_eq_false_iff_not, decide_true, decide_false, Bool.not_eq_eq_eq_not, List.mem_cons, List.not_mem_nil, ne_eq, not_true_eq_false, not_false_eq_true, reduceCtorEq, Nat.sub_zero, Nat.add_zero, Nat.zero_add, entry, entryL, outs, slotL, knownTy, isB, D.tyn, D.isNon, D.flat, D.feq, D.scalar, sizeLine_eq, Int.cast_ofNat_Int, Nat.reduceAdd, Nat.reduceSub, Nat.reduceMul, Nat.reduceLeDiff, Nat.reduceEqDiff, Nat.reducePow, Nat.reduceLT, Int.reduceLE, Int.reduceLT, Int.reduceNe, Int.reduceEq, Int.reduceAdd, Int.reduceSub, Int.reduceMul, Int.reduceNeg, Int.reduceToNat, Int.reducePow, String.reduceEq, String.reduceBEq, String.reduceBNe, Int.reduceFMod, Int.reduceFDiv, Int.reduceNegSucc, Int.reduceAbs, beq_self_eq_true]
    exact ⟨by omega, by omega, h _⟩
  case pow s k =>
    refine ⟨s, rfl, by omega, by omega, fun _ => ?_⟩
    simp (maxSteps := 4000000) only [r_ofStr, r_ofStrB, r_consN, r_consK, r_set0, r_setS, r_isSl0, r_isSlS, r_take0, r_takeS, r_dTake, r_peek0, r_peekS, r_dVar0, r_dVarS, r_seqK, r_seq, r_next, r_exprK, r_expr, r_ret, r_retN, r_ifK, r_if, r_dsSet, r_gName, r_asgK, r_asg, r_gTup, r_gsK, r_gsCons, r_gsNil, r_gStar, r_put0, r_put1, r_put2, r_put3, r_put4, r_boxK, r_gIx, r_gix0, r_gixS, r_setK2, r_parK, r_par, r_augK3, r_augK2, r_augK, r_aug, r_dC, r_opK3, r_opK2, r_opK, r_op, r_bK, r_dB, r_chK4, r_chK2, r_chK1, r_chain, r_andK, r_and, r_orK, r_or, r_notK, r_not, r_andVK, r_andV, r_orVK, r_orV, r_notVK, r_notV, r_difK, r_dIf, r_negK, r_neg, r_aNil, r_acK2, r_acK, r_aCons, r_aoK, r_aOwn, r_borK2, r_borK, r_aBor, r_lstK, r_lst, r_tupK, r_tup, r_retK, r_callK, r_call, r_res0, r_resN, r_resS, r_tmpK, r_tmp, r_frzN, r_frz0, r_frz1, r_at0, r_at1, r_at2, r_at3, r_frK, r_atF0, r_atF1, r_atF2, r_atF3, r_atF4, r_ixTup, r_ixRo, r_ixLst, r_ixStr, r_ixvF, r_ixvB, r_ixvK, r_ixV, r_isBx0, r_isBxS, r_mtK3, r_mtK2, r_mtK, r_mt, r_append, r_reverse, r_pop, r_slK3, r_slK2, r_slK, r_sl, r_oNone, r_osK, r_oSome, r_slLst, r_slRo, r_slTup, r_slStr, r_sqK2, r_sqK, r_iSeq, r_tqK2, r_tqK, r_iTup, r_rg1K, r_iRange1, r_rg2K, r_iRange2, r_forK, r_for, r_bodyK, r_cpEnd, r_cpK, r_comp, r_wipe0, r_wipeS, r_yes, r_cmK3, r_cmK2, r_cmK, r_cmN, r_compC, r_compN, r_endN, r_endR, r_ends, r_outOk0, r_outOkS, r_addI, r_addS, r_addL, r_addT, r_iaddI, r_iaddS, r_sub, r_mulI, r_mod, r_fdiv, r_pow, r_cmpI, r_eqI, r_eqS, r_eqB, r_eqT, r_eqL, r_neI, r_neS, r_neB, r_neT, r_neL, r_isN, r_notN, r_inT, r_inR, r_inL, r_inS, r_notIn, r_c1K, r_con1, r_con2, r_con1F, r_lenL, r_lenT, r_lenR, r_lenS, r_isi1, r_isi2, r_listL, r_listR, r_listT, r_tupleT, r_tupleL, r_intI, r_intB, r_absI, r_bools, r_ints, r_toD, r_toDb, r_toDsN, r_toDsC, r_toDsF, List.getElem?_cons_zero, List.getElem?_cons_succ, List.getElem?_nil, List.set_cons_zero, List.set_cons_succ, List.map_cons, List.map_nil, List.cons_append, List.nil_append, List.append_nil, List.length_cons, List.length_nil, List.length_map, List.length_append, List.replicate_succ, List.replicate_zero, List.all_cons, List.all_nil, List.any_cons, List.any_nil, List.drop_succ_cons, List.drop_zero, List.take_succ_cons, List.take_zero, List.reverse_cons, List.reverse_nil, Option.some.injEq, Option.isSome_some, Option.isSome_none, Option.getD_some, Option.getD_none, Option.map_some, Option.map_none, Option.bind_some, L.fr.injEq, D.bl.injEq, D.int.injEq, D.str.injEq, D.ty.injEq, exists_eq_left, exists_eq_left', exists_eq_right, true_and, and_true, false_and, and_false, false_or, or_false, true_or, or_true, reduceIte, if_true, if_false, Bool.not_true, Bool.not_false, Bool.true_and, Bool.and_true, Bool.false_and, Bool.and_false, Bool.or_true, Bool.true_or, Bool.or_false, Bool.false_or, Bool.false_eq_true, Bool.true_eq_false, Bool.not_eq_true, decide_eq_true_eq, decide_eq_false_iff_not, decide_true, decide_false, Bool.not_eq_eq_eq_not, List.mem_cons, List.not_mem_nil, ne_eq, not_true_eq_false, not_false_eq_true, reduceCtorEq, Nat.sub_zero, Nat.add_zero, Nat.zero_add, entry, entryL, outs, slotL, knownTy, isB, D.tyn, D.isNon, D.flat, D.feq, D.scalar, sizeLine_eq, Int.cast_ofNat_Int, Nat.reduceAdd, Nat.reduceSub, Nat.reduceMul, Nat.reduceLeDiff, Nat.reduceEqDiff, Nat.reducePow, Nat.reduceLT, Int.reduceLE, Int.reduceLT, Int.reduceNe, Int.reduceEq, Int.reduceAdd, Int.reduceSub, Int.reduceMul, Int.reduceNeg, Int.reduceToNat, Int.reducePow, String.reduceEq, String.reduceBEq, String.reduceBNe, Int.reduceFMod, Int.reduceFDiv, Int.reduceNegSucc, Int.reduceAbs, beq_self_eq_true]
    exact ⟨by omega, h _⟩
  all_goals exact h _
theorem v_program0 : ∀ ls kk kx, cCode 0 ls kk kx → t_law_program cNo (endsOf [] ls kk) (entry [] 2 ls) := by
  rintro _ kk kx ⟨t, rfl, ht, hl, h⟩
  cases t <;> simp only [T.h, Nat.le_zero_eq, Nat.add_one_ne_zero] at ht
  all_goals
    simp only [T.code, T.d] at h
    simp (maxSteps := 4000000) only [r_ofStr, r_ofStrB, r_consN, r_consK, r_set0, r_setS, r_isSl0, r_isSlS, r_take0, r_takeS, r_dTake, r_peek0, r_peekS, r_dVar0, r_dVarS, r_seqK, r_seq, r_next, r_exprK, r_expr, r_ret, r_retN, r_ifK, r_if, r_dsSet, r_gName, r_asgK, r_asg, r_gTup, r_gsK, r_gsCons, r_gsNil, r_gStar, r_put0, r_put1, r_put2, r_put3, r_put4, r_boxK, r_gIx, r_gix0, r_gixS, r_setK2, r_parK, r_par, r_augK3, r_augK2, r_augK, r_aug, r_dC, r_opK3, r_opK2, r_opK, r_op, r_bK, r_dB, r_chK4, r_chK2, r_chK1, r_chain, r_andK, r_and, r_orK, r_or, r_notK, r_not, r_andVK, r_andV, r_orVK, r_orV, r_notVK, r_notV, r_difK, r_dIf, r_negK, r_neg, r_aNil, r_acK2, r_acK, r_aCons, r_aoK, r_aOwn, r_borK2, r_borK, r_aBor, r_lstK, r_lst, r_tupK, r_tup, r_retK, r_callK, r_call, r_res0, r_resN, r_resS, r_tmpK, r_tmp, r_frzN, r_frz0, r_frz1, r_at0, r_at1, r_at2, r_at3, r_frK, r_atF0, r_atF1, r_atF2, r_atF3, r_atF4, r_ixTup, r_ixRo, r_ixLst, r_ixStr, r_ixvF, r_ixvB, r_ixvK, r_ixV, r_isBx0, r_isBxS, r_mtK3, r_mtK2, r_mtK, r_mt, r_append, r_reverse, r_pop, r_slK3, r_slK2, r_slK, r_sl, r_oNone, r_osK, r_oSome, r_slLst, r_slRo, r_slTup, r_slStr, r_sqK2, r_sqK, r_iSeq, r_tqK2, r_tqK, r_iTup, r_rg1K, r_iRange1, r_rg2K, r_iRange2, r_forK, r_for, r_bodyK, r_cpEnd, r_cpK, r_comp, r_wipe0, r_wipeS, r_yes, r_cmK3, r_cmK2, r_cmK, r_cmN, r_compC, r_compN, r_endN, r_endR, r_ends, r_outOk0, r_outOkS, r_addI, r_addS, r_addL, r_addT, r_iaddI, r_iaddS, r_sub, r_mulI, r_mod, r_fdiv, r_pow, r_cmpI, r_eqI, r_eqS, r_eqB, r_eqT, r_eqL, r_neI, r_neS, r_neB, r_neT, r_neL, r_isN, r_notN, r_inT, r_inR, r_inL, r_inS, r_notIn, r_c1K, r_con1, r_con2, r_con1F, r_lenL, r_lenT, r_lenR, r_lenS, r_isi1, r_isi2, r_listL, r_listR, r_listT, r_tupleT, r_tupleL, r_intI, r_intB, r_absI, r_bools, r_ints, r_toD, r_toDb, r_toDsN, r_toDsC, r_toDsF, List.getElem?_cons_zero, List.getElem?_cons_succ, List.getElem?_nil, List.set_cons_zero, List.set_cons_succ, List.map_cons, List.map_nil, List.cons_append, List.nil_append, List.append_nil, List.length_cons, List.length_nil, List.length_map, List.length_append, List.replicate_succ, List.replicate_zero, List.all_cons, List.all_nil, List.any_cons, List.any_nil, List.drop_succ_cons, List.drop_zero, List.take_succ_cons, List.take_zero, List.reverse_cons, List.reverse_nil, Option.some.injEq, Option.isSome_some, Option.isSome_none, Option.getD_some, Option.getD_none, Option.map_some, Option.map_none, Option.bind_some, L.fr.injEq, D.bl.injEq, D.int.injEq, D.str.injEq, D.ty.injEq, exists_eq_left, exists_eq_left', exists_eq_right, true_and, and_true, false_and, and_false, false_or, or_false, true_or, or_true, reduceIte, if_true, if_false, Bool.not_true, Bool.not_false, Bool.true_and, Bool.and_true, Bool.false_and, Bool.and_false, Bool.or_true, Bool.true_or, Bool.or_false, Bool.false_or, Bool.false_eq_true, Bool.true_eq_false, Bool.not_eq_true, decide_eq_true_eq, decide_eq_false_iff_not, decide_true, decide_false, Bool.not_eq_eq_eq_not, List.mem_cons, List.not_mem_nil, ne_eq, not_true_eq_false, not_false_eq_true, reduceCtorEq, Nat.sub_zero, Nat.add_zero, Nat.zero_add, entry, entryL, outs, slotL, knownTy, isB, D.tyn, D.isNon, D.flat, D.feq, D.scalar, sizeLine_eq, Int.cast_ofNat_Int, Nat.reduceAdd, Nat.reduceSub, Nat.reduceMul, Nat.reduceLeDiff, Nat.reduceEqDiff, Nat.reducePow, Nat.reduceLT, Int.reduceLE, Int.reduceLT, Int.reduceNe, Int.reduceEq, Int.reduceAdd, Int.reduceSub, Int.reduceMul, Int.reduceNeg, Int.reduceToNat, Int.reducePow, String.reduceEq, String.reduceBEq, String.reduceBNe, Int.reduceFMod, Int.reduceFDiv, Int.reduceNegSucc, Int.reduceAbs, beq_self_eq_true, t_law_program, T.d]
    exact h _
theorem v_programS (n : Nat) : ∀ ls kk kx, cCode (n + 1) ls kk kx → t_law_program (cCode n) (endsOf [] ls kk) (entry [] 2 ls) := by
  rintro _ kk kx ⟨t, rfl, ht, hl, h⟩
  cases t
  all_goals
    simp only [T.code, T.d] at h
    simp only [T.code, T.h, List.length_append, List.length_cons, List.length_nil] at hl ht
    simp (maxSteps := 4000000) only [r_ofStr, r_ofStrB, r_consN, r_consK, r_set0, r_setS, r_isSl0, r_isSlS, r_take0, r_takeS, r_dTake, r_peek0, r_peekS, r_dVar0, r_dVarS, r_seqK, r_seq, r_next, r_exprK, r_expr, r_ret, r_retN, r_ifK, r_if, r_dsSet, r_gName, r_asgK, r_asg, r_gTup, r_gsK, r_gsCons, r_gsNil, r_gStar, r_put0, r_put1, r_put2, r_put3, r_put4, r_boxK, r_gIx, r_gix0, r_gixS, r_setK2, r_parK, r_par, r_augK3, r_augK2, r_augK, r_aug, r_dC, r_opK3, r_opK2, r_opK, r_op, r_bK, r_dB, r_chK4, r_chK2, r_chK1, r_chain, r_andK, r_and, r_orK, r_or, r_notK, r_not, r_andVK, r_andV, r_orVK, r_orV, r_notVK, r_notV, r_difK, r_dIf, r_negK, r_neg, r_aNil, r_acK2, r_acK, r_aCons, r_aoK, r_aOwn, r_borK2, r_borK, r_aBor, r_lstK, r_lst, r_tupK, r_tup, r_retK, r_callK, r_call, r_res0, r_resN, r_resS, r_tmpK, r_tmp, r_frzN, r_frz0, r_frz1, r_at0, r_at1, r_at2, r_at3, r_frK, r_atF0, r_atF1, r_atF2, r_atF3, r_atF4, r_ixTup, r_ixRo, r_ixLst, r_ixStr, r_ixvF, r_ixvB, r_ixvK, r_ixV, r_isBx0, r_isBxS, r_mtK3, r_mtK2, r_mtK, r_mt, r_append, r_reverse, r_pop, r_slK3, r_slK2, r_slK, r_sl, r_oNone, r_osK, r_oSome, r_slLst, r_slRo, r_slTup, r_slStr, r_sqK2, r_sqK, r_iSeq, r_tqK2, r_tqK, r_iTup, r_rg1K, r_iRange1, r_rg2K, r_iRange2, r_forK, r_for, r_bodyK, r_cpEnd, r_cpK, r_comp, r_wipe0, r_wipeS, r_yes, r_cmK3, r_cmK2, r_cmK, r_cmN, r_compC, r_compN, r_endN, r_endR, r_ends, r_outOk0, r_outOkS, r_addI, r_addS, r_addL, r_addT, r_iaddI, r_iaddS, r_sub, r_mulI, r_mod, r_fdiv, r_pow, r_cmpI, r_eqI, r_eqS, r_eqB, r_eqT, r_eqL, r_neI, r_neS, r_neB, r_neT, r_neL, r_isN, r_notN, r_inT, r_inR, r_inL, r_inS, r_notIn, r_c1K, r_con1, r_con2, r_con1F, r_lenL, r_lenT, r_lenR, r_lenS, r_isi1, r_isi2, r_listL, r_listR, r_listT, r_tupleT, r_tupleL, r_intI, r_intB, r_absI, r_bools, r_ints, r_toD, r_toDb, r_toDsN, r_toDsC, r_toDsF, List.getElem?_cons_zero, List.getElem?_cons_succ, List.getElem?_nil, List.set_cons_zero, List.set_cons_succ, List.map_cons, List.map_nil, List.cons_append, List.nil_append, List.append_nil, List.length_cons, List.length_nil, List.length_map, List.length_append, List.replicate_succ, List.replicate_zero, List.all_cons, List.all_nil, List.any_cons, List.any_nil, List.drop_succ_cons, List.drop_zero, List.take_succ_cons, List.take_zero, List.reverse_cons, List.reverse_nil, Option.some.injEq, Option.isSome_some, Option.isSome_none, Option.getD_some, Option.getD_none, Option.map_some, Option.map_none, Option.bind_some, L.fr.injEq, D.bl.injEq, D.int.injEq, D.str.injEq, D.ty.injEq, exists_eq_left, exists_eq_left', exists_eq_right, true_and, and_true, false_and, and_false, false_or, or_false, true_or, or_true, reduceIte, if_true, if_false, Bool.not_true, Bool.not_false, Bool.true_and, Bool.and_true, Bool.false_and, Bool.and_false, Bool.or_true, Bool.true_or, Bool.or_false, Bool.false_or, Bool.false_eq_true, Bool.true_eq_false, Bool.not_eq_true, decide_eq_true_eq, decide_eq_false_iff_not, decide_true, decide_false, Bool.not_eq_eq_eq_not, List.mem_cons, List.not_mem_nil, ne_eq, not_true_eq_false, not_false_eq_true, reduceCtorEq, Nat.sub_zero, Nat.add_zero, Nat.zero_add, entry, entryL, outs, slotL, knownTy, isB, D.tyn, D.isNon, D.flat, D.feq, D.scalar, sizeLine_eq, Int.cast_ofNat_Int, Nat.reduceAdd, Nat.reduceSub, Nat.reduceMul, Nat.reduceLeDiff, Nat.reduceEqDiff, Nat.reducePow, Nat.reduceLT, Int.reduceLE, Int.reduceLT, Int.reduceNe, Int.reduceEq, Int.reduceAdd, Int.reduceSub, Int.reduceMul, Int.reduceNeg, Int.reduceToNat, Int.reducePow, String.reduceEq, String.reduceBEq, String.reduceBNe, Int.reduceFMod, Int.reduceFDiv, Int.reduceNegSucc, Int.reduceAbs, beq_self_eq_true, t_law_program, T.d, T.code]
  case prod s t =>
    refine ⟨s, rfl, by omega, by omega, fun _ => ?_⟩
    simp (maxSteps := 4000000) only [r_ofStr, r_ofStrB, r_consN, r_consK, r_set0, r_setS, r_isSl0, r_isSlS, r_take0, r_takeS, r_dTake, r_peek0, r_peekS, r_dVar0, r_dVarS, r_seqK, r_seq, r_next, r_exprK, r_expr, r_ret, r_retN, r_ifK, r_if, r_dsSet, r_gName, r_asgK, r_asg, r_gTup, r_gsK, r_gsCons, r_gsNil, r_gStar, r_put0, r_put1, r_put2, r_put3, r_put4, r_boxK, r_gIx, r_gix0, r_gixS, r_setK2, r_parK, r_par, r_augK3, r_augK2, r_augK, r_aug, r_dC, r_opK3, r_opK2, r_opK, r_op, r_bK, r_dB, r_chK4, r_chK2, r_chK1, r_chain, r_andK, r_and, r_orK, r_or, r_notK, r_not, r_andVK, r_andV, r_orVK, r_orV, r_notVK, r_notV, r_difK, r_dIf, r_negK, r_neg, r_aNil, r_acK2, r_acK, r_aCons, r_aoK, r_aOwn, r_borK2, r_borK, r_aBor, r_lstK, r_lst, r_tupK, r_tup, r_retK, r_callK, r_call, r_res0, r_resN, r_resS, r_tmpK, r_tmp, r_frzN, r_frz0, r_frz1, r_at0, r_at1, r_at2, r_at3, r_frK, r_atF0, r_atF1, r_atF2, r_atF3, r_atF4, r_ixTup, r_ixRo, r_ixLst, r_ixStr, r_ixvF, r_ixvB, r_ixvK, r_ixV, r_isBx0, r_isBxS, r_mtK3, r_mtK2, r_mtK, r_mt, r_append, r_reverse, r_pop, r_slK3, r_slK2, r_slK, r_sl, r_oNone, r_osK, r_oSome, r_slLst, r_slRo, r_slTup, r_slStr, r_sqK2, r_sqK, r_iSeq, r_tqK2, r_tqK, r_iTup, r_rg1K, r_iRange1, r_rg2K, r_iRange2, r_forK, r_for, r_bodyK, r_cpEnd, r_cpK, r_comp, r_wipe0, r_wipeS, r_yes, r_cmK3, r_cmK2, r_cmK, r_cmN, r_compC, r_compN, r_endN, r_endR, r_ends, r_outOk0, r_outOkS, r_addI, r_addS, r_addL, r_addT, r_iaddI, r_iaddS, r_sub, r_mulI, r_mod, r_fdiv, r_pow, r_cmpI, r_eqI, r_eqS, r_eqB, r_eqT, r_eqL, r_neI, r_neS, r_neB, r_neT, r_neL, r_isN, r_notN, r_inT, r_inR, r_inL, r_inS, r_notIn, r_c1K, r_con1, r_con2, r_con1F, r_lenL, r_lenT, r_lenR, r_lenS, r_isi1, r_isi2, r_listL, r_listR, r_listT, r_tupleT, r_tupleL, r_intI, r_intB, r_absI, r_bools, r_ints, r_toD, r_toDb, r_toDsN, r_toDsC, r_toDsF, List.getElem?_cons_zero, List.getElem?_cons_succ, List.getElem?_nil, List.set_cons_zero, List.set_cons_succ, List.map_cons, List.map_nil, List.cons_append, List.nil_append, List.append_nil, List.length_cons, List.length_nil, List.length_map, List.length_append, List.replicate_succ, List.replicate_zero, List.all_cons, List.all_nil, List.any_cons, List.any_nil, List.drop_succ_cons, List.drop_zero, List.take_succ_cons, List.take_zero, List.reverse_cons, List.reverse_nil, Option.some.injEq, Option.isSome_some, Option.isSome_none, Option.getD_some, Option.getD_none, Option.map_some, Option.map_none, Option.bind_some, L.fr.injEq, D.bl.injEq, D.int.injEq, D.str.injEq, D.ty.injEq, exists_eq_left, exists_eq_left', exists_eq_right, true_and, and_true, false_and, and_false, false_or, or_false, true_or, or_true, reduceIte, if_true, if_false, Bool.not_true, Bool.not_false, Bool.true_and, Bool.and_true, Bool.false_and, Bool.and_false, Bool.or_true, Bool.true_or, Bool.or_false, Bool.false_or, Bool.false_eq_true, Bool.true_eq_false, Bool.not_eq_true, decide_eq_true_eq, decide_eq_false_iff_not, decide_true, decide_false, Bool.not_eq_eq_eq_not, List.mem_cons, List.not_mem_nil, ne_eq, not_true_eq_false, not_false_eq_true, reduceCtorEq, Nat.sub_zero, Nat.add_zero, Nat.zero_add, entry, entryL, outs, slotL, knownTy, isB, D.tyn, D.isNon, D.flat, D.feq, D.scalar, sizeLine_eq, Int.cast_ofNat_Int, Nat.reduceAdd, Nat.reduceSub, Nat.reduceMul, Nat.reduceLeDiff, Nat.reduceEqDiff, Nat.reducePow, Nat.reduceLT, Int.reduceLE, Int.reduceLT, Int.reduceNe, Int.reduceEq, Int.reduceAdd, Int.reduceSub, Int.reduceMul, Int.reduceNeg, Int.reduceToNat, Int.reducePow, String.reduceEq, String.reduceBEq, String.reduceBNe, Int.reduceFMod, Int.reduceFDiv, Int.reduceNegSucc, Int.reduceAbs, beq_self_eq_true]
    refine ⟨t, rfl, by omega, by omega, fun _ => ?_⟩
    simp (maxSteps := 4000000) only [r_ofStr, r_ofStrB, r_consN, r_consK, r_set0, r_setS, r_isSl0, r_isSlS, r_take0, r_takeS, r_dTake, r_peek0, r_peekS, r_dVar0, r_dVarS, r_seqK, r_seq, r_next, r_exprK, r_expr, r_ret, r_retN, r_ifK, r_if, r_dsSet, r_gName, r_asgK, r_asg, r_gTup, r_gsK, r_gsCons, r_gsNil, r_gStar, r_put0, r_put1, r_put2, r_put3, r_put4, r_boxK, r_gIx, r_gix0, r_gixS, r_setK2, r_parK, r_par, r_augK3, r_augK2, r_augK, r_aug, r_dC, r_opK3, r_opK2, r_opK, r_op, r_bK, r_dB, r_chK4, r_chK2, r_chK1, r_chain, r_andK, r_and, r_orK, r_or, r_notK, r_not, r_andVK, r_andV, r_orVK, r_orV, r_notVK, r_notV, r_difK, r_dIf, r_negK, r_neg, r_aNil, r_acK2, r_acK, r_aCons, r_aoK, r_aOwn, r_borK2, r_borK, r_aBor, r_lstK, r_lst, r_tupK, r_tup, r_retK, r_callK, r_call, r_res0, r_resN, r_resS, r_tmpK, r_tmp, r_frzN, r_frz0, r_frz1, r_at0, r_at1, r_at2, r_at3, r_frK, r_atF0, r_atF1, r_atF2, r_atF3, r_atF4, r_ixTup, r_ixRo, r_ixLst, r_ixStr, r_ixvF, r_ixvB, r_ixvK, r_ixV, r_isBx0, r_isBxS, r_mtK3, r_mtK2, r_mtK, r_mt, r_append, r_reverse, r_pop, r_slK3, r_slK2, r_slK, r_sl, r_oNone, r_osK, r_oSome, r_slLst, r_slRo, r_slTup, r_slStr, r_sqK2, r_sqK, r_iSeq, r_tqK2, r_tqK, r_iTup, r_rg1K, r_iRange1, r_rg2K, r_iRange2, r_forK, r_for, r_bodyK, r_cpEnd, r_cpK, r_comp, r_wipe0, r_wipeS, r_yes, r_cmK3, r_cmK2, r_cmK, r_cmN, r_compC, r_compN, r_endN, r_endR, r_ends, r_outOk0, r_outOkS, r_addI, r_addS, r_addL, r_addT, r_iaddI, r_iaddS, r_sub, r_mulI, r_mod, r_fdiv, r_pow, r_cmpI, r_eqI, r_eqS, r_eqB, r_eqT, r_eqL, r_neI, r_neS, r_neB, r_neT, r_neL, r_isN, r_notN, r_inT, r_inR, r_inL, r_inS, r_notIn, r_c1K, r_con1, r_con2, r_con1F, r_lenL, r_lenT, r_lenR, r_lenS, r_isi1, r_isi2, r_listL, r_listR, r_listT, r_tupleT, r_tupleL, r_intI, r_intB, r_absI, r_bools, r_ints, r_toD, r_toDb, r_toDsN, r_toDsC, r_toDsF, List.getElem?_cons_zero, List.getElem?_cons_succ, List.getElem?_nil, List.set_cons_zero, List.set_cons_succ, List.map_cons, List.map_nil, List.cons_append, List.nil_append, List.append_nil, List.length_cons, List.length_nil, List.length_map, List.length_append, List.replicate_succ, List.replicate_zero, List.all_cons, List.all_nil, List.any_cons, List.any_nil, List.drop_succ_cons, List.drop_zero, List.take_succ_cons, List.take_zero, List.reverse_cons, List.reverse_nil, Option.some.injEq, Option.isSome_some, Option.isSome_none, Option.getD_some, Option.getD_none, Option.map_some, Option.map_none, Option.bind_some, L.fr.injEq, D.bl.injEq, D.int.injEq, D.str.injEq, D.ty.injEq, exists_eq_left, exists_eq_left', exists_eq_right, true_and, and_true, false_and, and_false, false_or, or_false, true_or, or_true, reduceIte, if_true, if_false, Bool.not_true, Bool.not_false, Bool.true_and, Bool.and_true, Bool.false_and, Bool.and_false, Bool.or_true, Bool.true_or, Bool.or_false, Bool.false_or, Bool.false_eq_true, Bool.true_eq_false, Bool.not_eq_true, decide_eq_true_eq, decide_eq_false_iff_not, decide_true, decide_false, Bool.not_eq_eq_eq_not, List.mem_cons, List.not_mem_nil, ne_eq, not_true_eq_false, not_false_eq_true, reduceCtorEq, Nat.sub_zero, Nat.add_zero, Nat.zero_add, entry, entryL, outs, slotL, knownTy, isB, D.tyn, D.isNon, D.flat, D.feq, D.scalar, sizeLine_eq, Int.cast_ofNat_Int, Nat.reduceAdd, Nat.reduceSub, Nat.reduceMul, Nat.reduceLeDiff, Nat.reduceEqDiff, Nat.reducePow, Nat.reduceLT, Int.reduceLE, Int.reduceLT, Int.reduceNe, Int.reduceEq, Int.reduceAdd, Int.reduceSub, Int.reduceMul, Int.reduceNeg, Int.reduceToNat, Int.reducePow, String.reduceEq, String.reduceBEq, String.reduceBNe, Int.reduceFMod, Int.reduceFDiv, Int.reduceNegSucc, Int.reduceAbs, beq_self_eq_true]
    exact ⟨by omega, by omega, h _⟩
  case conj s t =>
    refine ⟨s, rfl, by omega, by omega, fun _ => ?_⟩
    simp (maxSteps := 4000000) only [r_ofStr, r_ofStrB, r_consN, r_consK, r_set0, r_setS, r_isSl0, r_isSlS, r_take0, r_takeS, r_dTake, r_peek0, r_peekS, r_dVar0, r_dVarS, r_seqK, r_seq, r_next, r_exprK, r_expr, r_ret, r_retN, r_ifK, r_if, r_dsSet, r_gName, r_asgK, r_asg, r_gTup, r_gsK, r_gsCons, r_gsNil, r_gStar, r_put0, r_put1, r_put2, r_put3, r_put4, r_boxK, r_gIx, r_gix0, r_gixS, r_setK2, r_parK, r_par, r_augK3, r_augK2, r_augK, r_aug, r_dC, r_opK3, r_opK2, r_opK, r_op, r_bK, r_dB, r_chK4, r_chK2, r_chK1, r_chain, r_andK, r_and, r_orK, r_or, r_notK, r_not, r_andVK, r_andV, r_orVK, r_orV, r_notVK, r_notV, r_difK, r_dIf, r_negK, r_neg, r_aNil, r_acK2, r_acK, r_aCons, r_aoK, r_aOwn, r_borK2, r_borK, r_aBor, r_lstK, r_lst, r_tupK, r_tup, r_retK, r_callK, r_call, r_res0, r_resN, r_resS, r_tmpK, r_tmp, r_frzN, r_frz0, r_frz1, r_at0, r_at1, r_at2, r_at3, r_frK, r_atF0, r_atF1, r_atF2, r_atF3, r_atF4, r_ixTup, r_ixRo, r_ixLst, r_ixStr, r_ixvF, r_ixvB, r_ixvK, r_ixV, r_isBx0, r_isBxS, r_mtK3, r_mtK2, r_mtK, r_mt, r_append, r_reverse, r_pop, r_slK3, r_slK2, r_slK, r_sl, r_oNone, r_osK, r_oSome, r_slLst, r_slRo, r_slTup, r_slStr, r_sqK2, r_sqK, r_iSeq, r_tqK2, r_tqK, r_iTup, r_rg1K, r_iRange1, r_rg2K, r_iRange2, r_forK, r_for, r_bodyK, r_cpEnd, r_cpK, r_comp, r_wipe0, r_wipeS, r_yes, r_cmK3, r_cmK2, r_cmK, r_cmN, r_compC, r_compN, r_endN, r_endR, r_ends, r_outOk0, r_outOkS, r_addI, r_addS, r_addL, r_addT, r_iaddI, r_iaddS, r_sub, r_mulI, r_mod, r_fdiv, r_pow, r_cmpI, r_eqI, r_eqS, r_eqB, r_eqT, r_eqL, r_neI, r_neS, r_neB, r_neT, r_neL, r_isN, r_notN, r_inT, r_inR, r_inL, r_inS, r_notIn, r_c1K, r_con1, r_con2, r_con1F, r_lenL, r_lenT, r_lenR, r_lenS, r_isi1, r_isi2, r_listL, r_listR, r_listT, r_tupleT, r_tupleL, r_intI, r_intB, r_absI, r_bools, r_ints, r_toD, r_toDb, r_toDsN, r_toDsC, r_toDsF, List.getElem?_cons_zero, List.getElem?_cons_succ, List.getElem?_nil, List.set_cons_zero, List.set_cons_succ, List.map_cons, List.map_nil, List.cons_append, List.nil_append, List.append_nil, List.length_cons, List.length_nil, List.length_map, List.length_append, List.replicate_succ, List.replicate_zero, List.all_cons, List.all_nil, List.any_cons, List.any_nil, List.drop_succ_cons, List.drop_zero, List.take_succ_cons, List.take_zero, List.reverse_cons, List.reverse_nil, Option.some.injEq, Option.isSome_some, Option.isSome_none, Option.getD_some, Option.getD_none, Option.map_some, Option.map_none, Option.bind_some, L.fr.injEq, D.bl.injEq, D.int.injEq, D.str.injEq, D.ty.injEq, exists_eq_left, exists_eq_left', exists_eq_right, true_and, and_true, false_and, and_false, false_or, or_false, true_or, or_true, reduceIte, if_true, if_false, Bool.not_true, Bool.not_false, Bool.true_and, Bool.and_true, Bool.false_and, Bool.and_false, Bool.or_true, Bool.true_or, Bool.or_false, Bool.false_or, Bool.false_eq_true, Bool.true_eq_false, Bool.not_eq_true, decide_eq_true_eq, decide_eq_false_iff_not, decide_true, decide_false, Bool.not_eq_eq_eq_not, List.mem_cons, List.not_mem_nil, ne_eq, not_true_eq_false, not_false_eq_true, reduceCtorEq, Nat.sub_zero, Nat.add_zero, Nat.zero_add, entry, entryL, outs, slotL, knownTy, isB, D.tyn, D.isNon, D.flat, D.feq, D.scalar, sizeLine_eq, Int.cast_ofNat_Int, Nat.reduceAdd, Nat.reduceSub, Nat.reduceMul, Nat.reduceLeDiff, Nat.reduceEqDiff, Nat.reducePow, Nat.reduceLT, Int.reduceLE, Int.reduceLT, Int.reduceNe, Int.reduceEq, Int.reduceAdd, Int.reduceSub, Int.reduceMul, Int.reduceNeg, Int.reduceToNat, Int.reducePow, String.reduceEq, String.reduceBEq, String.reduceBNe, Int.reduceFMod, Int.reduceFDiv, Int.reduceNegSucc, Int.reduceAbs, beq_self_eq_true]
    refine ⟨t, rfl, by omega, by omega, fun _ => ?_⟩
    simp (maxSteps := 4000000) only [r_ofStr, r_ofStrB, r_consN, r_consK, r_set0, r_setS, r_isSl0, r_isSlS, r_take0, r_takeS, r_dTake, r_peek0, r_peekS, r_dVar0, r_dVarS, r_seqK, r_seq, r_next, r_exprK, r_expr, r_ret, r_retN, r_ifK, r_if, r_dsSet, r_gName, r_asgK, r_asg, r_gTup, r_gsK, r_gsCons, r_gsNil, r_gStar, r_put0, r_put1, r_put2, r_put3, r_put4, r_boxK, r_gIx, r_gix0, r_gixS, r_setK2, r_parK, r_par, r_augK3, r_augK2, r_augK, r_aug, r_dC, r_opK3, r_opK2, r_opK, r_op, r_bK, r_dB, r_chK4, r_chK2, r_chK1, r_chain, r_andK, r_and, r_orK, r_or, r_notK, r_not, r_andVK, r_andV, r_orVK, r_orV, r_notVK, r_notV, r_difK, r_dIf, r_negK, r_neg, r_aNil, r_acK2, r_acK, r_aCons, r_aoK, r_aOwn, r_borK2, r_borK, r_aBor, r_lstK, r_lst, r_tupK, r_tup, r_retK, r_callK, r_call, r_res0, r_resN, r_resS, r_tmpK, r_tmp, r_frzN, r_frz0, r_frz1, r_at0, r_at1, r_at2, r_at3, r_frK, r_atF0, r_atF1, r_atF2, r_atF3, r_atF4, r_ixTup, r_ixRo, r_ixLst, r_ixStr, r_ixvF, r_ixvB, r_ixvK, r_ixV, r_isBx0, r_isBxS, r_mtK3, r_mtK2, r_mtK, r_mt, r_append, r_reverse, r_pop, r_slK3, r_slK2, r_slK, r_sl, r_oNone, r_osK, r_oSome, r_slLst, r_slRo, r_slTup, r_slStr, r_sqK2, r_sqK, r_iSeq, r_tqK2, r_tqK, r_iTup, r_rg1K, r_iRange1, r_rg2K, r_iRange2, r_forK, r_for, r_bodyK, r_cpEnd, r_cpK, r_comp, r_wipe0, r_wipeS, r_yes, r_cmK3, r_cmK2, r_cmK, r_cmN, r_compC, r_compN, r_endN, r_endR, r_ends, r_outOk0, r_outOkS, r_addI, r_addS, r_addL, r_addT, r_iaddI, r_iaddS, r_sub, r_mulI, r_mod, r_fdiv, r_pow, r_cmpI, r_eqI, r_eqS, r_eqB, r_eqT, r_eqL, r_neI, r_neS, r_neB, r_neT, r_neL, r_isN, r_notN, r_inT, r_inR, r_inL, r_inS, r_notIn, r_c1K, r_con1, r_con2, r_con1F, r_lenL, r_lenT, r_lenR, r_lenS, r_isi1, r_isi2, r_listL, r_listR, r_listT, r_tupleT, r_tupleL, r_intI, r_intB, r_absI, r_bools, r_ints, r_toD, r_toDb, r_toDsN, r_toDsC, r_toDsF, List.getElem?_cons_zero, List.getElem?_cons_succ, List.getElem?_nil, List.set_cons_zero, List.set_cons_succ, List.map_cons, List.map_nil, List.cons_append, List.nil_append, List.append_nil, List.length_cons, List.length_nil, List.length_map, List.length_append, List.replicate_succ, List.replicate_zero, List.all_cons, List.all_nil, List.any_cons, List.any_nil, List.drop_succ_cons, List.drop_zero, List.take_succ_cons, List.take_zero, List.reverse_cons, List.reverse_nil, Option.some.injEq, Option.isSome_some, Option.isSome_none, Option.getD_some, Option.getD_none, Option.map_some, Option.map_none, Option.bind_some, L.fr.injEq, D.bl.injEq, D.int.injEq, D.str.injEq, D.ty.injEq, exists_eq_left, exists_eq_left', exists_eq_right, true_and, and_true, false_and, and_false, false_or, or_false, true_or, or_true, reduceIte, if_true, if_false, Bool.not_true, Bool.not_false, Bool.true_and, Bool.and_true, Bool.false_and, Bool.and_false, Bool.or_true, Bool.true_or, Bool.or_false, Bool.false_or, Bool.false_eq_true, Bool.true_eq_false, Bool.not_eq_true, decide_eq_true_eq, decide_eq_false_iff_not, decide_true, decide_false, Bool.not_eq_eq_eq_not, List.mem_cons, List.not_mem_nil, ne_eq, not_true_eq_false, not_false_eq_true, reduceCtorEq, Nat.sub_zero, Nat.add_zero, Nat.zero_add, entry, entryL, outs, slotL, knownTy, isB, D.tyn, D.isNon, D.flat, D.feq, D.scalar, sizeLine_eq, Int.cast_ofNat_Int, Nat.reduceAdd, Nat.reduceSub, Nat.reduceMul, Nat.reduceLeDiff, Nat.reduceEqDiff, Nat.reducePow, Nat.reduceLT, Int.reduceLE, Int.reduceLT, Int.reduceNe, Int.reduceEq, Int.reduceAdd, Int.reduceSub, Int.reduceMul, Int.reduceNeg, Int.reduceToNat, Int.reducePow, String.reduceEq, String.reduceBEq, String.reduceBNe, Int.reduceFMod, Int.reduceFDiv, Int.reduceNegSucc, Int.reduceAbs, beq_self_eq_true]
    exact ⟨by omega, by omega, h _⟩
  case pow s k =>
    refine ⟨s, rfl, by omega, by omega, fun _ => ?_⟩
    simp (maxSteps := 4000000) only [r_ofStr, r_ofStrB, r_consN, r_consK, r_set0, r_setS, r_isSl0, r_isSlS, r_take0, r_takeS, r_dTake, r_peek0, r_peekS, r_dVar0, r_dVarS, r_seqK, r_seq, r_next, r_exprK, r_expr, r_ret, r_retN, r_ifK, r_if, r_dsSet, r_gName, r_asgK, r_asg, r_gTup, r_gsK, r_gsCons, r_gsNil, r_gStar, r_put0, r_put1, r_put2, r_put3, r_put4, r_boxK, r_gIx, r_gix0, r_gixS, r_setK2, r_parK, r_par, r_augK3, r_augK2, r_augK, r_aug, r_dC, r_opK3, r_opK2, r_opK, r_op, r_bK, r_dB, r_chK4, r_chK2, r_chK1, r_chain, r_andK, r_and, r_orK, r_or, r_notK, r_not, r_andVK, r_andV, r_orVK, r_orV, r_notVK, r_notV, r_difK, r_dIf, r_negK, r_neg, r_aNil, r_acK2, r_acK, r_aCons, r_aoK, r_aOwn, r_borK2, r_borK, r_aBor, r_lstK, r_lst, r_tupK, r_tup, r_retK, r_callK, r_call, r_res0, r_resN, r_resS, r_tmpK, r_tmp, r_frzN, r_frz0, r_frz1, r_at0, r_at1, r_at2, r_at3, r_frK, r_atF0, r_atF1, r_atF2, r_atF3, r_atF4, r_ixTup, r_ixRo, r_ixLst, r_ixStr, r_ixvF, r_ixvB, r_ixvK, r_ixV, r_isBx0, r_isBxS, r_mtK3, r_mtK2, r_mtK, r_mt, r_append, r_reverse, r_pop, r_slK3, r_slK2, r_slK, r_sl, r_oNone, r_osK, r_oSome, r_slLst, r_slRo, r_slTup, r_slStr, r_sqK2, r_sqK, r_iSeq, r_tqK2, r_tqK, r_iTup, r_rg1K, r_iRange1, r_rg2K, r_iRange2, r_forK, r_for, r_bodyK, r_cpEnd, r_cpK, r_comp, r_wipe0, r_wipeS, r_yes, r_cmK3, r_cmK2, r_cmK, r_cmN, r_compC, r_compN, r_endN, r_endR, r_ends, r_outOk0, r_outOkS, r_addI, r_addS, r_addL, r_addT, r_iaddI, r_iaddS, r_sub, r_mulI, r_mod, r_fdiv, r_pow, r_cmpI, r_eqI, r_eqS, r_eqB, r_eqT, r_eqL, r_neI, r_neS, r_neB, r_neT, r_neL, r_isN, r_notN, r_inT, r_inR, r_inL, r_inS, r_notIn, r_c1K, r_con1, r_con2, r_con1F, r_lenL, r_lenT, r_lenR, r_lenS, r_isi1, r_isi2, r_listL, r_listR, r_listT, r_tupleT, r_tupleL, r_intI, r_intB, r_absI, r_bools, r_ints, r_toD, r_toDb, r_toDsN, r_toDsC, r_toDsF, List.getElem?_cons_zero, List.getElem?_cons_succ, List.getElem?_nil, List.set_cons_zero, List.set_cons_succ, List.map_cons, List.map_nil, List.cons_append, List.nil_append, List.append_nil, List.length_cons, List.length_nil, List.length_map, List.length_append, List.replicate_succ, List.replicate_zero, List.all_cons, List.all_nil, List.any_cons, List.any_nil, List.drop_succ_cons, List.drop_zero, List.take_succ_cons, List.take_zero, List.reverse_cons, List.reverse_nil, Option.some.injEq, Option.isSome_some, Option.isSome_none, Option.getD_some, Option.getD_none, Option.map_some, Option.map_none, Option.bind_some, L.fr.injEq, D.bl.injEq, D.int.injEq, D.str.injEq, D.ty.injEq, exists_eq_left, exists_eq_left', exists_eq_right, true_and, and_true, false_and, and_false, false_or, or_false, true_or, or_true, reduceIte, if_true, if_false, Bool.not_true, Bool.not_false, Bool.true_and, Bool.and_true, Bool.false_and, Bool.and_false, Bool.or_true, Bool.true_or, Bool.or_false, Bool.false_or, Bool.false_eq_true, Bool.true_eq_false, Bool.not_eq_true, decide_eq_true_eq, decide_eq_false_iff_not, decide_true, decide_false, Bool.not_eq_eq_eq_not, List.mem_cons, List.not_mem_nil, ne_eq, not_true_eq_false, not_false_eq_true, reduceCtorEq, Nat.sub_zero, Nat.add_zero, Nat.zero_add, entry, entryL, outs, slotL, knownTy, isB, D.tyn, D.isNon, D.flat, D.feq, D.scalar, sizeLine_eq, Int.cast_ofNat_Int, Nat.reduceAdd, Nat.reduceSub, Nat.reduceMul, Nat.reduceLeDiff, Nat.reduceEqDiff, Nat.reducePow, Nat.reduceLT, Int.reduceLE, Int.reduceLT, Int.reduceNe, Int.reduceEq, Int.reduceAdd, Int.reduceSub, Int.reduceMul, Int.reduceNeg, Int.reduceToNat, Int.reducePow, String.reduceEq, String.reduceBEq, String.reduceBNe, Int.reduceFMod, Int.reduceFDiv, Int.reduceNegSucc, Int.reduceAbs, beq_self_eq_true]
    exact ⟨by omega, h _⟩
  all_goals exact h _
/-! ### data that are alike -/
def Lk : Nat → D → Prop
  | _, .int _ => True
  | _, .str _ => True
  | n + 1, .box .lst ds => ds.length ≤ 1000 ∧ ∀ d ∈ ds, Lk n d
  | n + 1, .tup ds => ds.length ≤ 1000 ∧ ∀ d ∈ ds, Lk n d
  | _, _ => False
def cLike (n : Nat) : Con := fun args k _ => ∃ d, Lk n d ∧ args = [.fr d, .fr d] ∧ ∀ l m, k (.fr (.bl true)) [l, m]
theorem cmp_bb (a b c d : Bool) : Cmp2 (.tup [.bl a, .bl b]) (.tup [.bl c, .bl d]) := by simp [Cmp2, SeqAt.shaped, D.py, D.pys, PyData.canLay0, PyData.canLayAll0, PyData.depth, PyData.depthAll]
theorem eqv_bb (a b : Bool) : PyData.eqv (D.tup [.bl a, .bl b]).py (D.tup [.bl a, .bl b]).py = true := by simp [D.py, D.pys, PyData.eqv, PyData.eqvAll]
theorem v_like0 : ∀ ls kk kx, cLike 0 ls kk kx → t_law_like cNo (endsOf [] ls kk) (entry [] 5 ls) := by
  rintro _ kk kx ⟨d, hd, rfl, h⟩
  unfold Lk at hd
  split at hd
  · simp (maxSteps := 4000000) only [r_ofStr, r_ofStrB, r_consN, r_consK, r_set0, r_setS, r_isSl0, r_isSlS, r_take0, r_takeS, r_dTake, r_peek0, r_peekS, r_dVar0, r_dVarS, r_seqK, r_seq, r_next, r_exprK, r_expr, r_ret, r_retN, r_ifK, r_if, r_dsSet, r_gName, r_asgK, r_asg, r_gTup, r_gsK, r_gsCons, r_gsNil, r_gStar, r_put0, r_put1, r_put2, r_put3, r_put4, r_boxK, r_gIx, r_gix0, r_gixS, r_setK2, r_parK, r_par, r_augK3, r_augK2, r_augK, r_aug, r_dC, r_opK3, r_opK2, r_opK, r_op, r_bK, r_dB, r_chK4, r_chK2, r_chK1, r_chain, r_andK, r_and, r_orK, r_or, r_notK, r_not, r_andVK, r_andV, r_orVK, r_orV, r_notVK, r_notV, r_difK, r_dIf, r_negK, r_neg, r_aNil, r_acK2, r_acK, r_aCons, r_aoK, r_aOwn, r_borK2, r_borK, r_aBor, r_lstK, r_lst, r_tupK, r_tup, r_retK, r_callK, r_call, r_res0, r_resN, r_resS, r_tmpK, r_tmp, r_frzN, r_frz0, r_frz1, r_at0, r_at1, r_at2, r_at3, r_frK, r_atF0, r_atF1, r_atF2, r_atF3, r_atF4, r_ixTup, r_ixRo, r_ixLst, r_ixStr, r_ixvF, r_ixvB, r_ixvK, r_ixV, r_isBx0, r_isBxS, r_mtK3, r_mtK2, r_mtK, r_mt, r_append, r_reverse, r_pop, r_slK3, r_slK2, r_slK, r_sl, r_oNone, r_osK, r_oSome, r_slLst, r_slRo, r_slTup, r_slStr, r_sqK2, r_sqK, r_iSeq, r_tqK2, r_tqK, r_iTup, r_rg1K, r_iRange1, r_rg2K, r_iRange2, r_forK, r_for, r_bodyK, r_cpEnd, r_cpK, r_comp, r_wipe0, r_wipeS, r_yes, r_cmK3, r_cmK2, r_cmK, r_cmN, r_compC, r_compN, r_endN, r_endR, r_ends, r_outOk0, r_outOkS, r_addI, r_addS, r_addL, r_addT, r_iaddI, r_iaddS, r_sub, r_mulI, r_mod, r_fdiv, r_pow, r_cmpI, r_eqI, r_eqS, r_eqB, r_eqT, r_eqL, r_neI, r_neS, r_neB, r_neT, r_neL, r_isN, r_notN, r_inT, r_inR, r_inL, r_inS, r_notIn, r_c1K, r_con1, r_con2, r_con1F, r_lenL, r_lenT, r_lenR, r_lenS, r_isi1, r_isi2, r_listL, r_listR, r_listT, r_tupleT, r_tupleL, r_intI, r_intB, r_absI, r_bools, r_ints, r_toD, r_toDb, r_toDsN, r_toDsC, r_toDsF, List.getElem?_cons_zero, List.getElem?_cons_succ, List.getElem?_nil, List.set_cons_zero, List.set_cons_succ, List.map_cons, List.map_nil, List.cons_append, List.nil_append, List.append_nil, List.length_cons, List.length_nil, List.length_map, List.length_append, List.replicate_succ, List.replicate_zero, List.all_cons, List.all_nil, List.any_cons, List.any_nil, List.drop_succ_cons, List.drop_zero, List.take_succ_cons, List.take_zero, List.reverse_cons, List.reverse_nil, Option.some.injEq, Option.isSome_some, Option.isSome_none, Option.getD_some, Option.getD_none, Option.map_some, Option.map_none, Option.bind_some, L.fr.injEq, D.bl.injEq, D.int.injEq, D.str.injEq, D.ty.injEq, exists_eq_left, exists_eq_left', exists_eq_right, true_and, and_true, false_and, and_false, false_or, or_false, true_or, or_true, reduceIte, if_true, if_false, Bool.not_true, Bool.not_false, Bool.true_and, Bool.and_true, Bool.false_and, Bool.and_false, Bool.or_true, Bool.true_or, Bool.or_false, Bool.false_or, Bool.false_eq_true, Bool.true_eq_false, Bool.not_eq_true, decide_eq_true_eq, decide_eq_false_iff_not, decide_true, decide_false, Bool.not_eq_eq_eq_not, List.mem_cons, List.not_mem_nil, ne_eq, not_true_eq_false, not_false_eq_true, reduceCtorEq, Nat.sub_zero, Nat.add_zero, Nat.zero_add, entry, entryL, outs, slotL, knownTy, isB, D.tyn, D.isNon, D.flat, D.feq, D.scalar, sizeLine_eq, Int.cast_ofNat_Int, Nat.reduceAdd, Nat.reduceSub, Nat.reduceMul, Nat.reduceLeDiff, Nat.reduceEqDiff, Nat.reducePow, Nat.reduceLT, Int.reduceLE, Int.reduceLT, Int.reduceNe, Int.reduceEq, Int.reduceAdd, Int.reduceSub, Int.reduceMul, Int.reduceNeg, Int.reduceToNat, Int.reducePow, String.reduceEq, String.reduceBEq, String.reduceBNe, Int.reduceFMod, Int.reduceFDiv, Int.reduceNegSucc, Int.reduceAbs, beq_self_eq_true, t_law_like]
    exact h _ _
  · simp (maxSteps := 4000000) only [r_ofStr, r_ofStrB, r_consN, r_consK, r_set0, r_setS, r_isSl0, r_isSlS, r_take0, r_takeS, r_dTake, r_peek0, r_peekS, r_dVar0, r_dVarS, r_seqK, r_seq, r_next, r_exprK, r_expr, r_ret, r_retN, r_ifK, r_if, r_dsSet, r_gName, r_asgK, r_asg, r_gTup, r_gsK, r_gsCons, r_gsNil, r_gStar, r_put0, r_put1, r_put2, r_put3, r_put4, r_boxK, r_gIx, r_gix0, r_gixS, r_setK2, r_parK, r_par, r_augK3, r_augK2, r_augK, r_aug, r_dC, r_opK3, r_opK2, r_opK, r_op, r_bK, r_dB, r_chK4, r_chK2, r_chK1, r_chain, r_andK, r_and, r_orK, r_or, r_notK, r_not, r_andVK, r_andV, r_orVK, r_orV, r_notVK, r_notV, r_difK, r_dIf, r_negK, r_neg, r_aNil, r_acK2, r_acK, r_aCons, r_aoK, r_aOwn, r_borK2, r_borK, r_aBor, r_lstK, r_lst, r_tupK, r_tup, r_retK, r_callK, r_call, r_res0, r_resN, r_resS, r_tmpK, r_tmp, r_frzN, r_frz0, r_frz1, r_at0, r_at1, r_at2, r_at3, r_frK, r_atF0, r_atF1, r_atF2, r_atF3, r_atF4, r_ixTup, r_ixRo, r_ixLst, r_ixStr, r_ixvF, r_ixvB, r_ixvK, r_ixV, r_isBx0, r_isBxS, r_mtK3, r_mtK2, r_mtK, r_mt, r_append, r_reverse, r_pop, r_slK3, r_slK2, r_slK, r_sl, r_oNone, r_osK, r_oSome, r_slLst, r_slRo, r_slTup, r_slStr, r_sqK2, r_sqK, r_iSeq, r_tqK2, r_tqK, r_iTup, r_rg1K, r_iRange1, r_rg2K, r_iRange2, r_forK, r_for, r_bodyK, r_cpEnd, r_cpK, r_comp, r_wipe0, r_wipeS, r_yes, r_cmK3, r_cmK2, r_cmK, r_cmN, r_compC, r_compN, r_endN, r_endR, r_ends, r_outOk0, r_outOkS, r_addI, r_addS, r_addL, r_addT, r_iaddI, r_iaddS, r_sub, r_mulI, r_mod, r_fdiv, r_pow, r_cmpI, r_eqI, r_eqS, r_eqB, r_eqT, r_eqL, r_neI, r_neS, r_neB, r_neT, r_neL, r_isN, r_notN, r_inT, r_inR, r_inL, r_inS, r_notIn, r_c1K, r_con1, r_con2, r_con1F, r_lenL, r_lenT, r_lenR, r_lenS, r_isi1, r_isi2, r_listL, r_listR, r_listT, r_tupleT, r_tupleL, r_intI, r_intB, r_absI, r_bools, r_ints, r_toD, r_toDb, r_toDsN, r_toDsC, r_toDsF, List.getElem?_cons_zero, List.getElem?_cons_succ, List.getElem?_nil, List.set_cons_zero, List.set_cons_succ, List.map_cons, List.map_nil, List.cons_append, List.nil_append, List.append_nil, List.length_cons, List.length_nil, List.length_map, List.length_append, List.replicate_succ, List.replicate_zero, List.all_cons, List.all_nil, List.any_cons, List.any_nil, List.drop_succ_cons, List.drop_zero, List.take_succ_cons, List.take_zero, List.reverse_cons, List.reverse_nil, Option.some.injEq, Option.isSome_some, Option.isSome_none, Option.getD_some, Option.getD_none, Option.map_some, Option.map_none, Option.bind_some, L.fr.injEq, D.bl.injEq, D.int.injEq, D.str.injEq, D.ty.injEq, exists_eq_left, exists_eq_left', exists_eq_right, true_and, and_true, false_and, and_false, false_or, or_false, true_or, or_true, reduceIte, if_true, if_false, Bool.not_true, Bool.not_false, Bool.true_and, Bool.and_true, Bool.false_and, Bool.and_false, Bool.or_true, Bool.true_or, Bool.or_false, Bool.false_or, Bool.false_eq_true, Bool.true_eq_false, Bool.not_eq_true, decide_eq_true_eq, decide_eq_false_iff_not, decide_true, decide_false, Bool.not_eq_eq_eq_not, List.mem_cons, List.not_mem_nil, ne_eq, not_true_eq_false, not_false_eq_true, reduceCtorEq, Nat.sub_zero, Nat.add_zero, Nat.zero_add, entry, entryL, outs, slotL, knownTy, isB, D.tyn, D.isNon, D.flat, D.feq, D.scalar, sizeLine_eq, Int.cast_ofNat_Int, Nat.reduceAdd, Nat.reduceSub, Nat.reduceMul, Nat.reduceLeDiff, Nat.reduceEqDiff, Nat.reducePow, Nat.reduceLT, Int.reduceLE, Int.reduceLT, Int.reduceNe, Int.reduceEq, Int.reduceAdd, Int.reduceSub, Int.reduceMul, Int.reduceNeg, Int.reduceToNat, Int.reducePow, String.reduceEq, String.reduceBEq, String.reduceBNe, Int.reduceFMod, Int.reduceFDiv, Int.reduceNegSucc, Int.reduceAbs, beq_self_eq_true, t_law_like]
    exact h _ _
  · rename_i e; cases e
  · rename_i e; cases e
  · exact hd.elim
theorem v_likeS (n : Nat) : ∀ ls kk kx, cLike (n + 1) ls kk kx → t_law_like (cLike n) (endsOf [] ls kk) (entry [] 5 ls) := by
  rintro _ kk kx ⟨d, hd, rfl, h⟩
  unfold Lk at hd
  split at hd
  · simp (maxSteps := 4000000) only [r_ofStr, r_ofStrB, r_consN, r_consK, r_set0, r_setS, r_isSl0, r_isSlS, r_take0, r_takeS, r_dTake, r_peek0, r_peekS, r_dVar0, r_dVarS, r_seqK, r_seq, r_next, r_exprK, r_expr, r_ret, r_retN, r_ifK, r_if, r_dsSet, r_gName, r_asgK, r_asg, r_gTup, r_gsK, r_gsCons, r_gsNil, r_gStar, r_put0, r_put1, r_put2, r_put3, r_put4, r_boxK, r_gIx, r_gix0, r_gixS, r_setK2, r_parK, r_par, r_augK3, r_augK2, r_augK, r_aug, r_dC, r_opK3, r_opK2, r_opK, r_op, r_bK, r_dB, r_chK4, r_chK2, r_chK1, r_chain, r_andK, r_and, r_orK, r_or, r_notK, r_not, r_andVK, r_andV, r_orVK, r_orV, r_notVK, r_notV, r_difK, r_dIf, r_negK, r_neg, r_aNil, r_acK2, r_acK, r_aCons, r_aoK, r_aOwn, r_borK2, r_borK, r_aBor, r_lstK, r_lst, r_tupK, r_tup, r_retK, r_callK, r_call, r_res0, r_resN, r_resS, r_tmpK, r_tmp, r_frzN, r_frz0, r_frz1, r_at0, r_at1, r_at2, r_at3, r_frK, r_atF0, r_atF1, r_atF2, r_atF3, r_atF4, r_ixTup, r_ixRo, r_ixLst, r_ixStr, r_ixvF, r_ixvB, r_ixvK, r_ixV, r_isBx0, r_isBxS, r_mtK3, r_mtK2, r_mtK, r_mt, r_append, r_reverse, r_pop, r_slK3, r_slK2, r_slK, r_sl, r_oNone, r_osK, r_oSome, r_slLst, r_slRo, r_slTup, r_slStr, r_sqK2, r_sqK, r_iSeq, r_tqK2, r_tqK, r_iTup, r_rg1K, r_iRange1, r_rg2K, r_iRange2, r_forK, r_for, r_bodyK, r_cpEnd, r_cpK, r_comp, r_wipe0, r_wipeS, r_yes, r_cmK3, r_cmK2, r_cmK, r_cmN, r_compC, r_compN, r_endN, r_endR, r_ends, r_outOk0, r_outOkS, r_addI, r_addS, r_addL, r_addT, r_iaddI, r_iaddS, r_sub, r_mulI, r_mod, r_fdiv, r_pow, r_cmpI, r_eqI, r_eqS, r_eqB, r_eqT, r_eqL, r_neI, r_neS, r_neB, r_neT, r_neL, r_isN, r_notN, r_inT, r_inR, r_inL, r_inS, r_notIn, r_c1K, r_con1, r_con2, r_con1F, r_lenL, r_lenT, r_lenR, r_lenS, r_isi1, r_isi2, r_listL, r_listR, r_listT, r_tupleT, r_tupleL, r_intI, r_intB, r_absI, r_bools, r_ints, r_toD, r_toDb, r_toDsN, r_toDsC, r_toDsF, List.getElem?_cons_zero, List.getElem?_cons_succ, List.getElem?_nil, List.set_cons_zero, List.set_cons_succ, List.map_cons, List.map_nil, List.cons_append, List.nil_append, List.append_nil, List.length_cons, List.length_nil, List.length_map, List.length_append, List.replicate_succ, List.replicate_zero, List.all_cons, List.all_nil, List.any_cons, List.any_nil, List.drop_succ_cons, List.drop_zero, List.take_succ_cons, List.take_zero, List.reverse_cons, List.reverse_nil, Option.some.injEq, Option.isSome_some, Option.isSome_none, Option.getD_some, Option.getD_none, Option.map_some, Option.map_none, Option.bind_some, L.fr.injEq, D.bl.injEq, D.int.injEq, D.str.injEq, D.ty.injEq, exists_eq_left, exists_eq_left', exists_eq_right, true_and, and_true, false_and, and_false, false_or, or_false, true_or, or_true, reduceIte, if_true, if_false, Bool.not_true, Bool.not_false, Bool.true_and, Bool.and_true, Bool.false_and, Bool.and_false, Bool.or_true, Bool.true_or, Bool.or_false, Bool.false_or, Bool.false_eq_true, Bool.true_eq_false, Bool.not_eq_true, decide_eq_true_eq, decide_eq_false_iff_not, decide_true, decide_false, Bool.not_eq_eq_eq_not, List.mem_cons, List.not_mem_nil, ne_eq, not_true_eq_false, not_false_eq_true, reduceCtorEq, Nat.sub_zero, Nat.add_zero, Nat.zero_add, entry, entryL, outs, slotL, knownTy, isB, D.tyn, D.isNon, D.flat, D.feq, D.scalar, sizeLine_eq, Int.cast_ofNat_Int, Nat.reduceAdd, Nat.reduceSub, Nat.reduceMul, Nat.reduceLeDiff, Nat.reduceEqDiff, Nat.reducePow, Nat.reduceLT, Int.reduceLE, Int.reduceLT, Int.reduceNe, Int.reduceEq, Int.reduceAdd, Int.reduceSub, Int.reduceMul, Int.reduceNeg, Int.reduceToNat, Int.reducePow, String.reduceEq, String.reduceBEq, String.reduceBNe, Int.reduceFMod, Int.reduceFDiv, Int.reduceNegSucc, Int.reduceAbs, beq_self_eq_true, t_law_like]
    exact h _ _
  · simp (maxSteps := 4000000) only [r_ofStr, r_ofStrB, r_consN, r_consK, r_set0, r_setS, r_isSl0, r_isSlS, r_take0, r_takeS, r_dTake, r_peek0, r_peekS, r_dVar0, r_dVarS, r_seqK, r_seq, r_next, r_exprK, r_expr, r_ret, r_retN, r_ifK, r_if, r_dsSet, r_gName, r_asgK, r_asg, r_gTup, r_gsK, r_gsCons, r_gsNil, r_gStar, r_put0, r_put1, r_put2, r_put3, r_put4, r_boxK, r_gIx, r_gix0, r_gixS, r_setK2, r_parK, r_par, r_augK3, r_augK2, r_augK, r_aug, r_dC, r_opK3, r_opK2, r_opK, r_op, r_bK, r_dB, r_chK4, r_chK2, r_chK1, r_chain, r_andK, r_and, r_orK, r_or, r_notK, r_not, r_andVK, r_andV, r_orVK, r_orV, r_notVK, r_notV, r_difK, r_dIf, r_negK, r_neg, r_aNil, r_acK2, r_acK, r_aCons, r_aoK, r_aOwn, r_borK2, r_borK, r_aBor, r_lstK, r_lst, r_tupK, r_tup, r_retK, r_callK, r_call, r_res0, r_resN, r_resS, r_tmpK, r_tmp, r_frzN, r_frz0, r_frz1, r_at0, r_at1, r_at2, r_at3, r_frK, r_atF0, r_atF1, r_atF2, r_atF3, r_atF4, r_ixTup, r_ixRo, r_ixLst, r_ixStr, r_ixvF, r_ixvB, r_ixvK, r_ixV, r_isBx0, r_isBxS, r_mtK3, r_mtK2, r_mtK, r_mt, r_append, r_reverse, r_pop, r_slK3, r_slK2, r_slK, r_sl, r_oNone, r_osK, r_oSome, r_slLst, r_slRo, r_slTup, r_slStr, r_sqK2, r_sqK, r_iSeq, r_tqK2, r_tqK, r_iTup, r_rg1K, r_iRange1, r_rg2K, r_iRange2, r_forK, r_for, r_bodyK, r_cpEnd, r_cpK, r_comp, r_wipe0, r_wipeS, r_yes, r_cmK3, r_cmK2, r_cmK, r_cmN, r_compC, r_compN, r_endN, r_endR, r_ends, r_outOk0, r_outOkS, r_addI, r_addS, r_addL, r_addT, r_iaddI, r_iaddS, r_sub, r_mulI, r_mod, r_fdiv, r_pow, r_cmpI, r_eqI, r_eqS, r_eqB, r_eqT, r_eqL, r_neI, r_neS, r_neB, r_neT, r_neL, r_isN, r_notN, r_inT, r_inR, r_inL, r_inS, r_notIn, r_c1K, r_con1, r_con2, r_con1F, r_lenL, r_lenT, r_lenR, r_lenS, r_isi1, r_isi2, r_listL, r_listR, r_listT, r_tupleT, r_tupleL, r_intI, r_intB, r_absI, r_bools, r_ints, r_toD, r_toDb, r_toDsN, r_toDsC, r_toDsF, List.getElem?_cons_zero, List.getElem?_cons_succ, List.getElem?_nil, List.set_cons_zero, List.set_cons_succ, List.map_cons, List.map_nil, List.cons_append, List.nil_append, List.append_nil, List.length_cons, List.length_nil, List.length_map, List.length_append, List.replicate_succ, List.replicate_zero, List.all_cons, List.all_nil, List.any_cons, List.any_nil, List.drop_succ_cons, List.drop_zero, List.take_succ_cons, List.take_zero, List.reverse_cons, List.reverse_nil, Option.some.injEq, Option.isSome_some, Option.isSome_none, Option.getD_some, Option.getD_none, Option.map_some, Option.map_none, Option.bind_some, L.fr.injEq, D.bl.injEq, D.int.injEq, D.str.injEq, D.ty.injEq, exists_eq_left, exists_eq_left', exists_eq_right, true_and, and_true, false_and, and_false, false_or, or_false, true_or, or_true, reduceIte, if_true, if_false, Bool.not_true, Bool.not_false, Bool.true_and, Bool.and_true, Bool.false_and, Bool.and_false, Bool.or_true, Bool.true_or, Bool.or_false, Bool.false_or, Bool.false_eq_true, Bool.true_eq_false, Bool.not_eq_true, decide_eq_true_eq, decide_eq_false_iff_not, decide_true, decide_false, Bool.not_eq_eq_eq_not, List.mem_cons, List.not_mem_nil, ne_eq, not_true_eq_false, not_false_eq_true, reduceCtorEq, Nat.sub_zero, Nat.add_zero, Nat.zero_add, entry, entryL, outs, slotL, knownTy, isB, D.tyn, D.isNon, D.flat, D.feq, D.scalar, sizeLine_eq, Int.cast_ofNat_Int, Nat.reduceAdd, Nat.reduceSub, Nat.reduceMul, Nat.reduceLeDiff, Nat.reduceEqDiff, Nat.reducePow, Nat.reduceLT, Int.reduceLE, Int.reduceLT, Int.reduceNe, Int.reduceEq, Int.reduceAdd, Int.reduceSub, Int.reduceMul, Int.reduceNeg, Int.reduceToNat, Int.reducePow, String.reduceEq, String.reduceBEq, String.reduceBNe, Int.reduceFMod, Int.reduceFDiv, Int.reduceNegSucc, Int.reduceAbs, beq_self_eq_true, t_law_like]
    exact h _ _
  · rename_i m ds e
    cases e
    simp (maxSteps := 4000000) only [r_ofStr, r_ofStrB, r_consN, r_consK, r_set0, r_setS, r_isSl0, r_isSlS, r_take0, r_takeS, r_dTake, r_peek0, r_peekS, r_dVar0, r_dVarS, r_seqK, r_seq, r_next, r_exprK, r_expr, r_ret, r_retN, r_ifK, r_if, r_dsSet, r_gName, r_asgK, r_asg, r_gTup, r_gsK, r_gsCons, r_gsNil, r_gStar, r_put0, r_put1, r_put2, r_put3, r_put4, r_boxK, r_gIx, r_gix0, r_gixS, r_setK2, r_parK, r_par, r_augK3, r_augK2, r_augK, r_aug, r_dC, r_opK3, r_opK2, r_opK, r_op, r_bK, r_dB, r_chK4, r_chK2, r_chK1, r_chain, r_andK, r_and, r_orK, r_or, r_notK, r_not, r_andVK, r_andV, r_orVK, r_orV, r_notVK, r_notV, r_difK, r_dIf, r_negK, r_neg, r_aNil, r_acK2, r_acK, r_aCons, r_aoK, r_aOwn, r_borK2, r_borK, r_aBor, r_lstK, r_lst, r_tupK, r_tup, r_retK, r_callK, r_call, r_res0, r_resN, r_resS, r_tmpK, r_tmp, r_frzN, r_frz0, r_frz1, r_at0, r_at1, r_at2, r_at3, r_frK, r_atF0, r_atF1, r_atF2, r_atF3, r_atF4, r_ixTup, r_ixRo, r_ixLst, r_ixStr, r_ixvF, r_ixvB, r_ixvK, r_ixV, r_isBx0, r_isBxS, r_mtK3, r_mtK2, r_mtK, r_mt, r_append, r_reverse, r_pop, r_slK3, r_slK2, r_slK, r_sl, r_oNone, r_osK, r_oSome, r_slLst, r_slRo, r_slTup, r_slStr, r_sqK2, r_sqK, r_iSeq, r_tqK2, r_tqK, r_iTup, r_rg1K, r_iRange1, r_rg2K, r_iRange2, r_forK, r_for, r_bodyK, r_cpEnd, r_cpK, r_comp, r_wipe0, r_wipeS, r_yes, r_cmK3, r_cmK2, r_cmK, r_cmN, r_compC, r_compN, r_endN, r_endR, r_ends, r_outOk0, r_outOkS, r_addI, r_addS, r_addL, r_addT, r_iaddI, r_iaddS, r_sub, r_mulI, r_mod, r_fdiv, r_pow, r_cmpI, r_eqI, r_eqS, r_eqB, r_eqT, r_eqL, r_neI, r_neS, r_neB, r_neT, r_neL, r_isN, r_notN, r_inT, r_inR, r_inL, r_inS, r_notIn, r_c1K, r_con1, r_con2, r_con1F, r_lenL, r_lenT, r_lenR, r_lenS, r_isi1, r_isi2, r_listL, r_listR, r_listT, r_tupleT, r_tupleL, r_intI, r_intB, r_absI, r_bools, r_ints, r_toD, r_toDb, r_toDsN, r_toDsC, r_toDsF, List.getElem?_cons_zero, List.getElem?_cons_succ, List.getElem?_nil, List.set_cons_zero, List.set_cons_succ, List.map_cons, List.map_nil, List.cons_append, List.nil_append, List.append_nil, List.length_cons, List.length_nil, List.length_map, List.length_append, List.replicate_succ, List.replicate_zero, List.all_cons, List.all_nil, List.any_cons, List.any_nil, List.drop_succ_cons, List.drop_zero, List.take_succ_cons, List.take_zero, List.reverse_cons, List.reverse_nil, Option.some.injEq, Option.isSome_some, Option.isSome_none, Option.getD_some, Option.getD_none, Option.map_some, Option.map_none, Option.bind_some, L.fr.injEq, D.bl.injEq, D.int.injEq, D.str.injEq, D.ty.injEq, exists_eq_left, exists_eq_left', exists_eq_right, true_and, and_true, false_and, and_false, false_or, or_false, true_or, or_true, reduceIte, if_true, if_false, Bool.not_true, Bool.not_false, Bool.true_and, Bool.and_true, Bool.false_and, Bool.and_false, Bool.or_true, Bool.true_or, Bool.or_false, Bool.false_or, Bool.false_eq_true, Bool.true_eq_false, Bool.not_eq_true, decide_eq_true_eq, decide_eq_false_iff_not, decide_true, decide_false, Bool.not_eq_eq_eq_not, List.mem_cons, List.not_mem_nil, ne_eq, not_true_eq_false, not_false_eq_true, reduceCtorEq, Nat.sub_zero, Nat.add_zero, Nat.zero_add, entry, entryL, outs, slotL, knownTy, isB, D.tyn, D.isNon, D.flat, D.feq, D.scalar, sizeLine_eq, Int.cast_ofNat_Int, Nat.reduceAdd, Nat.reduceSub, Nat.reduceMul, Nat.reduceLeDiff, Nat.reduceEqDiff, Nat.reducePow, Nat.reduceLT, Int.reduceLE, Int.reduceLT, Int.reduceNe, Int.reduceEq, Int.reduceAdd, Int.reduceSub, Int.reduceMul, Int.reduceNeg, Int.reduceToNat, Int.reducePow, String.reduceEq, String.reduceBEq, String.reduceBNe, Int.reduceFMod, Int.reduceFDiv, Int.reduceNegSucc, Int.reduceAbs, beq_self_eq_true, t_law_like, cmp_bb, eqv_bb]
    refine ⟨by omega, ?_⟩
    refine compD_ix' (I := fun i acc e => acc = List.replicate i (.fr (.bl true)) ∧ e = [some (.fr (.box .lst ds)), some (.fr (.box .lst ds)), some (.box .lst [.fr (.tup [.bl true, .bl false]), .fr (.tup [.bl true, .bl false])]), none, none]) ⟨rfl, rfl⟩ ?_ ?_
    · rintro i d acc env hd' ⟨rfl, rfl⟩ M hM
      obtain ⟨hi, rfl⟩ := rngD_get hd'
      have hi : i < ds.length := by omega
      have e0 : (0 + (i : Int)) = (i : Int) := by omega
      simp (maxSteps := 4000000) only [r_ofStr, r_ofStrB, r_consN, r_consK, r_set0, r_setS, r_isSl0, r_isSlS, r_take0, r_takeS, r_dTake, r_peek0, r_peekS, r_dVar0, r_dVarS, r_seqK, r_seq, r_next, r_exprK, r_expr, r_ret, r_retN, r_ifK, r_if, r_dsSet, r_gName, r_asgK, r_asg, r_gTup, r_gsK, r_gsCons, r_gsNil, r_gStar, r_put0, r_put1, r_put2, r_put3, r_put4, r_boxK, r_gIx, r_gix0, r_gixS, r_setK2, r_parK, r_par, r_augK3, r_augK2, r_augK, r_aug, r_dC, r_opK3, r_opK2, r_opK, r_op, r_bK, r_dB, r_chK4, r_chK2, r_chK1, r_chain, r_andK, r_and, r_orK, r_or, r_notK, r_not, r_andVK, r_andV, r_orVK, r_orV, r_notVK, r_notV, r_difK, r_dIf, r_negK, r_neg, r_aNil, r_acK2, r_acK, r_aCons, r_aoK, r_aOwn, r_borK2, r_borK, r_aBor, r_lstK, r_lst, r_tupK, r_tup, r_retK, r_callK, r_call, r_res0, r_resN, r_resS, r_tmpK, r_tmp, r_frzN, r_frz0, r_frz1, r_at0, r_at1, r_at2, r_at3, r_frK, r_atF0, r_atF1, r_atF2, r_atF3, r_atF4, r_ixTup, r_ixRo, r_ixLst, r_ixStr, r_ixvF, r_ixvB, r_ixvK, r_ixV, r_isBx0, r_isBxS, r_mtK3, r_mtK2, r_mtK, r_mt, r_append, r_reverse, r_pop, r_slK3, r_slK2, r_slK, r_sl, r_oNone, r_osK, r_oSome, r_slLst, r_slRo, r_slTup, r_slStr, r_sqK2, r_sqK, r_iSeq, r_tqK2, r_tqK, r_iTup, r_rg1K, r_iRange1, r_rg2K, r_iRange2, r_forK, r_for, r_bodyK, r_cpEnd, r_cpK, r_comp, r_wipe0, r_wipeS, r_yes, r_cmK3, r_cmK2, r_cmK, r_cmN, r_compC, r_compN, r_endN, r_endR, r_ends, r_outOk0, r_outOkS, r_addI, r_addS, r_addL, r_addT, r_iaddI, r_iaddS, r_sub, r_mulI, r_mod, r_fdiv, r_pow, r_cmpI, r_eqI, r_eqS, r_eqB, r_eqT, r_eqL, r_neI, r_neS, r_neB, r_neT, r_neL, r_isN, r_notN, r_inT, r_inR, r_inL, r_inS, r_notIn, r_c1K, r_con1, r_con2, r_con1F, r_lenL, r_lenT, r_lenR, r_lenS, r_isi1, r_isi2, r_listL, r_listR, r_listT, r_tupleT, r_tupleL, r_intI, r_intB, r_absI, r_bools, r_ints, r_toD, r_toDb, r_toDsN, r_toDsC, r_toDsF, List.getElem?_cons_zero, List.getElem?_cons_succ, List.getElem?_nil, List.set_cons_zero, List.set_cons_succ, List.map_cons, List.map_nil, List.cons_append, List.nil_append, List.append_nil, List.length_cons, List.length_nil, List.length_map, List.length_append, List.replicate_succ, List.replicate_zero, List.all_cons, List.all_nil, List.any_cons, List.any_nil, List.drop_succ_cons, List.drop_zero, List.take_succ_cons, List.take_zero, List.reverse_cons, List.reverse_nil, Option.some.injEq, Option.isSome_some, Option.isSome_none, Option.getD_some, Option.getD_none, Option.map_some, Option.map_none, Option.bind_some, L.fr.injEq, D.bl.injEq, D.int.injEq, D.str.injEq, D.ty.injEq, exists_eq_left, exists_eq_left', exists_eq_right, true_and, and_true, false_and, and_false, false_or, or_false, true_or, or_true, reduceIte, if_true, if_false, Bool.not_true, Bool.not_false, Bool.true_and, Bool.and_true, Bool.false_and, Bool.and_false, Bool.or_true, Bool.true_or, Bool.or_false, Bool.false_or, Bool.false_eq_true, Bool.true_eq_false, Bool.not_eq_true, decide_eq_true_eq, decide_eq_false_iff_not, decide_true, decide_false, Bool.not_eq_eq_eq_not, List.mem_cons, List.not_mem_nil, ne_eq, not_true_eq_false, not_false_eq_true, reduceCtorEq, Nat.sub_zero, Nat.add_zero, Nat.zero_add, entry, entryL, outs, slotL, knownTy, isB, D.tyn, D.isNon, D.flat, D.feq, D.scalar, sizeLine_eq, Int.cast_ofNat_Int, Nat.reduceAdd, Nat.reduceSub, Nat.reduceMul, Nat.reduceLeDiff, Nat.reduceEqDiff, Nat.reducePow, Nat.reduceLT, Int.reduceLE, Int.reduceLT, Int.reduceNe, Int.reduceEq, Int.reduceAdd, Int.reduceSub, Int.reduceMul, Int.reduceNeg, Int.reduceToNat, Int.reducePow, String.reduceEq, String.reduceBEq, String.reduceBNe, Int.reduceFMod, Int.reduceFDiv, Int.reduceNegSucc, Int.reduceAbs, beq_self_eq_true, e0]
      refine atK_get (d := ds[i]) (by simp [hi]) (by omega) ?_
      simp (maxSteps := 4000000) only [r_ofStr, r_ofStrB, r_consN, r_consK, r_set0, r_setS, r_isSl0, r_isSlS, r_take0, r_takeS, r_dTake, r_peek0, r_peekS, r_dVar0, r_dVarS, r_seqK, r_seq, r_next, r_exprK, r_expr, r_ret, r_retN, r_ifK, r_if, r_dsSet, r_gName, r_asgK, r_asg, r_gTup, r_gsK, r_gsCons, r_gsNil, r_gStar, r_put0, r_put1, r_put2, r_put3, r_put4, r_boxK, r_gIx, r_gix0, r_gixS, r_setK2, r_parK, r_par, r_augK3, r_augK2, r_augK, r_aug, r_dC, r_opK3, r_opK2, r_opK, r_op, r_bK, r_dB, r_chK4, r_chK2, r_chK1, r_chain, r_andK, r_and, r_orK, r_or, r_notK, r_not, r_andVK, r_andV, r_orVK, r_orV, r_notVK, r_notV, r_difK, r_dIf, r_negK, r_neg, r_aNil, r_acK2, r_acK, r_aCons, r_aoK, r_aOwn, r_borK2, r_borK, r_aBor, r_lstK, r_lst, r_tupK, r_tup, r_retK, r_callK, r_call, r_res0, r_resN, r_resS, r_tmpK, r_tmp, r_frzN, r_frz0, r_frz1, r_at0, r_at1, r_at2, r_at3, r_frK, r_atF0, r_atF1, r_atF2, r_atF3, r_atF4, r_ixTup, r_ixRo, r_ixLst, r_ixStr, r_ixvF, r_ixvB, r_ixvK, r_ixV, r_isBx0, r_isBxS, r_mtK3, r_mtK2, r_mtK, r_mt, r_append, r_reverse, r_pop, r_slK3, r_slK2, r_slK, r_sl, r_oNone, r_osK, r_oSome, r_slLst, r_slRo, r_slTup, r_slStr, r_sqK2, r_sqK, r_iSeq, r_tqK2, r_tqK, r_iTup, r_rg1K, r_iRange1, r_rg2K, r_iRange2, r_forK, r_for, r_bodyK, r_cpEnd, r_cpK, r_comp, r_wipe0, r_wipeS, r_yes, r_cmK3, r_cmK2, r_cmK, r_cmN, r_compC, r_compN, r_endN, r_endR, r_ends, r_outOk0, r_outOkS, r_addI, r_addS, r_addL, r_addT, r_iaddI, r_iaddS, r_sub, r_mulI, r_mod, r_fdiv, r_pow, r_cmpI, r_eqI, r_eqS, r_eqB, r_eqT, r_eqL, r_neI, r_neS, r_neB, r_neT, r_neL, r_isN, r_notN, r_inT, r_inR, r_inL, r_inS, r_notIn, r_c1K, r_con1, r_con2, r_con1F, r_lenL, r_lenT, r_lenR, r_lenS, r_isi1, r_isi2, r_listL, r_listR, r_listT, r_tupleT, r_tupleL, r_intI, r_intB, r_absI, r_bools, r_ints, r_toD, r_toDb, r_toDsN, r_toDsC, r_toDsF, List.getElem?_cons_zero, List.getElem?_cons_succ, List.getElem?_nil, List.set_cons_zero, List.set_cons_succ, List.map_cons, List.map_nil, List.cons_append, List.nil_append, List.append_nil, List.length_cons, List.length_nil, List.length_map, List.length_append, List.replicate_succ, List.replicate_zero, List.all_cons, List.all_nil, List.any_cons, List.any_nil, List.drop_succ_cons, List.drop_zero, List.take_succ_cons, List.take_zero, List.reverse_cons, List.reverse_nil, Option.some.injEq, Option.isSome_some, Option.isSome_none, Option.getD_some, Option.getD_none, Option.map_some, Option.map_none, Option.bind_some, L.fr.injEq, D.bl.injEq, D.int.injEq, D.str.injEq, D.ty.injEq, exists_eq_left, exists_eq_left', exists_eq_right, true_and, and_true, false_and, and_false, false_or, or_false, true_or, or_true, reduceIte, if_true, if_false, Bool.not_true, Bool.not_false, Bool.true_and, Bool.and_true, Bool.false_and, Bool.and_false, Bool.or_true, Bool.true_or, Bool.or_false, Bool.false_or, Bool.false_eq_true, Bool.true_eq_false, Bool.not_eq_true, decide_eq_true_eq, decide_eq_false_iff_not, decide_true, decide_false, Bool.not_eq_eq_eq_not, List.mem_cons, List.not_mem_nil, ne_eq, not_true_eq_false, not_false_eq_true, reduceCtorEq, Nat.sub_zero, Nat.add_zero, Nat.zero_add, entry, entryL, outs, slotL, knownTy, isB, D.tyn, D.isNon, D.flat, D.feq, D.scalar, sizeLine_eq, Int.cast_ofNat_Int, Nat.reduceAdd, Nat.reduceSub, Nat.reduceMul, Nat.reduceLeDiff, Nat.reduceEqDiff, Nat.reducePow, Nat.reduceLT, Int.reduceLE, Int.reduceLT, Int.reduceNe, Int.reduceEq, Int.reduceAdd, Int.reduceSub, Int.reduceMul, Int.reduceNeg, Int.reduceToNat, Int.reducePow, String.reduceEq, String.reduceBEq, String.reduceBNe, Int.reduceFMod, Int.reduceFDiv, Int.reduceNegSucc, Int.reduceAbs, beq_self_eq_true, e0]
      refine atK_get (d := ds[i]) (by simp [hi]) (by omega) ?_
      simp (maxSteps := 4000000) only [r_ofStr, r_ofStrB, r_consN, r_consK, r_set0, r_setS, r_isSl0, r_isSlS, r_take0, r_takeS, r_dTake, r_peek0, r_peekS, r_dVar0, r_dVarS, r_seqK, r_seq, r_next, r_exprK, r_expr, r_ret, r_retN, r_ifK, r_if, r_dsSet, r_gName, r_asgK, r_asg, r_gTup, r_gsK, r_gsCons, r_gsNil, r_gStar, r_put0, r_put1, r_put2, r_put3, r_put4, r_boxK, r_gIx, r_gix0, r_gixS, r_setK2, r_parK, r_par, r_augK3, r_augK2, r_augK, r_aug, r_dC, r_opK3, r_opK2, r_opK, r_op, r_bK, r_dB, r_chK4, r_chK2, r_chK1, r_chain, r_andK, r_and, r_orK, r_or, r_notK, r_not, r_andVK, r_andV, r_orVK, r_orV, r_notVK, r_notV, r_difK, r_dIf, r_negK, r_neg, r_aNil, r_acK2, r_acK, r_aCons, r_aoK, r_aOwn, r_borK2, r_borK, r_aBor, r_lstK, r_lst, r_tupK, r_tup, r_retK, r_callK, r_call, r_res0, r_resN, r_resS, r_tmpK, r_tmp, r_frzN, r_frz0, r_frz1, r_at0, r_at1, r_at2, r_at3, r_frK, r_atF0, r_atF1, r_atF2, r_atF3, r_atF4, r_ixTup, r_ixRo, r_ixLst, r_ixStr, r_ixvF, r_ixvB, r_ixvK, r_ixV, r_isBx0, r_isBxS, r_mtK3, r_mtK2, r_mtK, r_mt, r_append, r_reverse, r_pop, r_slK3, r_slK2, r_slK, r_sl, r_oNone, r_osK, r_oSome, r_slLst, r_slRo, r_slTup, r_slStr, r_sqK2, r_sqK, r_iSeq, r_tqK2, r_tqK, r_iTup, r_rg1K, r_iRange1, r_rg2K, r_iRange2, r_forK, r_for, r_bodyK, r_cpEnd, r_cpK, r_comp, r_wipe0, r_wipeS, r_yes, r_cmK3, r_cmK2, r_cmK, r_cmN, r_compC, r_compN, r_endN, r_endR, r_ends, r_outOk0, r_outOkS, r_addI, r_addS, r_addL, r_addT, r_iaddI, r_iaddS, r_sub, r_mulI, r_mod, r_fdiv, r_pow, r_cmpI, r_eqI, r_eqS, r_eqB, r_eqT, r_eqL, r_neI, r_neS, r_neB, r_neT, r_neL, r_isN, r_notN, r_inT, r_inR, r_inL, r_inS, r_notIn, r_c1K, r_con1, r_con2, r_con1F, r_lenL, r_lenT, r_lenR, r_lenS, r_isi1, r_isi2, r_listL, r_listR, r_listT, r_tupleT, r_tupleL, r_intI, r_intB, r_absI, r_bools, r_ints, r_toD, r_toDb, r_toDsN, r_toDsC, r_toDsF, List.getElem?_cons_zero, List.getElem?_cons_succ, List.getElem?_nil, List.set_cons_zero, List.set_cons_succ, List.map_cons, List.map_nil, List.cons_append, List.nil_append, List.append_nil, List.length_cons, List.length_nil, List.length_map, List.length_append, List.replicate_succ, List.replicate_zero, List.all_cons, List.all_nil, List.any_cons, List.any_nil, List.drop_succ_cons, List.drop_zero, List.take_succ_cons, List.take_zero, List.reverse_cons, List.reverse_nil, Option.some.injEq, Option.isSome_some, Option.isSome_none, Option.getD_some, Option.getD_none, Option.map_some, Option.map_none, Option.bind_some, L.fr.injEq, D.bl.injEq, D.int.injEq, D.str.injEq, D.ty.injEq, exists_eq_left, exists_eq_left', exists_eq_right, true_and, and_true, false_and, and_false, false_or, or_false, true_or, or_true, reduceIte, if_true, if_false, Bool.not_true, Bool.not_false, Bool.true_and, Bool.and_true, Bool.false_and, Bool.and_false, Bool.or_true, Bool.true_or, Bool.or_false, Bool.false_or, Bool.false_eq_true, Bool.true_eq_false, Bool.not_eq_true, decide_eq_true_eq, decide_eq_false_iff_not, decide_true, decide_false, Bool.not_eq_eq_eq_not, List.mem_cons, List.not_mem_nil, ne_eq, not_true_eq_false, not_false_eq_true, reduceCtorEq, Nat.sub_zero, Nat.add_zero, Nat.zero_add, entry, entryL, outs, slotL, knownTy, isB, D.tyn, D.isNon, D.flat, D.feq, D.scalar, sizeLine_eq, Int.cast_ofNat_Int, Nat.reduceAdd, Nat.reduceSub, Nat.reduceMul, Nat.reduceLeDiff, Nat.reduceEqDiff, Nat.reducePow, Nat.reduceLT, Int.reduceLE, Int.reduceLT, Int.reduceNe, Int.reduceEq, Int.reduceAdd, Int.reduceSub, Int.reduceMul, Int.reduceNeg, Int.reduceToNat, Int.reducePow, String.reduceEq, String.reduceBEq, String.reduceBNe, Int.reduceFMod, Int.reduceFDiv, Int.reduceNegSucc, Int.reduceAbs, beq_self_eq_true]
      refine ⟨_, hd.2 _ (List.getElem_mem hi), rfl, fun _ _ => ?_⟩
      simp (maxSteps := 4000000) only [r_ofStr, r_ofStrB, r_consN, r_consK, r_set0, r_setS, r_isSl0, r_isSlS, r_take0, r_takeS, r_dTake, r_peek0, r_peekS, r_dVar0, r_dVarS, r_seqK, r_seq, r_next, r_exprK, r_expr, r_ret, r_retN, r_ifK, r_if, r_dsSet, r_gName, r_asgK, r_asg, r_gTup, r_gsK, r_gsCons, r_gsNil, r_gStar, r_put0, r_put1, r_put2, r_put3, r_put4, r_boxK, r_gIx, r_gix0, r_gixS, r_setK2, r_parK, r_par, r_augK3, r_augK2, r_augK, r_aug, r_dC, r_opK3, r_opK2, r_opK, r_op, r_bK, r_dB, r_chK4, r_chK2, r_chK1, r_chain, r_andK, r_and, r_orK, r_or, r_notK, r_not, r_andVK, r_andV, r_orVK, r_orV, r_notVK, r_notV, r_difK, r_dIf, r_negK, r_neg, r_aNil, r_acK2, r_acK, r_aCons, r_aoK, r_aOwn, r_borK2, r_borK, r_aBor, r_lstK, r_lst, r_tupK, r_tup, r_retK, r_callK, r_call, r_res0, r_resN, r_resS, r_tmpK, r_tmp, r_frzN, r_frz0, r_frz1, r_at0, r_at1, r_at2, r_at3, r_frK, r_atF0, r_atF1, r_atF2, r_atF3, r_atF4, r_ixTup, r_ixRo, r_ixLst, r_ixStr, r_ixvF, r_ixvB, r_ixvK, r_ixV, r_isBx0, r_isBxS, r_mtK3, r_mtK2, r_mtK, r_mt, r_append, r_reverse, r_pop, r_slK3, r_slK2, r_slK, r_sl, r_oNone, r_osK, r_oSome, r_slLst, r_slRo, r_slTup, r_slStr, r_sqK2, r_sqK, r_iSeq, r_tqK2, r_tqK, r_iTup, r_rg1K, r_iRange1, r_rg2K, r_iRange2, r_forK, r_for, r_bodyK, r_cpEnd, r_cpK, r_comp, r_wipe0, r_wipeS, r_yes, r_cmK3, r_cmK2, r_cmK, r_cmN, r_compC, r_compN, r_endN, r_endR, r_ends, r_outOk0, r_outOkS, r_addI, r_addS, r_addL, r_addT, r_iaddI, r_iaddS, r_sub, r_mulI, r_mod, r_fdiv, r_pow, r_cmpI, r_eqI, r_eqS, r_eqB, r_eqT, r_eqL, r_neI, r_neS, r_neB, r_neT, r_neL, r_isN, r_notN, r_inT, r_inR, r_inL, r_inS, r_notIn, r_c1K, r_con1, r_con2, r_con1F, r_lenL, r_lenT, r_lenR, r_lenS, r_isi1, r_isi2, r_listL, r_listR, r_listT, r_tupleT, r_tupleL, r_intI, r_intB, r_absI, r_bools, r_ints, r_toD, r_toDb, r_toDsN, r_toDsC, r_toDsF, List.getElem?_cons_zero, List.getElem?_cons_succ, List.getElem?_nil, List.set_cons_zero, List.set_cons_succ, List.map_cons, List.map_nil, List.cons_append, List.nil_append, List.append_nil, List.length_cons, List.length_nil, List.length_map, List.length_append, List.replicate_succ, List.replicate_zero, List.all_cons, List.all_nil, List.any_cons, List.any_nil, List.drop_succ_cons, List.drop_zero, List.take_succ_cons, List.take_zero, List.reverse_cons, List.reverse_nil, Option.some.injEq, Option.isSome_some, Option.isSome_none, Option.getD_some, Option.getD_none, Option.map_some, Option.map_none, Option.bind_some, L.fr.injEq, D.bl.injEq, D.int.injEq, D.str.injEq, D.ty.injEq, exists_eq_left, exists_eq_left', exists_eq_right, true_and, and_true, false_and, and_false, false_or, or_false, true_or, or_true, reduceIte, if_true, if_false, Bool.not_true, Bool.not_false, Bool.true_and, Bool.and_true, Bool.false_and, Bool.and_false, Bool.or_true, Bool.true_or, Bool.or_false, Bool.false_or, Bool.false_eq_true, Bool.true_eq_false, Bool.not_eq_true, decide_eq_true_eq, decide_eq_false_iff_not, decide_true, decide_false, Bool.not_eq_eq_eq_not, List.mem_cons, List.not_mem_nil, ne_eq, not_true_eq_false, not_false_eq_true, reduceCtorEq, Nat.sub_zero, Nat.add_zero, Nat.zero_add, entry, entryL, outs, slotL, knownTy, isB, D.tyn, D.isNon, D.flat, D.feq, D.scalar, sizeLine_eq, Int.cast_ofNat_Int, Nat.reduceAdd, Nat.reduceSub, Nat.reduceMul, Nat.reduceLeDiff, Nat.reduceEqDiff, Nat.reducePow, Nat.reduceLT, Int.reduceLE, Int.reduceLT, Int.reduceNe, Int.reduceEq, Int.reduceAdd, Int.reduceSub, Int.reduceMul, Int.reduceNeg, Int.reduceToNat, Int.reducePow, String.reduceEq, String.reduceBEq, String.reduceBNe, Int.reduceFMod, Int.reduceFDiv, Int.reduceNegSucc, Int.reduceAbs, beq_self_eq_true]
      refine ⟨by rw [List.length_replicate]; omega, hM _ _ ⟨by rw [List.replicate_succ'], rfl⟩⟩
    · rintro acc env ⟨rfl, rfl⟩
      rw [rngD_len]
      have e : ∀ n : Nat, L.toDs (List.replicate n (.fr (.bl true))) = (List.replicate n true).map D.bl := fun n => by
        rw [toDs_map]; simp [L.toD]
      simp (maxSteps := 4000000) only [r_ofStr, r_ofStrB, r_consN, r_consK, r_set0, r_setS, r_isSl0, r_isSlS, r_take0, r_takeS, r_dTake, r_peek0, r_peekS, r_dVar0, r_dVarS, r_seqK, r_seq, r_next, r_exprK, r_expr, r_ret, r_retN, r_ifK, r_if, r_dsSet, r_gName, r_asgK, r_asg, r_gTup, r_gsK, r_gsCons, r_gsNil, r_gStar, r_put0, r_put1, r_put2, r_put3, r_put4, r_boxK, r_gIx, r_gix0, r_gixS, r_setK2, r_parK, r_par, r_augK3, r_augK2, r_augK, r_aug, r_dC, r_opK3, r_opK2, r_opK, r_op, r_bK, r_dB, r_chK4, r_chK2, r_chK1, r_chain, r_andK, r_and, r_orK, r_or, r_notK, r_not, r_andVK, r_andV, r_orVK, r_orV, r_notVK, r_notV, r_difK, r_dIf, r_negK, r_neg, r_aNil, r_acK2, r_acK, r_aCons, r_aoK, r_aOwn, r_borK2, r_borK, r_aBor, r_lstK, r_lst, r_tupK, r_tup, r_retK, r_callK, r_call, r_res0, r_resN, r_resS, r_tmpK, r_tmp, r_frzN, r_frz0, r_frz1, r_at0, r_at1, r_at2, r_at3, r_frK, r_atF0, r_atF1, r_atF2, r_atF3, r_atF4, r_ixTup, r_ixRo, r_ixLst, r_ixStr, r_ixvF, r_ixvB, r_ixvK, r_ixV, r_isBx0, r_isBxS, r_mtK3, r_mtK2, r_mtK, r_mt, r_append, r_reverse, r_pop, r_slK3, r_slK2, r_slK, r_sl, r_oNone, r_osK, r_oSome, r_slLst, r_slRo, r_slTup, r_slStr, r_sqK2, r_sqK, r_iSeq, r_tqK2, r_tqK, r_iTup, r_rg1K, r_iRange1, r_rg2K, r_iRange2, r_forK, r_for, r_bodyK, r_cpEnd, r_cpK, r_comp, r_wipe0, r_wipeS, r_yes, r_cmK3, r_cmK2, r_cmK, r_cmN, r_compC, r_compN, r_endN, r_endR, r_ends, r_outOk0, r_outOkS, r_addI, r_addS, r_addL, r_addT, r_iaddI, r_iaddS, r_sub, r_mulI, r_mod, r_fdiv, r_pow, r_cmpI, r_eqI, r_eqS, r_eqB, r_eqT, r_eqL, r_neI, r_neS, r_neB, r_neT, r_neL, r_isN, r_notN, r_inT, r_inR, r_inL, r_inS, r_notIn, r_c1K, r_con1, r_con2, r_con1F, r_lenL, r_lenT, r_lenR, r_lenS, r_isi1, r_isi2, r_listL, r_listR, r_listT, r_tupleT, r_tupleL, r_intI, r_intB, r_absI, r_bools, r_ints, r_toD, r_toDb, r_toDsN, r_toDsC, r_toDsF, List.getElem?_cons_zero, List.getElem?_cons_succ, List.getElem?_nil, List.set_cons_zero, List.set_cons_succ, List.map_cons, List.map_nil, List.cons_append, List.nil_append, List.append_nil, List.length_cons, List.length_nil, List.length_map, List.length_append, List.replicate_succ, List.replicate_zero, List.all_cons, List.all_nil, List.any_cons, List.any_nil, List.drop_succ_cons, List.drop_zero, List.take_succ_cons, List.take_zero, List.reverse_cons, List.reverse_nil, Option.some.injEq, Option.isSome_some, Option.isSome_none, Option.getD_some, Option.getD_none, Option.map_some, Option.map_none, Option.bind_some, L.fr.injEq, D.bl.injEq, D.int.injEq, D.str.injEq, D.ty.injEq, exists_eq_left, exists_eq_left', exists_eq_right, true_and, and_true, false_and, and_false, false_or, or_false, true_or, or_true, reduceIte, if_true, if_false, Bool.not_true, Bool.not_false, Bool.true_and, Bool.and_true, Bool.false_and, Bool.and_false, Bool.or_true, Bool.true_or, Bool.or_false, Bool.false_or, Bool.false_eq_true, Bool.true_eq_false, Bool.not_eq_true, decide_eq_true_eq, decide_eq_false_iff_not, decide_true, decide_false, Bool.not_eq_eq_eq_not, List.mem_cons, List.not_mem_nil, ne_eq, not_true_eq_false, not_false_eq_true, reduceCtorEq, Nat.sub_zero, Nat.add_zero, Nat.zero_add, entry, entryL, outs, slotL, knownTy, isB, D.tyn, D.isNon, D.flat, D.feq, D.scalar, sizeLine_eq, Int.cast_ofNat_Int, Nat.reduceAdd, Nat.reduceSub, Nat.reduceMul, Nat.reduceLeDiff, Nat.reduceEqDiff, Nat.reducePow, Nat.reduceLT, Int.reduceLE, Int.reduceLT, Int.reduceNe, Int.reduceEq, Int.reduceAdd, Int.reduceSub, Int.reduceMul, Int.reduceNeg, Int.reduceToNat, Int.reducePow, String.reduceEq, String.reduceBEq, String.reduceBNe, Int.reduceFMod, Int.reduceFDiv, Int.reduceNegSucc, Int.reduceAbs, beq_self_eq_true, e]
      refine ⟨_, dBools_map _, ?_⟩
      have e2 : ∀ n : Nat, (List.replicate n true).all id = true := fun n => by simp
      simp (maxSteps := 4000000) only [r_ofStr, r_ofStrB, r_consN, r_consK, r_set0, r_setS, r_isSl0, r_isSlS, r_take0, r_takeS, r_dTake, r_peek0, r_peekS, r_dVar0, r_dVarS, r_seqK, r_seq, r_next, r_exprK, r_expr, r_ret, r_retN, r_ifK, r_if, r_dsSet, r_gName, r_asgK, r_asg, r_gTup, r_gsK, r_gsCons, r_gsNil, r_gStar, r_put0, r_put1, r_put2, r_put3, r_put4, r_boxK, r_gIx, r_gix0, r_gixS, r_setK2, r_parK, r_par, r_augK3, r_augK2, r_augK, r_aug, r_dC, r_opK3, r_opK2, r_opK, r_op, r_bK, r_dB, r_chK4, r_chK2, r_chK1, r_chain, r_andK, r_and, r_orK, r_or, r_notK, r_not, r_andVK, r_andV, r_orVK, r_orV, r_notVK, r_notV, r_difK, r_dIf, r_negK, r_neg, r_aNil, r_acK2, r_acK, r_aCons, r_aoK, r_aOwn, r_borK2, r_borK, r_aBor, r_lstK, r_lst, r_tupK, r_tup, r_retK, r_callK, r_call, r_res0, r_resN, r_resS, r_tmpK, r_tmp, r_frzN, r_frz0, r_frz1, r_at0, r_at1, r_at2, r_at3, r_frK, r_atF0, r_atF1, r_atF2, r_atF3, r_atF4, r_ixTup, r_ixRo, r_ixLst, r_ixStr, r_ixvF, r_ixvB, r_ixvK, r_ixV, r_isBx0, r_isBxS, r_mtK3, r_mtK2, r_mtK, r_mt, r_append, r_reverse, r_pop, r_slK3, r_slK2, r_slK, r_sl, r_oNone, r_osK, r_oSome, r_slLst, r_slRo, r_slTup, r_slStr, r_sqK2, r_sqK, r_iSeq, r_tqK2, r_tqK, r_iTup, r_rg1K, r_iRange1, r_rg2K, r_iRange2, r_forK, r_for, r_bodyK, r_cpEnd, r_cpK, r_comp, r_wipe0, r_wipeS, r_yes, r_cmK3, r_cmK2, r_cmK, r_cmN, r_compC, r_compN, r_endN, r_endR, r_ends, r_outOk0, r_outOkS, r_addI, r_addS, r_addL, r_addT, r_iaddI, r_iaddS, r_sub, r_mulI, r_mod, r_fdiv, r_pow, r_cmpI, r_eqI, r_eqS, r_eqB, r_eqT, r_eqL, r_neI, r_neS, r_neB, r_neT, r_neL, r_isN, r_notN, r_inT, r_inR, r_inL, r_inS, r_notIn, r_c1K, r_con1, r_con2, r_con1F, r_lenL, r_lenT, r_lenR, r_lenS, r_isi1, r_isi2, r_listL, r_listR, r_listT, r_tupleT, r_tupleL, r_intI, r_intB, r_absI, r_bools, r_ints, r_toD, r_toDb, r_toDsN, r_toDsC, r_toDsF, List.getElem?_cons_zero, List.getElem?_cons_succ, List.getElem?_nil, List.set_cons_zero, List.set_cons_succ, List.map_cons, List.map_nil, List.cons_append, List.nil_append, List.append_nil, List.length_cons, List.length_nil, List.length_map, List.length_append, List.replicate_succ, List.replicate_zero, List.all_cons, List.all_nil, List.any_cons, List.any_nil, List.drop_succ_cons, List.drop_zero, List.take_succ_cons, List.take_zero, List.reverse_cons, List.reverse_nil, Option.some.injEq, Option.isSome_some, Option.isSome_none, Option.getD_some, Option.getD_none, Option.map_some, Option.map_none, Option.bind_some, L.fr.injEq, D.bl.injEq, D.int.injEq, D.str.injEq, D.ty.injEq, exists_eq_left, exists_eq_left', exists_eq_right, true_and, and_true, false_and, and_false, false_or, or_false, true_or, or_true, reduceIte, if_true, if_false, Bool.not_true, Bool.not_false, Bool.true_and, Bool.and_true, Bool.false_and, Bool.and_false, Bool.or_true, Bool.true_or, Bool.or_false, Bool.false_or, Bool.false_eq_true, Bool.true_eq_false, Bool.not_eq_true, decide_eq_true_eq, decide_eq_false_iff_not, decide_true, decide_false, Bool.not_eq_eq_eq_not, List.mem_cons, List.not_mem_nil, ne_eq, not_true_eq_false, not_false_eq_true, reduceCtorEq, Nat.sub_zero, Nat.add_zero, Nat.zero_add, entry, entryL, outs, slotL, knownTy, isB, D.tyn, D.isNon, D.flat, D.feq, D.scalar, sizeLine_eq, Int.cast_ofNat_Int, Nat.reduceAdd, Nat.reduceSub, Nat.reduceMul, Nat.reduceLeDiff, Nat.reduceEqDiff, Nat.reducePow, Nat.reduceLT, Int.reduceLE, Int.reduceLT, Int.reduceNe, Int.reduceEq, Int.reduceAdd, Int.reduceSub, Int.reduceMul, Int.reduceNeg, Int.reduceToNat, Int.reducePow, String.reduceEq, String.reduceBEq, String.reduceBNe, Int.reduceFMod, Int.reduceFDiv, Int.reduceNegSucc, Int.reduceAbs, beq_self_eq_true, e2]
      exact h _ _
  · rename_i m ds e
    cases e
    simp (maxSteps := 4000000) only [r_ofStr, r_ofStrB, r_consN, r_consK, r_set0, r_setS, r_isSl0, r_isSlS, r_take0, r_takeS, r_dTake, r_peek0, r_peekS, r_dVar0, r_dVarS, r_seqK, r_seq, r_next, r_exprK, r_expr, r_ret, r_retN, r_ifK, r_if, r_dsSet, r_gName, r_asgK, r_asg, r_gTup, r_gsK, r_gsCons, r_gsNil, r_gStar, r_put0, r_put1, r_put2, r_put3, r_put4, r_boxK, r_gIx, r_gix0, r_gixS, r_setK2, r_parK, r_par, r_augK3, r_augK2, r_augK, r_aug, r_dC, r_opK3, r_opK2, r_opK, r_op, r_bK, r_dB, r_chK4, r_chK2, r_chK1, r_chain, r_andK, r_and, r_orK, r_or, r_notK, r_not, r_andVK, r_andV, r_orVK, r_orV, r_notVK, r_notV, r_difK, r_dIf, r_negK, r_neg, r_aNil, r_acK2, r_acK, r_aCons, r_aoK, r_aOwn, r_borK2, r_borK, r_aBor, r_lstK, r_lst, r_tupK, r_tup, r_retK, r_callK, r_call, r_res0, r_resN, r_resS, r_tmpK, r_tmp, r_frzN, r_frz0, r_frz1, r_at0, r_at1, r_at2, r_at3, r_frK, r_atF0, r_atF1, r_atF2, r_atF3, r_atF4, r_ixTup, r_ixRo, r_ixLst, r_ixStr, r_ixvF, r_ixvB, r_ixvK, r_ixV, r_isBx0, r_isBxS, r_mtK3, r_mtK2, r_mtK, r_mt, r_append, r_reverse, r_pop, r_slK3, r_slK2, r_slK, r_sl, r_oNone, r_osK, r_oSome, r_slLst, r_slRo, r_slTup, r_slStr, r_sqK2, r_sqK, r_iSeq, r_tqK2, r_tqK, r_iTup, r_rg1K, r_iRange1, r_rg2K, r_iRange2, r_forK, r_for, r_bodyK, r_cpEnd, r_cpK, r_comp, r_wipe0, r_wipeS, r_yes, r_cmK3, r_cmK2, r_cmK, r_cmN, r_compC, r_compN, r_endN, r_endR, r_ends, r_outOk0, r_outOkS, r_addI, r_addS, r_addL, r_addT, r_iaddI, r_iaddS, r_sub, r_mulI, r_mod, r_fdiv, r_pow, r_cmpI, r_eqI, r_eqS, r_eqB, r_eqT, r_eqL, r_neI, r_neS, r_neB, r_neT, r_neL, r_isN, r_notN, r_inT, r_inR, r_inL, r_inS, r_notIn, r_c1K, r_con1, r_con2, r_con1F, r_lenL, r_lenT, r_lenR, r_lenS, r_isi1, r_isi2, r_listL, r_listR, r_listT, r_tupleT, r_tupleL, r_intI, r_intB, r_absI, r_bools, r_ints, r_toD, r_toDb, r_toDsN, r_toDsC, r_toDsF, List.getElem?_cons_zero, List.getElem?_cons_succ, List.getElem?_nil, List.set_cons_zero, List.set_cons_succ, List.map_cons, List.map_nil, List.cons_append, List.nil_append, List.append_nil, List.length_cons, List.length_nil, List.length_map, List.length_append, List.replicate_succ, List.replicate_zero, List.all_cons, List.all_nil, List.any_cons, List.any_nil, List.drop_succ_cons, List.drop_zero, List.take_succ_cons, List.take_zero, List.reverse_cons, List.reverse_nil, Option.some.injEq, Option.isSome_some, Option.isSome_none, Option.getD_some, Option.getD_none, Option.map_some, Option.map_none, Option.bind_some, L.fr.injEq, D.bl.injEq, D.int.injEq, D.str.injEq, D.ty.injEq, exists_eq_left, exists_eq_left', exists_eq_right, true_and, and_true, false_and, and_false, false_or, or_false, true_or, or_true, reduceIte, if_true, if_false, Bool.not_true, Bool.not_false, Bool.true_and, Bool.and_true, Bool.false_and, Bool.and_false, Bool.or_true, Bool.true_or, Bool.or_false, Bool.false_or, Bool.false_eq_true, Bool.true_eq_false, Bool.not_eq_true, decide_eq_true_eq, decide_eq_false_iff_not, decide_true, decide_false, Bool.not_eq_eq_eq_not, List.mem_cons, List.not_mem_nil, ne_eq, not_true_eq_false, not_false_eq_true, reduceCtorEq, Nat.sub_zero, Nat.add_zero, Nat.zero_add, entry, entryL, outs, slotL, knownTy, isB, D.tyn, D.isNon, D.flat, D.feq, D.scalar, sizeLine_eq, Int.cast_ofNat_Int, Nat.reduceAdd, Nat.reduceSub, Nat.reduceMul, Nat.reduceLeDiff, Nat.reduceEqDiff, Nat.reducePow, Nat.reduceLT, Int.reduceLE, Int.reduceLT, Int.reduceNe, Int.reduceEq, Int.reduceAdd, Int.reduceSub, Int.reduceMul, Int.reduceNeg, Int.reduceToNat, Int.reducePow, String.reduceEq, String.reduceBEq, String.reduceBNe, Int.reduceFMod, Int.reduceFDiv, Int.reduceNegSucc, Int.reduceAbs, beq_self_eq_true, t_law_like, cmp_bb, eqv_bb]
    refine ⟨by omega, ?_⟩
    refine compD_ix' (I := fun i acc e => acc = List.replicate i (.fr (.bl true)) ∧ e = [some (.fr (.tup ds)), some (.fr (.tup ds)), some (.box .lst [.fr (.tup [.bl false, .bl true]), .fr (.tup [.bl false, .bl true])]), none, none]) ⟨rfl, rfl⟩ ?_ ?_
    · rintro i d acc env hd' ⟨rfl, rfl⟩ M hM
      obtain ⟨hi, rfl⟩ := rngD_get hd'
      have hi : i < ds.length := by omega
      have e0 : (0 + (i : Int)) = (i : Int) := by omega
      simp (maxSteps := 4000000) only [r_ofStr, r_ofStrB, r_consN, r_consK, r_set0, r_setS, r_isSl0, r_isSlS, r_take0, r_takeS, r_dTake, r_peek0, r_peekS, r_dVar0, r_dVarS, r_seqK, r_seq, r_next, r_exprK, r_expr, r_ret, r_retN, r_ifK, r_if, r_dsSet, r_gName, r_asgK, r_asg, r_gTup, r_gsK, r_gsCons, r_gsNil, r_gStar, r_put0, r_put1, r_put2, r_put3, r_put4, r_boxK, r_gIx, r_gix0, r_gixS, r_setK2, r_parK, r_par, r_augK3, r_augK2, r_augK, r_aug, r_dC, r_opK3, r_opK2, r_opK, r_op, r_bK, r_dB, r_chK4, r_chK2, r_chK1, r_chain, r_andK, r_and, r_orK, r_or, r_notK, r_not, r_andVK, r_andV, r_orVK, r_orV, r_notVK, r_notV, r_difK, r_dIf, r_negK, r_neg, r_aNil, r_acK2, r_acK, r_aCons, r_aoK, r_aOwn, r_borK2, r_borK, r_aBor, r_lstK, r_lst, r_tupK, r_tup, r_retK, r_callK, r_call, r_res0, r_resN, r_resS, r_tmpK, r_tmp, r_frzN, r_frz0, r_frz1, r_at0, r_at1, r_at2, r_at3, r_frK, r_atF0, r_atF1, r_atF2, r_atF3, r_atF4, r_ixTup, r_ixRo, r_ixLst, r_ixStr, r_ixvF, r_ixvB, r_ixvK, r_ixV, r_isBx0, r_isBxS, r_mtK3, r_mtK2, r_mtK, r_mt, r_append, r_reverse, r_pop, r_slK3, r_slK2, r_slK, r_sl, r_oNone, r_osK, r_oSome, r_slLst, r_slRo, r_slTup, r_slStr, r_sqK2, r_sqK, r_iSeq, r_tqK2, r_tqK, r_iTup, r_rg1K, r_iRange1, r_rg2K, r_iRange2, r_forK, r_for, r_bodyK, r_cpEnd, r_cpK, r_comp, r_wipe0, r_wipeS, r_yes, r_cmK3, r_cmK2, r_cmK, r_cmN, r_compC, r_compN, r_endN, r_endR, r_ends, r_outOk0, r_outOkS, r_addI, r_addS, r_addL, r_addT, r_iaddI, r_iaddS, r_sub, r_mulI, r_mod, r_fdiv, r_pow, r_cmpI, r_eqI, r_eqS, r_eqB, r_eqT, r_eqL, r_neI, r_neS, r_neB, r_neT, r_neL, r_isN, r_notN, r_inT, r_inR, r_inL, r_inS, r_notIn, r_c1K, r_con1, r_con2, r_con1F, r_lenL, r_lenT, r_lenR, r_lenS, r_isi1, r_isi2, r_listL, r_listR, r_listT, r_tupleT, r_tupleL, r_intI, r_intB, r_absI, r_bools, r_ints, r_toD, r_toDb, r_toDsN, r_toDsC, r_toDsF, List.getElem?_cons_zero, List.getElem?_cons_succ, List.getElem?_nil, List.set_cons_zero, List.set_cons_succ, List.map_cons, List.map_nil, List.cons_append, List.nil_append, List.append_nil, List.length_cons, List.length_nil, List.length_map, List.length_append, List.replicate_succ, List.replicate_zero, List.all_cons, List.all_nil, List.any_cons, List.any_nil, List.drop_succ_cons, List.drop_zero, List.take_succ_cons, List.take_zero, List.reverse_cons, List.reverse_nil, Option.some.injEq, Option.isSome_some, Option.isSome_none, Option.getD_some, Option.getD_none, Option.map_some, Option.map_none, Option.bind_some, L.fr.injEq, D.bl.injEq, D.int.injEq, D.str.injEq, D.ty.injEq, exists_eq_left, exists_eq_left', exists_eq_right, true_and, and_true, false_and, and_false, false_or, or_false, true_or, or_true, reduceIte, if_true, if_false, Bool.not_true, Bool.not_false, Bool.true_and, Bool.and_true, Bool.false_and, Bool.and_false, Bool.or_true, Bool.true_or, Bool.or_false, Bool.false_or, Bool.false_eq_true, Bool.true_eq_false, Bool.not_eq_true, decide_eq_true_eq, decide_eq_false_iff_not, decide_true, decide_false, Bool.not_eq_eq_eq_not, List.mem_cons, List.not_mem_nil, ne_eq, not_true_eq_false, not_false_eq_true, reduceCtorEq, Nat.sub_zero, Nat.add_zero, Nat.zero_add, entry, entryL, outs, slotL, knownTy, isB, D.tyn, D.isNon, D.flat, D.feq, D.scalar, sizeLine_eq, Int.cast_ofNat_Int, Nat.reduceAdd, Nat.reduceSub, Nat.reduceMul, Nat.reduceLeDiff, Nat.reduceEqDiff, Nat.reducePow, Nat.reduceLT, Int.reduceLE, Int.reduceLT, Int.reduceNe, Int.reduceEq, Int.reduceAdd, Int.reduceSub, Int.reduceMul, Int.reduceNeg, Int.reduceToNat, Int.reducePow, String.reduceEq, String.reduceBEq, String.reduceBNe, Int.reduceFMod, Int.reduceFDiv, Int.reduceNegSucc, Int.reduceAbs, beq_self_eq_true, e0]
      refine atK_get (d := ds[i]) (by simp [hi]) (by omega) ?_
      simp (maxSteps := 4000000) only [r_ofStr, r_ofStrB, r_consN, r_consK, r_set0, r_setS, r_isSl0, r_isSlS, r_take0, r_takeS, r_dTake, r_peek0, r_peekS, r_dVar0, r_dVarS, r_seqK, r_seq, r_next, r_exprK, r_expr, r_ret, r_retN, r_ifK, r_if, r_dsSet, r_gName, r_asgK, r_asg, r_gTup, r_gsK, r_gsCons, r_gsNil, r_gStar, r_put0, r_put1, r_put2, r_put3, r_put4, r_boxK, r_gIx, r_gix0, r_gixS, r_setK2, r_parK, r_par, r_augK3, r_augK2, r_augK, r_aug, r_dC, r_opK3, r_opK2, r_opK, r_op, r_bK, r_dB, r_chK4, r_chK2, r_chK1, r_chain, r_andK, r_and, r_orK, r_or, r_notK, r_not, r_andVK, r_andV, r_orVK, r_orV, r_notVK, r_notV, r_difK, r_dIf, r_negK, r_neg, r_aNil, r_acK2, r_acK, r_aCons, r_aoK, r_aOwn, r_borK2, r_borK, r_aBor, r_lstK, r_lst, r_tupK, r_tup, r_retK, r_callK, r_call, r_res0, r_resN, r_resS, r_tmpK, r_tmp, r_frzN, r_frz0, r_frz1, r_at0, r_at1, r_at2, r_at3, r_frK, r_atF0, r_atF1, r_atF2, r_atF3, r_atF4, r_ixTup, r_ixRo, r_ixLst, r_ixStr, r_ixvF, r_ixvB, r_ixvK, r_ixV, r_isBx0, r_isBxS, r_mtK3, r_mtK2, r_mtK, r_mt, r_append, r_reverse, r_pop, r_slK3, r_slK2, r_slK, r_sl, r_oNone, r_osK, r_oSome, r_slLst, r_slRo, r_slTup, r_slStr, r_sqK2, r_sqK, r_iSeq, r_tqK2, r_tqK, r_iTup, r_rg1K, r_iRange1, r_rg2K, r_iRange2, r_forK, r_for, r_bodyK, r_cpEnd, r_cpK, r_comp, r_wipe0, r_wipeS, r_yes, r_cmK3, r_cmK2, r_cmK, r_cmN, r_compC, r_compN, r_endN, r_endR, r_ends, r_outOk0, r_outOkS, r_addI, r_addS, r_addL, r_addT, r_iaddI, r_iaddS, r_sub, r_mulI, r_mod, r_fdiv, r_pow, r_cmpI, r_eqI, r_eqS, r_eqB, r_eqT, r_eqL, r_neI, r_neS, r_neB, r_neT, r_neL, r_isN, r_notN, r_inT, r_inR, r_inL, r_inS, r_notIn, r_c1K, r_con1, r_con2, r_con1F, r_lenL, r_lenT, r_lenR, r_lenS, r_isi1, r_isi2, r_listL, r_listR, r_listT, r_tupleT, r_tupleL, r_intI, r_intB, r_absI, r_bools, r_ints, r_toD, r_toDb, r_toDsN, r_toDsC, r_toDsF, List.getElem?_cons_zero, List.getElem?_cons_succ, List.getElem?_nil, List.set_cons_zero, List.set_cons_succ, List.map_cons, List.map_nil, List.cons_append, List.nil_append, List.append_nil, List.length_cons, List.length_nil, List.length_map, List.length_append, List.replicate_succ, List.replicate_zero, List.all_cons, List.all_nil, List.any_cons, List.any_nil, List.drop_succ_cons, List.drop_zero, List.take_succ_cons, List.take_zero, List.reverse_cons, List.reverse_nil, Option.some.injEq, Option.isSome_some, Option.isSome_none, Option.getD_some, Option.getD_none, Option.map_some, Option.map_none, Option.bind_some, L.fr.injEq, D.bl.injEq, D.int.injEq, D.str.injEq, D.ty.injEq, exists_eq_left, exists_eq_left', exists_eq_right, true_and, and_true, false_and, and_false, false_or, or_false, true_or, or_true, reduceIte, if_true, if_false, Bool.not_true, Bool.not_false, Bool.true_and, Bool.and_true, Bool.false_and, Bool.and_false, Bool.or_true, Bool.true_or, Bool.or_false, Bool.false_or, Bool.false_eq_true, Bool.true_eq_false, Bool.not_eq_true, decide_eq_true_eq, decide_eq_false_iff_not, decide_true, decide_false, Bool.not_eq_eq_eq_not, List.mem_cons, List.not_mem_nil, ne_eq, not_true_eq_false, not_false_eq_true, reduceCtorEq, Nat.sub_zero, Nat.add_zero, Nat.zero_add, entry, entryL, outs, slotL, knownTy, isB, D.tyn, D.isNon, D.flat, D.feq, D.scalar, sizeLine_eq, Int.cast_ofNat_Int, Nat.reduceAdd, Nat.reduceSub, Nat.reduceMul, Nat.reduceLeDiff, Nat.reduceEqDiff, Nat.reducePow, Nat.reduceLT, Int.reduceLE, Int.reduceLT, Int.reduceNe, Int.reduceEq, Int.reduceAdd, Int.reduceSub, Int.reduceMul, Int.reduceNeg, Int.reduceToNat, Int.reducePow, String.reduceEq, String.reduceBEq, String.reduceBNe, Int.reduceFMod, Int.reduceFDiv, Int.reduceNegSucc, Int.reduceAbs, beq_self_eq_true, e0]
      refine atK_get (d := ds[i]) (by simp [hi]) (by omega) ?_
      simp (maxSteps := 4000000) only [r_ofStr, r_ofStrB, r_consN, r_consK, r_set0, r_setS, r_isSl0, r_isSlS, r_take0, r_takeS, r_dTake, r_peek0, r_peekS, r_dVar0, r_dVarS, r_seqK, r_seq, r_next, r_exprK, r_expr, r_ret, r_retN, r_ifK, r_if, r_dsSet, r_gName, r_asgK, r_asg, r_gTup, r_gsK, r_gsCons, r_gsNil, r_gStar, r_put0, r_put1, r_put2, r_put3, r_put4, r_boxK, r_gIx, r_gix0, r_gixS, r_setK2, r_parK, r_par, r_augK3, r_augK2, r_augK, r_aug, r_dC, r_opK3, r_opK2, r_opK, r_op, r_bK, r_dB, r_chK4, r_chK2, r_chK1, r_chain, r_andK, r_and, r_orK, r_or, r_notK, r_not, r_andVK, r_andV, r_orVK, r_orV, r_notVK, r_notV, r_difK, r_dIf, r_negK, r_neg, r_aNil, r_acK2, r_acK, r_aCons, r_aoK, r_aOwn, r_borK2, r_borK, r_aBor, r_lstK, r_lst, r_tupK, r_tup, r_retK, r_callK, r_call, r_res0, r_resN, r_resS, r_tmpK, r_tmp, r_frzN, r_frz0, r_frz1, r_at0, r_at1, r_at2, r_at3, r_frK, r_atF0, r_atF1, r_atF2, r_atF3, r_atF4, r_ixTup, r_ixRo, r_ixLst, r_ixStr, r_ixvF, r_ixvB, r_ixvK, r_ixV, r_isBx0, r_isBxS, r_mtK3, r_mtK2, r_mtK, r_mt, r_append, r_reverse, r_pop, r_slK3, r_slK2, r_slK, r_sl, r_oNone, r_osK, r_oSome, r_slLst, r_slRo, r_slTup, r_slStr, r_sqK2, r_sqK, r_iSeq, r_tqK2, r_tqK, r_iTup, r_rg1K, r_iRange1, r_rg2K, r_iRange2, r_forK, r_for, r_bodyK, r_cpEnd, r_cpK, r_comp, r_wipe0, r_wipeS, r_yes, r_cmK3, r_cmK2, r_cmK, r_cmN, r_compC, r_compN, r_endN, r_endR, r_ends, r_outOk0, r_outOkS, r_addI, r_addS, r_addL, r_addT, r_iaddI, r_iaddS, r_sub, r_mulI, r_mod, r_fdiv, r_pow, r_cmpI, r_eqI, r_eqS, r_eqB, r_eqT, r_eqL, r_neI, r_neS, r_neB, r_neT, r_neL, r_isN, r_notN, r_inT, r_inR, r_inL, r_inS, r_notIn, r_c1K, r_con1, r_con2, r_con1F, r_lenL, r_lenT, r_lenR, r_lenS, r_isi1, r_isi2, r_listL, r_listR, r_listT, r_tupleT, r_tupleL, r_intI, r_intB, r_absI, r_bools, r_ints, r_toD, r_toDb, r_toDsN, r_toDsC, r_toDsF, List.getElem?_cons_zero, List.getElem?_cons_succ, List.getElem?_nil, List.set_cons_zero, List.set_cons_succ, List.map_cons, List.map_nil, List.cons_append, List.nil_append, List.append_nil, List.length_cons, List.length_nil, List.length_map, List.length_append, List.replicate_succ, List.replicate_zero, List.all_cons, List.all_nil, List.any_cons, List.any_nil, List.drop_succ_cons, List.drop_zero, List.take_succ_cons, List.take_zero, List.reverse_cons, List.reverse_nil, Option.some.injEq, Option.isSome_some, Option.isSome_none, Option.getD_some, Option.getD_none, Option.map_some, Option.map_none, Option.bind_some, L.fr.injEq, D.bl.injEq, D.int.injEq, D.str.injEq, D.ty.injEq, exists_eq_left, exists_eq_left', exists_eq_right, true_and, and_true, false_and, and_false, false_or, or_false, true_or, or_true, reduceIte, if_true, if_false, Bool.not_true, Bool.not_false, Bool.true_and, Bool.and_true, Bool.false_and, Bool.and_false, Bool.or_true, Bool.true_or, Bool.or_false, Bool.false_or, Bool.false_eq_true, Bool.true_eq_false, Bool.not_eq_true, decide_eq_true_eq, decide_eq_false_iff_not, decide_true, decide_false, Bool.not_eq_eq_eq_not, List.mem_cons, List.not_mem_nil, ne_eq, not_true_eq_false, not_false_eq_true, reduceCtorEq, Nat.sub_zero, Nat.add_zero, Nat.zero_add, entry, entryL, outs, slotL, knownTy, isB, D.tyn, D.isNon, D.flat, D.feq, D.scalar, sizeLine_eq, Int.cast_ofNat_Int, Nat.reduceAdd, Nat.reduceSub, Nat.reduceMul, Nat.reduceLeDiff, Nat.reduceEqDiff, Nat.reducePow, Nat.reduceLT, Int.reduceLE, Int.reduceLT, Int.reduceNe, Int.reduceEq, Int.reduceAdd, Int.reduceSub, Int.reduceMul, Int.reduceNeg, Int.reduceToNat, Int.reducePow, String.reduceEq, String.reduceBEq, String.reduceBNe, Int.reduceFMod, Int.reduceFDiv, Int.reduceNegSucc, Int.reduceAbs, beq_self_eq_true]
      refine ⟨_, hd.2 _ (List.getElem_mem hi), rfl, fun _ _ => ?_⟩
      simp (maxSteps := 4000000) only [r_ofStr, r_ofStrB, r_consN, r_consK, r_set0, r_setS, r_isSl0, r_isSlS, r_take0, r_takeS, r_dTake, r_peek0, r_peekS, r_dVar0, r_dVarS, r_seqK, r_seq, r_next, r_exprK, r_expr, r_ret, r_retN, r_ifK, r_if, r_dsSet, r_gName, r_asgK, r_asg, r_gTup, r_gsK, r_gsCons, r_gsNil, r_gStar, r_put0, r_put1, r_put2, r_put3, r_put4, r_boxK, r_gIx, r_gix0, r_gixS, r_setK2, r_parK, r_par, r_augK3, r_augK2, r_augK, r_aug, r_dC, r_opK3, r_opK2, r_opK, r_op, r_bK, r_dB, r_chK4, r_chK2, r_chK1, r_chain, r_andK, r_and, r_orK, r_or, r_notK, r_not, r_andVK, r_andV, r_orVK, r_orV, r_notVK, r_notV, r_difK, r_dIf, r_negK, r_neg, r_aNil, r_acK2, r_acK, r_aCons, r_aoK, r_aOwn, r_borK2, r_borK, r_aBor, r_lstK, r_lst, r_tupK, r_tup, r_retK, r_callK, r_call, r_res0, r_resN, r_resS, r_tmpK, r_tmp, r_frzN, r_frz0, r_frz1, r_at0, r_at1, r_at2, r_at3, r_frK, r_atF0, r_atF1, r_atF2, r_atF3, r_atF4, r_ixTup, r_ixRo, r_ixLst, r_ixStr, r_ixvF, r_ixvB, r_ixvK, r_ixV, r_isBx0, r_isBxS, r_mtK3, r_mtK2, r_mtK, r_mt, r_append, r_reverse, r_pop, r_slK3, r_slK2, r_slK, r_sl, r_oNone, r_osK, r_oSome, r_slLst, r_slRo, r_slTup, r_slStr, r_sqK2, r_sqK, r_iSeq, r_tqK2, r_tqK, r_iTup, r_rg1K, r_iRange1, r_rg2K, r_iRange2, r_forK, r_for, r_bodyK, r_cpEnd, r_cpK, r_comp, r_wipe0, r_wipeS, r_yes, r_cmK3, r_cmK2, r_cmK, r_cmN, r_compC, r_compN, r_endN, r_endR, r_ends, r_outOk0, r_outOkS, r_addI, r_addS, r_addL, r_addT, r_iaddI, r_iaddS, r_sub, r_mulI, r_mod, r_fdiv, r_pow, r_cmpI, r_eqI, r_eqS, r_eqB, r_eqT, r_eqL, r_neI, r_neS, r_neB, r_neT, r_neL, r_isN, r_notN, r_inT, r_inR, r_inL, r_inS, r_notIn, r_c1K, r_con1, r_con2, r_con1F, r_lenL, r_lenT, r_lenR, r_lenS, r_isi1, r_isi2, r_listL, r_listR, r_listT, r_tupleT, r_tupleL, r_intI, r_intB, r_absI, r_bools, r_ints, r_toD, r_toDb, r_toDsN, r_toDsC, r_toDsF, List.getElem?_cons_zero, List.getElem?_cons_succ, List.getElem?_nil, List.set_cons_zero, List.set_cons_succ, List.map_cons, List.map_nil, List.cons_append, List.nil_append, List.append_nil, List.length_cons, List.length_nil, List.length_map, List.length_append, List.replicate_succ, List.replicate_zero, List.all_cons, List.all_nil, List.any_cons, List.any_nil, List.drop_succ_cons, List.drop_zero, List.take_succ_cons, List.take_zero, List.reverse_cons, List.reverse_nil, Option.some.injEq, Option.isSome_some, Option.isSome_none, Option.getD_some, Option.getD_none, Option.map_some, Option.map_none, Option.bind_some, L.fr.injEq, D.bl.injEq, D.int.injEq, D.str.injEq, D.ty.injEq, exists_eq_left, exists_eq_left', exists_eq_right, true_and, and_true, false_and, and_false, false_or, or_false, true_or, or_true, reduceIte, if_true, if_false, Bool.not_true, Bool.not_false, Bool.true_and, Bool.and_true, Bool.false_and, Bool.and_false, Bool.or_true, Bool.true_or, Bool.or_false, Bool.false_or, Bool.false_eq_true, Bool.true_eq_false, Bool.not_eq_true, decide_eq_true_eq, decide_eq_false_iff_not, decide_true, decide_false, Bool.not_eq_eq_eq_not, List.mem_cons, List.not_mem_nil, ne_eq, not_true_eq_false, not_false_eq_true, reduceCtorEq, Nat.sub_zero, Nat.add_zero, Nat.zero_add, entry, entryL, outs, slotL, knownTy, isB, D.tyn, D.isNon, D.flat, D.feq, D.scalar, sizeLine_eq, Int.cast_ofNat_Int, Nat.reduceAdd, Nat.reduceSub, Nat.reduceMul, Nat.reduceLeDiff, Nat.reduceEqDiff, Nat.reducePow, Nat.reduceLT, Int.reduceLE, Int.reduceLT, Int.reduceNe, Int.reduceEq, Int.reduceAdd, Int.reduceSub, Int.reduceMul, Int.reduceNeg, Int.reduceToNat, Int.reducePow, String.reduceEq, String.reduceBEq, String.reduceBNe, Int.reduceFMod, Int.reduceFDiv, Int.reduceNegSucc, Int.reduceAbs, beq_self_eq_true]
      refine ⟨by rw [List.length_replicate]; omega, hM _ _ ⟨by rw [List.replicate_succ'], rfl⟩⟩
    · rintro acc env ⟨rfl, rfl⟩
      rw [rngD_len]
      have e : ∀ n : Nat, L.toDs (List.replicate n (.fr (.bl true))) = (List.replicate n true).map D.bl := fun n => by
        rw [toDs_map]; simp [L.toD]
      simp (maxSteps := 4000000) only [r_ofStr, r_ofStrB, r_consN, r_consK, r_set0, r_setS, r_isSl0, r_isSlS, r_take0, r_takeS, r_dTake, r_peek0, r_peekS, r_dVar0, r_dVarS, r_seqK, r_seq, r_next, r_exprK, r_expr, r_ret, r_retN, r_ifK, r_if, r_dsSet, r_gName, r_asgK, r_asg, r_gTup, r_gsK, r_gsCons, r_gsNil, r_gStar, r_put0, r_put1, r_put2, r_put3, r_put4, r_boxK, r_gIx, r_gix0, r_gixS, r_setK2, r_parK, r_par, r_augK3, r_augK2, r_augK, r_aug, r_dC, r_opK3, r_opK2, r_opK, r_op, r_bK, r_dB, r_chK4, r_chK2, r_chK1, r_chain, r_andK, r_and, r_orK, r_or, r_notK, r_not, r_andVK, r_andV, r_orVK, r_orV, r_notVK, r_notV, r_difK, r_dIf, r_negK, r_neg, r_aNil, r_acK2, r_acK, r_aCons, r_aoK, r_aOwn, r_borK2, r_borK, r_aBor, r_lstK, r_lst, r_tupK, r_tup, r_retK, r_callK, r_call, r_res0, r_resN, r_resS, r_tmpK, r_tmp, r_frzN, r_frz0, r_frz1, r_at0, r_at1, r_at2, r_at3, r_frK, r_atF0, r_atF1, r_atF2, r_atF3, r_atF4, r_ixTup, r_ixRo, r_ixLst, r_ixStr, r_ixvF, r_ixvB, r_ixvK, r_ixV, r_isBx0, r_isBxS, r_mtK3, r_mtK2, r_mtK, r_mt, r_append, r_reverse, r_pop, r_slK3, r_slK2, r_slK, r_sl, r_oNone, r_osK, r_oSome, r_slLst, r_slRo, r_slTup, r_slStr, r_sqK2, r_sqK, r_iSeq, r_tqK2, r_tqK, r_iTup, r_rg1K, r_iRange1, r_rg2K, r_iRange2, r_forK, r_for, r_bodyK, r_cpEnd, r_cpK, r_comp, r_wipe0, r_wipeS, r_yes, r_cmK3, r_cmK2, r_cmK, r_cmN, r_compC, r_compN, r_endN, r_endR, r_ends, r_outOk0, r_outOkS, r_addI, r_addS, r_addL, r_addT, r_iaddI, r_iaddS, r_sub, r_mulI, r_mod, r_fdiv, r_pow, r_cmpI, r_eqI, r_eqS, r_eqB, r_eqT, r_eqL, r_neI, r_neS, r_neB, r_neT, r_neL, r_isN, r_notN, r_inT, r_inR, r_inL, r_inS, r_notIn, r_c1K, r_con1, r_con2, r_con1F, r_lenL, r_lenT, r_lenR, r_lenS, r_isi1, r_isi2, r_listL, r_listR, r_listT, r_tupleT, r_tupleL, r_intI, r_intB, r_absI, r_bools, r_ints, r_toD, r_toDb, r_toDsN, r_toDsC, r_toDsF, List.getElem?_cons_zero, List.getElem?_cons_succ, List.getElem?_nil, List.set_cons_zero, List.set_cons_succ, List.map_cons, List.map_nil, List.cons_append, List.nil_append, List.append_nil, List.length_cons, List.length_nil, List.length_map, List.length_append, List.replicate_succ, List.replicate_zero, List.all_cons, List.all_nil, List.any_cons, List.any_nil, List.drop_succ_cons, List.drop_zero, List.take_succ_cons, List.take_zero, List.reverse_cons, List.reverse_nil, Option.some.injEq, Option.isSome_some, Option.isSome_none, Option.getD_some, Option.getD_none, Option.map_some, Option.map_none, Option.bind_some, L.fr.injEq, D.bl.injEq, D.int.injEq, D.str.injEq, D.ty.injEq, exists_eq_left, exists_eq_left', exists_eq_right, true_and, and_true, false_and, and_false, false_or, or_false, true_or, or_true, reduceIte, if_true, if_false, Bool.not_true, Bool.not_false, Bool.true_and, Bool.and_true, Bool.false_and, Bool.and_false, Bool.or_true, Bool.true_or, Bool.or_false, Bool.false_or, Bool.false_eq_true, Bool.true_eq_false, Bool.not_eq_true, decide_eq_true_eq, decide_eq_false_iff_not, decide_true, decide_false, Bool.not_eq_eq_eq_not, List.mem_cons, List.not_mem_nil, ne_eq, not_true_eq_false, not_false_eq_true, reduceCtorEq, Nat.sub_zero, Nat.add_zero, Nat.zero_add, entry, entryL, outs, slotL, knownTy, isB, D.tyn, D.isNon, D.flat, D.feq, D.scalar, sizeLine_eq, Int.cast_ofNat_Int, Nat.reduceAdd, Nat.reduceSub, Nat.reduceMul, Nat.reduceLeDiff, Nat.reduceEqDiff, Nat.reducePow, Nat.reduceLT, Int.reduceLE, Int.reduceLT, Int.reduceNe, Int.reduceEq, Int.reduceAdd, Int.reduceSub, Int.reduceMul, Int.reduceNeg, Int.reduceToNat, Int.reducePow, String.reduceEq, String.reduceBEq, String.reduceBNe, Int.reduceFMod, Int.reduceFDiv, Int.reduceNegSucc, Int.reduceAbs, beq_self_eq_true, e]
      refine ⟨_, dBools_map _, ?_⟩
      have e2 : ∀ n : Nat, (List.replicate n true).all id = true := fun n => by simp
      simp (maxSteps := 4000000) only [r_ofStr, r_ofStrB, r_consN, r_consK, r_set0, r_setS, r_isSl0, r_isSlS, r_take0, r_takeS, r_dTake, r_peek0, r_peekS, r_dVar0, r_dVarS, r_seqK, r_seq, r_next, r_exprK, r_expr, r_ret, r_retN, r_ifK, r_if, r_dsSet, r_gName, r_asgK, r_asg, r_gTup, r_gsK, r_gsCons, r_gsNil, r_gStar, r_put0, r_put1, r_put2, r_put3, r_put4, r_boxK, r_gIx, r_gix0, r_gixS, r_setK2, r_parK, r_par, r_augK3, r_augK2, r_augK, r_aug, r_dC, r_opK3, r_opK2, r_opK, r_op, r_bK, r_dB, r_chK4, r_chK2, r_chK1, r_chain, r_andK, r_and, r_orK, r_or, r_notK, r_not, r_andVK, r_andV, r_orVK, r_orV, r_notVK, r_notV, r_difK, r_dIf, r_negK, r_neg, r_aNil, r_acK2, r_acK, r_aCons, r_aoK, r_aOwn, r_borK2, r_borK, r_aBor, r_lstK, r_lst, r_tupK, r_tup, r_retK, r_callK, r_call, r_res0, r_resN, r_resS, r_tmpK, r_tmp, r_frzN, r_frz0, r_frz1, r_at0, r_at1, r_at2, r_at3, r_frK, r_atF0, r_atF1, r_atF2, r_atF3, r_atF4, r_ixTup, r_ixRo, r_ixLst, r_ixStr, r_ixvF, r_ixvB, r_ixvK, r_ixV, r_isBx0, r_isBxS, r_mtK3, r_mtK2, r_mtK, r_mt, r_append, r_reverse, r_pop, r_slK3, r_slK2, r_slK, r_sl, r_oNone, r_osK, r_oSome, r_slLst, r_slRo, r_slTup, r_slStr, r_sqK2, r_sqK, r_iSeq, r_tqK2, r_tqK, r_iTup, r_rg1K, r_iRange1, r_rg2K, r_iRange2, r_forK, r_for, r_bodyK, r_cpEnd, r_cpK, r_comp, r_wipe0, r_wipeS, r_yes, r_cmK3, r_cmK2, r_cmK, r_cmN, r_compC, r_compN, r_endN, r_endR, r_ends, r_outOk0, r_outOkS, r_addI, r_addS, r_addL, r_addT, r_iaddI, r_iaddS, r_sub, r_mulI, r_mod, r_fdiv, r_pow, r_cmpI, r_eqI, r_eqS, r_eqB, r_eqT, r_eqL, r_neI, r_neS, r_neB, r_neT, r_neL, r_isN, r_notN, r_inT, r_inR, r_inL, r_inS, r_notIn, r_c1K, r_con1, r_con2, r_con1F, r_lenL, r_lenT, r_lenR, r_lenS, r_isi1, r_isi2, r_listL, r_listR, r_listT, r_tupleT, r_tupleL, r_intI, r_intB, r_absI, r_bools, r_ints, r_toD, r_toDb, r_toDsN, r_toDsC, r_toDsF, List.getElem?_cons_zero, List.getElem?_cons_succ, List.getElem?_nil, List.set_cons_zero, List.set_cons_succ, List.map_cons, List.map_nil, List.cons_append, List.nil_append, List.append_nil, List.length_cons, List.length_nil, List.length_map, List.length_append, List.replicate_succ, List.replicate_zero, List.all_cons, List.all_nil, List.any_cons, List.any_nil, List.drop_succ_cons, List.drop_zero, List.take_succ_cons, List.take_zero, List.reverse_cons, List.reverse_nil, Option.some.injEq, Option.isSome_some, Option.isSome_none, Option.getD_some, Option.getD_none, Option.map_some, Option.map_none, Option.bind_some, L.fr.injEq, D.bl.injEq, D.int.injEq, D.str.injEq, D.ty.injEq, exists_eq_left, exists_eq_left', exists_eq_right, true_and, and_true, false_and, and_false, false_or, or_false, true_or, or_true, reduceIte, if_true, if_false, Bool.not_true, Bool.not_false, Bool.true_and, Bool.and_true, Bool.false_and, Bool.and_false, Bool.or_true, Bool.true_or, Bool.or_false, Bool.false_or, Bool.false_eq_true, Bool.true_eq_false, Bool.not_eq_true, decide_eq_true_eq, decide_eq_false_iff_not, decide_true, decide_false, Bool.not_eq_eq_eq_not, List.mem_cons, List.not_mem_nil, ne_eq, not_true_eq_false, not_false_eq_true, reduceCtorEq, Nat.sub_zero, Nat.add_zero, Nat.zero_add, entry, entryL, outs, slotL, knownTy, isB, D.tyn, D.isNon, D.flat, D.feq, D.scalar, sizeLine_eq, Int.cast_ofNat_Int, Nat.reduceAdd, Nat.reduceSub, Nat.reduceMul, Nat.reduceLeDiff, Nat.reduceEqDiff, Nat.reducePow, Nat.reduceLT, Int.reduceLE, Int.reduceLT, Int.reduceNe, Int.reduceEq, Int.reduceAdd, Int.reduceSub, Int.reduceMul, Int.reduceNeg, Int.reduceToNat, Int.reducePow, String.reduceEq, String.reduceBEq, String.reduceBNe, Int.reduceFMod, Int.reduceFDiv, Int.reduceNegSucc, Int.reduceAbs, beq_self_eq_true, e2]
      exact h _ _
  · exact hd.elim
/-! ### the law -/
theorem T.lk : ∀ t : T, t.h = 0 → Lk 2 t.d
  | .ident, _ => by simp [T.d, Lk]
  | .name x, _ => by simp [T.d, Lk]
  | .lead i j, _ => by simp [T.d, Lk]
  | .swap a b c d, _ => by simp [T.d, Lk]
  | .prod s t, h => by simp [T.h] at h
  | .conj s t, h => by simp [T.h] at h
  | .pow s k, h => by simp [T.h] at h
theorem T.lkc : ∀ t : T, ∀ d ∈ t.code, Lk 2 d
  | .ident => by simp [T.code, T.d, Lk]
  | .name x => by simp [T.code, T.d, Lk]
  | .lead i j => by simp [T.code, T.d, Lk]
  | .swap a b c d => by simp [T.code, T.d, Lk]
  | .prod s t => fun d hd => by
    simp only [T.code, List.mem_append, List.mem_cons, List.not_mem_nil, or_false] at hd
    rcases hd with (hd | hd) | rfl
    · exact s.lkc d hd
    · exact t.lkc d hd
    · simp [Lk]
  | .conj s t => fun d hd => by
    simp only [T.code, List.mem_append, List.mem_cons, List.not_mem_nil, or_false] at hd
    rcases hd with (hd | hd) | rfl
    · exact s.lkc d hd
    · exact t.lkc d hd
    · simp [Lk]
  | .pow s k => fun d hd => by
    simp only [T.code, List.mem_append, List.mem_cons, List.not_mem_nil, or_false] at hd
    rcases hd with hd | rfl
    · exact s.lkc d hd
    · simp [Lk]
theorem T.code_h (t : T) (h : t.h ≤ 4) : t.code.length ≤ 1000 := by
  have h1 := t.code_len
  have h2 : 2 ^ (t.h + 1) ≤ 2 ^ 5 := Nat.pow_le_pow_right (by decide) (by omega)
  omega
theorem v_law : ∀ ls kk kx, cTrue ls kk kx → t_law cBag cNames cPull (cTree 4) (cCode 4) (cCode 4) (cLike 3) (endsOf [] ls kk) (entry [] 6 ls) := by
  rintro _ kk kx ⟨ns, rfl, hl, h⟩
  simp (maxSteps := 4000000) only [r_ofStr, r_ofStrB, r_consN, r_consK, r_set0, r_setS, r_isSl0, r_isSlS, r_take0, r_takeS, r_dTake, r_peek0, r_peekS, r_dVar0, r_dVarS, r_seqK, r_seq, r_next, r_exprK, r_expr, r_ret, r_retN, r_ifK, r_if, r_dsSet, r_gName, r_asgK, r_asg, r_gTup, r_gsK, r_gsCons, r_gsNil, r_gStar, r_put0, r_put1, r_put2, r_put3, r_put4, r_boxK, r_gIx, r_gix0, r_gixS, r_setK2, r_parK, r_par, r_augK3, r_augK2, r_augK, r_aug, r_dC, r_opK3, r_opK2, r_opK, r_op, r_bK, r_dB, r_chK4, r_chK2, r_chK1, r_chain, r_andK, r_and, r_orK, r_or, r_notK, r_not, r_andVK, r_andV, r_orVK, r_orV, r_notVK, r_notV, r_difK, r_dIf, r_negK, r_neg, r_aNil, r_acK2, r_acK, r_aCons, r_aoK, r_aOwn, r_borK2, r_borK, r_aBor, r_lstK, r_lst, r_tupK, r_tup, r_retK, r_callK, r_call, r_res0, r_resN, r_resS, r_tmpK, r_tmp, r_frzN, r_frz0, r_frz1, r_at0, r_at1, r_at2, r_at3, r_frK, r_atF0, r_atF1, r_atF2, r_atF3, r_atF4, r_ixTup, r_ixRo, r_ixLst, r_ixStr, r_ixvF, r_ixvB, r_ixvK, r_ixV, r_isBx0, r_isBxS, r_mtK3, r_mtK2, r_mtK, r_mt, r_append, r_reverse, r_pop, r_slK3, r_slK2, r_slK, r_sl, r_oNone, r_osK, r_oSome, r_slLst, r_slRo, r_slTup, r_slStr, r_sqK2, r_sqK, r_iSeq, r_tqK2, r_tqK, r_iTup, r_rg1K, r_iRange1, r_rg2K, r_iRange2, r_forK, r_for, r_bodyK, r_cpEnd, r_cpK, r_comp, r_wipe0, r_wipeS, r_yes, r_cmK3, r_cmK2, r_cmK, r_cmN, r_compC, r_compN, r_endN, r_endR, r_ends, r_outOk0, r_outOkS, r_addI, r_addS, r_addL, r_addT, r_iaddI, r_iaddS, r_sub, r_mulI, r_mod, r_fdiv, r_pow, r_cmpI, r_eqI, r_eqS, r_eqB, r_eqT, r_eqL, r_neI, r_neS, r_neB, r_neT, r_neL, r_isN, r_notN, r_inT, r_inR, r_inL, r_inS, r_notIn, r_c1K, r_con1, r_con2, r_con1F, r_lenL, r_lenT, r_lenR, r_lenS, r_isi1, r_isi2, r_listL, r_listR, r_listT, r_tupleT, r_tupleL, r_intI, r_intB, r_absI, r_bools, r_ints, r_toD, r_toDb, r_toDsN, r_toDsC, r_toDsF, List.getElem?_cons_zero, List.getElem?_cons_succ, List.getElem?_nil, List.set_cons_zero, List.set_cons_succ, List.map_cons, List.map_nil, List.cons_append, List.nil_append, List.append_nil, List.length_cons, List.length_nil, List.length_map, List.length_append, List.replicate_succ, List.replicate_zero, List.all_cons, List.all_nil, List.any_cons, List.any_nil, List.drop_succ_cons, List.drop_zero, List.take_succ_cons, List.take_zero, List.reverse_cons, List.reverse_nil, Option.some.injEq, Option.isSome_some, Option.isSome_none, Option.getD_some, Option.getD_none, Option.map_some, Option.map_none, Option.bind_some, L.fr.injEq, D.bl.injEq, D.int.injEq, D.str.injEq, D.ty.injEq, exists_eq_left, exists_eq_left', exists_eq_right, true_and, and_true, false_and, and_false, false_or, or_false, true_or, or_true, reduceIte, if_true, if_false, Bool.not_true, Bool.not_false, Bool.true_and, Bool.and_true, Bool.false_and, Bool.and_false, Bool.or_true, Bool.true_or, Bool.or_false, Bool.false_or, Bool.false_eq_true, Bool.true_eq_false, Bool.not_eq_true, decide_eq_true_eq, decide_eq_false_iff_not, decide_true, decide_false, Bool.not_eq_eq_eq_not, List.mem_cons, List.not_mem_nil, ne_eq, not_true_eq_false, not_false_eq_true, reduceCtorEq, Nat.sub_zero, Nat.add_zero, Nat.zero_add, entry, entryL, outs, slotL, knownTy, isB, D.tyn, D.isNon, D.flat, D.feq, D.scalar, sizeLine_eq, Int.cast_ofNat_Int, Nat.reduceAdd, Nat.reduceSub, Nat.reduceMul, Nat.reduceLeDiff, Nat.reduceEqDiff, Nat.reducePow, Nat.reduceLT, Int.reduceLE, Int.reduceLT, Int.reduceNe, Int.reduceEq, Int.reduceAdd, Int.reduceSub, Int.reduceMul, Int.reduceNeg, Int.reduceToNat, Int.reducePow, String.reduceEq, String.reduceBEq, String.reduceBNe, Int.reduceFMod, Int.reduceFDiv, Int.reduceNegSucc, Int.reduceAbs, beq_self_eq_true, t_law]
  refine ⟨ns, rfl, hl, fun b _ hb => ?_⟩
  simp (maxSteps := 4000000) only [r_ofStr, r_ofStrB, r_consN, r_consK, r_set0, r_setS, r_isSl0, r_isSlS, r_take0, r_takeS, r_dTake, r_peek0, r_peekS, r_dVar0, r_dVarS, r_seqK, r_seq, r_next, r_exprK, r_expr, r_ret, r_retN, r_ifK, r_if, r_dsSet, r_gName, r_asgK, r_asg, r_gTup, r_gsK, r_gsCons, r_gsNil, r_gStar, r_put0, r_put1, r_put2, r_put3, r_put4, r_boxK, r_gIx, r_gix0, r_gixS, r_setK2, r_parK, r_par, r_augK3, r_augK2, r_augK, r_aug, r_dC, r_opK3, r_opK2, r_opK, r_op, r_bK, r_dB, r_chK4, r_chK2, r_chK1, r_chain, r_andK, r_and, r_orK, r_or, r_notK, r_not, r_andVK, r_andV, r_orVK, r_orV, r_notVK, r_notV, r_difK, r_dIf, r_negK, r_neg, r_aNil, r_acK2, r_acK, r_aCons, r_aoK, r_aOwn, r_borK2, r_borK, r_aBor, r_lstK, r_lst, r_tupK, r_tup, r_retK, r_callK, r_call, r_res0, r_resN, r_resS, r_tmpK, r_tmp, r_frzN, r_frz0, r_frz1, r_at0, r_at1, r_at2, r_at3, r_frK, r_atF0, r_atF1, r_atF2, r_atF3, r_atF4, r_ixTup, r_ixRo, r_ixLst, r_ixStr, r_ixvF, r_ixvB, r_ixvK, r_ixV, r_isBx0, r_isBxS, r_mtK3, r_mtK2, r_mtK, r_mt, r_append, r_reverse, r_pop, r_slK3, r_slK2, r_slK, r_sl, r_oNone, r_osK, r_oSome, r_slLst, r_slRo, r_slTup, r_slStr, r_sqK2, r_sqK, r_iSeq, r_tqK2, r_tqK, r_iTup, r_rg1K, r_iRange1, r_rg2K, r_iRange2, r_forK, r_for, r_bodyK, r_cpEnd, r_cpK, r_comp, r_wipe0, r_wipeS, r_yes, r_cmK3, r_cmK2, r_cmK, r_cmN, r_compC, r_compN, r_endN, r_endR, r_ends, r_outOk0, r_outOkS, r_addI, r_addS, r_addL, r_addT, r_iaddI, r_iaddS, r_sub, r_mulI, r_mod, r_fdiv, r_pow, r_cmpI, r_eqI, r_eqS, r_eqB, r_eqT, r_eqL, r_neI, r_neS, r_neB, r_neT, r_neL, r_isN, r_notN, r_inT, r_inR, r_inL, r_inS, r_notIn, r_c1K, r_con1, r_con2, r_con1F, r_lenL, r_lenT, r_lenR, r_lenS, r_isi1, r_isi2, r_listL, r_listR, r_listT, r_tupleT, r_tupleL, r_intI, r_intB, r_absI, r_bools, r_ints, r_toD, r_toDb, r_toDsN, r_toDsC, r_toDsF, List.getElem?_cons_zero, List.getElem?_cons_succ, List.getElem?_nil, List.set_cons_zero, List.set_cons_succ, List.map_cons, List.map_nil, List.cons_append, List.nil_append, List.append_nil, List.length_cons, List.length_nil, List.length_map, List.length_append, List.replicate_succ, List.replicate_zero, List.all_cons, List.all_nil, List.any_cons, List.any_nil, List.drop_succ_cons, List.drop_zero, List.take_succ_cons, List.take_zero, List.reverse_cons, List.reverse_nil, Option.some.injEq, Option.isSome_some, Option.isSome_none, Option.getD_some, Option.getD_none, Option.map_some, Option.map_none, Option.bind_some, L.fr.injEq, D.bl.injEq, D.int.injEq, D.str.injEq, D.ty.injEq, exists_eq_left, exists_eq_left', exists_eq_right, true_and, and_true, false_and, and_false, false_or, or_false, true_or, or_true, reduceIte, if_true, if_false, Bool.not_true, Bool.not_false, Bool.true_and, Bool.and_true, Bool.false_and, Bool.and_false, Bool.or_true, Bool.true_or, Bool.or_false, Bool.false_or, Bool.false_eq_true, Bool.true_eq_false, Bool.not_eq_true, decide_eq_true_eq, decide_eq_false_iff_not, decide_true, decide_false, Bool.not_eq_eq_eq_not, List.mem_cons, List.not_mem_nil, ne_eq, not_true_eq_false, not_false_eq_true, reduceCtorEq, Nat.sub_zero, Nat.add_zero, Nat.zero_add, entry, entryL, outs, slotL, knownTy, isB, D.tyn, D.isNon, D.flat, D.feq, D.scalar, sizeLine_eq, Int.cast_ofNat_Int, Nat.reduceAdd, Nat.reduceSub, Nat.reduceMul, Nat.reduceLeDiff, Nat.reduceEqDiff, Nat.reducePow, Nat.reduceLT, Int.reduceLE, Int.reduceLT, Int.reduceNe, Int.reduceEq, Int.reduceAdd, Int.reduceSub, Int.reduceMul, Int.reduceNeg, Int.reduceToNat, Int.reducePow, String.reduceEq, String.reduceBEq, String.reduceBNe, Int.reduceFMod, Int.reduceFDiv, Int.reduceNegSucc, Int.reduceAbs, beq_self_eq_true]
  refine forD_ix' (I := fun _ e => ∃ (b : L) (o2 o3 o4 o5 : Option L), IsBag b ∧ e = [some (.fr (.ro (ns.map D.int))), some b, o2, o3, o4, o5]) ⟨_, _, _, _, _, hb, rfl⟩ ?_ ?_
  · rintro i d env hd ⟨b, o2, o3, o4, o5, hb, rfl⟩ N hN
    obtain ⟨hi, rfl⟩ := rngD_get hd
    simp (maxSteps := 4000000) only [r_ofStr, r_ofStrB, r_consN, r_consK, r_set0, r_setS, r_isSl0, r_isSlS, r_take0, r_takeS, r_dTake, r_peek0, r_peekS, r_dVar0, r_dVarS, r_seqK, r_seq, r_next, r_exprK, r_expr, r_ret, r_retN, r_ifK, r_if, r_dsSet, r_gName, r_asgK, r_asg, r_gTup, r_gsK, r_gsCons, r_gsNil, r_gStar, r_put0, r_put1, r_put2, r_put3, r_put4, r_boxK, r_gIx, r_gix0, r_gixS, r_setK2, r_parK, r_par, r_augK3, r_augK2, r_augK, r_aug, r_dC, r_opK3, r_opK2, r_opK, r_op, r_bK, r_dB, r_chK4, r_chK2, r_chK1, r_chain, r_andK, r_and, r_orK, r_or, r_notK, r_not, r_andVK, r_andV, r_orVK, r_orV, r_notVK, r_notV, r_difK, r_dIf, r_negK, r_neg, r_aNil, r_acK2, r_acK, r_aCons, r_aoK, r_aOwn, r_borK2, r_borK, r_aBor, r_lstK, r_lst, r_tupK, r_tup, r_retK, r_callK, r_call, r_res0, r_resN, r_resS, r_tmpK, r_tmp, r_frzN, r_frz0, r_frz1, r_at0, r_at1, r_at2, r_at3, r_frK, r_atF0, r_atF1, r_atF2, r_atF3, r_atF4, r_ixTup, r_ixRo, r_ixLst, r_ixStr, r_ixvF, r_ixvB, r_ixvK, r_ixV, r_isBx0, r_isBxS, r_mtK3, r_mtK2, r_mtK, r_mt, r_append, r_reverse, r_pop, r_slK3, r_slK2, r_slK, r_sl, r_oNone, r_osK, r_oSome, r_slLst, r_slRo, r_slTup, r_slStr, r_sqK2, r_sqK, r_iSeq, r_tqK2, r_tqK, r_iTup, r_rg1K, r_iRange1, r_rg2K, r_iRange2, r_forK, r_for, r_bodyK, r_cpEnd, r_cpK, r_comp, r_wipe0, r_wipeS, r_yes, r_cmK3, r_cmK2, r_cmK, r_cmN, r_compC, r_compN, r_endN, r_endR, r_ends, r_outOk0, r_outOkS, r_addI, r_addS, r_addL, r_addT, r_iaddI, r_iaddS, r_sub, r_mulI, r_mod, r_fdiv, r_pow, r_cmpI, r_eqI, r_eqS, r_eqB, r_eqT, r_eqL, r_neI, r_neS, r_neB, r_neT, r_neL, r_isN, r_notN, r_inT, r_inR, r_inL, r_inS, r_notIn, r_c1K, r_con1, r_con2, r_con1F, r_lenL, r_lenT, r_lenR, r_lenS, r_isi1, r_isi2, r_listL, r_listR, r_listT, r_tupleT, r_tupleL, r_intI, r_intB, r_absI, r_bools, r_ints, r_toD, r_toDb, r_toDsN, r_toDsC, r_toDsF, List.getElem?_cons_zero, List.getElem?_cons_succ, List.getElem?_nil, List.set_cons_zero, List.set_cons_succ, List.map_cons, List.map_nil, List.cons_append, List.nil_append, List.append_nil, List.length_cons, List.length_nil, List.length_map, List.length_append, List.replicate_succ, List.replicate_zero, List.all_cons, List.all_nil, List.any_cons, List.any_nil, List.drop_succ_cons, List.drop_zero, List.take_succ_cons, List.take_zero, List.reverse_cons, List.reverse_nil, Option.some.injEq, Option.isSome_some, Option.isSome_none, Option.getD_some, Option.getD_none, Option.map_some, Option.map_none, Option.bind_some, L.fr.injEq, D.bl.injEq, D.int.injEq, D.str.injEq, D.ty.injEq, exists_eq_left, exists_eq_left', exists_eq_right, true_and, and_true, false_and, and_false, false_or, or_false, true_or, or_true, reduceIte, if_true, if_false, Bool.not_true, Bool.not_false, Bool.true_and, Bool.and_true, Bool.false_and, Bool.and_false, Bool.or_true, Bool.true_or, Bool.or_false, Bool.false_or, Bool.false_eq_true, Bool.true_eq_false, Bool.not_eq_true, decide_eq_true_eq, decide_eq_false_iff_not, decide_true, decide_false, Bool.not_eq_eq_eq_not, List.mem_cons, List.not_mem_nil, ne_eq, not_true_eq_false, not_false_eq_true, reduceCtorEq, Nat.sub_zero, Nat.add_zero, Nat.zero_add, entry, entryL, outs, slotL, knownTy, isB, D.tyn, D.isNon, D.flat, D.feq, D.scalar, sizeLine_eq, Int.cast_ofNat_Int, Nat.reduceAdd, Nat.reduceSub, Nat.reduceMul, Nat.reduceLeDiff, Nat.reduceEqDiff, Nat.reducePow, Nat.reduceLT, Int.reduceLE, Int.reduceLT, Int.reduceNe, Int.reduceEq, Int.reduceAdd, Int.reduceSub, Int.reduceMul, Int.reduceNeg, Int.reduceToNat, Int.reducePow, String.reduceEq, String.reduceBEq, String.reduceBNe, Int.reduceFMod, Int.reduceFDiv, Int.reduceNegSucc, Int.reduceAbs, beq_self_eq_true, t_law_b2, cPull, cNames, cTree]
    refine ⟨hb, fun r b1 _ hb1 r0 r1 => ⟨hb1, fun x y z b2 _ sx sy sz hb2 => ⟨hb2, by omega, ⟨x, y, z, rfl, sx, sy, sz⟩, fun t ht b3 _ _ _ hb3 => ?_⟩⟩⟩
    refine forD_ix' (I := fun _ e => ∃ (b : L) (o2 o4 o5 : Option L), IsBag b ∧ e = [some (.fr (.ro (ns.map D.int))), some b, o2, some (.fr t.d), o4, o5]) ⟨_, _, _, _, hb3, rfl⟩ ?_ ?_
    · rintro i d env hd ⟨b, o2, o4, o5, hb, rfl⟩ N hN
      obtain ⟨hi, rfl⟩ := rngD_get hd
      have hc := t.code_h ht
      simp (maxSteps := 4000000) only [r_ofStr, r_ofStrB, r_consN, r_consK, r_set0, r_setS, r_isSl0, r_isSlS, r_take0, r_takeS, r_dTake, r_peek0, r_peekS, r_dVar0, r_dVarS, r_seqK, r_seq, r_next, r_exprK, r_expr, r_ret, r_retN, r_ifK, r_if, r_dsSet, r_gName, r_asgK, r_asg, r_gTup, r_gsK, r_gsCons, r_gsNil, r_gStar, r_put0, r_put1, r_put2, r_put3, r_put4, r_boxK, r_gIx, r_gix0, r_gixS, r_setK2, r_parK, r_par, r_augK3, r_augK2, r_augK, r_aug, r_dC, r_opK3, r_opK2, r_opK, r_op, r_bK, r_dB, r_chK4, r_chK2, r_chK1, r_chain, r_andK, r_and, r_orK, r_or, r_notK, r_not, r_andVK, r_andV, r_orVK, r_orV, r_notVK, r_notV, r_difK, r_dIf, r_negK, r_neg, r_aNil, r_acK2, r_acK, r_aCons, r_aoK, r_aOwn, r_borK2, r_borK, r_aBor, r_lstK, r_lst, r_tupK, r_tup, r_retK, r_callK, r_call, r_res0, r_resN, r_resS, r_tmpK, r_tmp, r_frzN, r_frz0, r_frz1, r_at0, r_at1, r_at2, r_at3, r_frK, r_atF0, r_atF1, r_atF2, r_atF3, r_atF4, r_ixTup, r_ixRo, r_ixLst, r_ixStr, r_ixvF, r_ixvB, r_ixvK, r_ixV, r_isBx0, r_isBxS, r_mtK3, r_mtK2, r_mtK, r_mt, r_append, r_reverse, r_pop, r_slK3, r_slK2, r_slK, r_sl, r_oNone, r_osK, r_oSome, r_slLst, r_slRo, r_slTup, r_slStr, r_sqK2, r_sqK, r_iSeq, r_tqK2, r_tqK, r_iTup, r_rg1K, r_iRange1, r_rg2K, r_iRange2, r_forK, r_for, r_bodyK, r_cpEnd, r_cpK, r_comp, r_wipe0, r_wipeS, r_yes, r_cmK3, r_cmK2, r_cmK, r_cmN, r_compC, r_compN, r_endN, r_endR, r_ends, r_outOk0, r_outOkS, r_addI, r_addS, r_addL, r_addT, r_iaddI, r_iaddS, r_sub, r_mulI, r_mod, r_fdiv, r_pow, r_cmpI, r_eqI, r_eqS, r_eqB, r_eqT, r_eqL, r_neI, r_neS, r_neB, r_neT, r_neL, r_isN, r_notN, r_inT, r_inR, r_inL, r_inS, r_notIn, r_c1K, r_con1, r_con2, r_con1F, r_lenL, r_lenT, r_lenR, r_lenS, r_isi1, r_isi2, r_listL, r_listR, r_listT, r_tupleT, r_tupleL, r_intI, r_intB, r_absI, r_bools, r_ints, r_toD, r_toDb, r_toDsN, r_toDsC, r_toDsF, List.getElem?_cons_zero, List.getElem?_cons_succ, List.getElem?_nil, List.set_cons_zero, List.set_cons_succ, List.map_cons, List.map_nil, List.cons_append, List.nil_append, List.append_nil, List.length_cons, List.length_nil, List.length_map, List.length_append, List.replicate_succ, List.replicate_zero, List.all_cons, List.all_nil, List.any_cons, List.any_nil, List.drop_succ_cons, List.drop_zero, List.take_succ_cons, List.take_zero, List.reverse_cons, List.reverse_nil, Option.some.injEq, Option.isSome_some, Option.isSome_none, Option.getD_some, Option.getD_none, Option.map_some, Option.map_none, Option.bind_some, L.fr.injEq, D.bl.injEq, D.int.injEq, D.str.injEq, D.ty.injEq, exists_eq_left, exists_eq_left', exists_eq_right, true_and, and_true, false_and, and_false, false_or, or_false, true_or, or_true, reduceIte, if_true, if_false, Bool.not_true, Bool.not_false, Bool.true_and, Bool.and_true, Bool.false_and, Bool.and_false, Bool.or_true, Bool.true_or, Bool.or_false, Bool.false_or, Bool.false_eq_true, Bool.true_eq_false, Bool.not_eq_true, decide_eq_true_eq, decide_eq_false_iff_not, decide_true, decide_false, Bool.not_eq_eq_eq_not, List.mem_cons, List.not_mem_nil, ne_eq, not_true_eq_false, not_false_eq_true, reduceCtorEq, Nat.sub_zero, Nat.add_zero, Nat.zero_add, entry, entryL, outs, slotL, knownTy, isB, D.tyn, D.isNon, D.flat, D.feq, D.scalar, sizeLine_eq, Int.cast_ofNat_Int, Nat.reduceAdd, Nat.reduceSub, Nat.reduceMul, Nat.reduceLeDiff, Nat.reduceEqDiff, Nat.reducePow, Nat.reduceLT, Int.reduceLE, Int.reduceLT, Int.reduceNe, Int.reduceEq, Int.reduceAdd, Int.reduceSub, Int.reduceMul, Int.reduceNeg, Int.reduceToNat, Int.reducePow, String.reduceEq, String.reduceBEq, String.reduceBNe, Int.reduceFMod, Int.reduceFDiv, Int.reduceNegSucc, Int.reduceAbs, beq_self_eq_true, t_law_b1]
      refine ⟨t, rfl, ht, hc, fun _ => ?_⟩
      simp (maxSteps := 4000000) only [r_ofStr, r_ofStrB, r_consN, r_consK, r_set0, r_setS, r_isSl0, r_isSlS, r_take0, r_takeS, r_dTake, r_peek0, r_peekS, r_dVar0, r_dVarS, r_seqK, r_seq, r_next, r_exprK, r_expr, r_ret, r_retN, r_ifK, r_if, r_dsSet, r_gName, r_asgK, r_asg, r_gTup, r_gsK, r_gsCons, r_gsNil, r_gStar, r_put0, r_put1, r_put2, r_put3, r_put4, r_boxK, r_gIx, r_gix0, r_gixS, r_setK2, r_parK, r_par, r_augK3, r_augK2, r_augK, r_aug, r_dC, r_opK3, r_opK2, r_opK, r_op, r_bK, r_dB, r_chK4, r_chK2, r_chK1, r_chain, r_andK, r_and, r_orK, r_or, r_notK, r_not, r_andVK, r_andV, r_orVK, r_orV, r_notVK, r_notV, r_difK, r_dIf, r_negK, r_neg, r_aNil, r_acK2, r_acK, r_aCons, r_aoK, r_aOwn, r_borK2, r_borK, r_aBor, r_lstK, r_lst, r_tupK, r_tup, r_retK, r_callK, r_call, r_res0, r_resN, r_resS, r_tmpK, r_tmp, r_frzN, r_frz0, r_frz1, r_at0, r_at1, r_at2, r_at3, r_frK, r_atF0, r_atF1, r_atF2, r_atF3, r_atF4, r_ixTup, r_ixRo, r_ixLst, r_ixStr, r_ixvF, r_ixvB, r_ixvK, r_ixV, r_isBx0, r_isBxS, r_mtK3, r_mtK2, r_mtK, r_mt, r_append, r_reverse, r_pop, r_slK3, r_slK2, r_slK, r_sl, r_oNone, r_osK, r_oSome, r_slLst, r_slRo, r_slTup, r_slStr, r_sqK2, r_sqK, r_iSeq, r_tqK2, r_tqK, r_iTup, r_rg1K, r_iRange1, r_rg2K, r_iRange2, r_forK, r_for, r_bodyK, r_cpEnd, r_cpK, r_comp, r_wipe0, r_wipeS, r_yes, r_cmK3, r_cmK2, r_cmK, r_cmN, r_compC, r_compN, r_endN, r_endR, r_ends, r_outOk0, r_outOkS, r_addI, r_addS, r_addL, r_addT, r_iaddI, r_iaddS, r_sub, r_mulI, r_mod, r_fdiv, r_pow, r_cmpI, r_eqI, r_eqS, r_eqB, r_eqT, r_eqL, r_neI, r_neS, r_neB, r_neT, r_neL, r_isN, r_notN, r_inT, r_inR, r_inL, r_inS, r_notIn, r_c1K, r_con1, r_con2, r_con1F, r_lenL, r_lenT, r_lenR, r_lenS, r_isi1, r_isi2, r_listL, r_listR, r_listT, r_tupleT, r_tupleL, r_intI, r_intB, r_absI, r_bools, r_ints, r_toD, r_toDb, r_toDsN, r_toDsC, r_toDsF, List.getElem?_cons_zero, List.getElem?_cons_succ, List.getElem?_nil, List.set_cons_zero, List.set_cons_succ, List.map_cons, List.map_nil, List.cons_append, List.nil_append, List.append_nil, List.length_cons, List.length_nil, List.length_map, List.length_append, List.replicate_succ, List.replicate_zero, List.all_cons, List.all_nil, List.any_cons, List.any_nil, List.drop_succ_cons, List.drop_zero, List.take_succ_cons, List.take_zero, List.reverse_cons, List.reverse_nil, Option.some.injEq, Option.isSome_some, Option.isSome_none, Option.getD_some, Option.getD_none, Option.map_some, Option.map_none, Option.bind_some, L.fr.injEq, D.bl.injEq, D.int.injEq, D.str.injEq, D.ty.injEq, exists_eq_left, exists_eq_left', exists_eq_right, true_and, and_true, false_and, and_false, false_or, or_false, true_or, or_true, reduceIte, if_true, if_false, Bool.not_true, Bool.not_false, Bool.true_and, Bool.and_true, Bool.false_and, Bool.and_false, Bool.or_true, Bool.true_or, Bool.or_false, Bool.false_or, Bool.false_eq_true, Bool.true_eq_false, Bool.not_eq_true, decide_eq_true_eq, decide_eq_false_iff_not, decide_true, decide_false, Bool.not_eq_eq_eq_not, List.mem_cons, List.not_mem_nil, ne_eq, not_true_eq_false, not_false_eq_true, reduceCtorEq, Nat.sub_zero, Nat.add_zero, Nat.zero_add, entry, entryL, outs, slotL, knownTy, isB, D.tyn, D.isNon, D.flat, D.feq, D.scalar, sizeLine_eq, Int.cast_ofNat_Int, Nat.reduceAdd, Nat.reduceSub, Nat.reduceMul, Nat.reduceLeDiff, Nat.reduceEqDiff, Nat.reducePow, Nat.reduceLT, Int.reduceLE, Int.reduceLT, Int.reduceNe, Int.reduceEq, Int.reduceAdd, Int.reduceSub, Int.reduceMul, Int.reduceNeg, Int.reduceToNat, Int.reducePow, String.reduceEq, String.reduceBEq, String.reduceBNe, Int.reduceFMod, Int.reduceFDiv, Int.reduceNegSucc, Int.reduceAbs, beq_self_eq_true]
      refine ⟨t, rfl, ht, hc, fun _ => ?_⟩
      simp (maxSteps := 4000000) only [r_ofStr, r_ofStrB, r_consN, r_consK, r_set0, r_setS, r_isSl0, r_isSlS, r_take0, r_takeS, r_dTake, r_peek0, r_peekS, r_dVar0, r_dVarS, r_seqK, r_seq, r_next, r_exprK, r_expr, r_ret, r_retN, r_ifK, r_if, r_dsSet, r_gName, r_asgK, r_asg, r_gTup, r_gsK, r_gsCons, r_gsNil, r_gStar, r_put0, r_put1, r_put2, r_put3, r_put4, r_boxK, r_gIx, r_gix0, r_gixS, r_setK2, r_parK, r_par, r_augK3, r_augK2, r_augK, r_aug, r_dC, r_opK3, r_opK2, r_opK, r_op, r_bK, r_dB, r_chK4, r_chK2, r_chK1, r_chain, r_andK, r_and, r_orK, r_or, r_notK, r_not, r_andVK, r_andV, r_orVK, r_orV, r_notVK, r_notV, r_difK, r_dIf, r_negK, r_neg, r_aNil, r_acK2, r_acK, r_aCons, r_aoK, r_aOwn, r_borK2, r_borK, r_aBor, r_lstK, r_lst, r_tupK, r_tup, r_retK, r_callK, r_call, r_res0, r_resN, r_resS, r_tmpK, r_tmp, r_frzN, r_frz0, r_frz1, r_at0, r_at1, r_at2, r_at3, r_frK, r_atF0, r_atF1, r_atF2, r_atF3, r_atF4, r_ixTup, r_ixRo, r_ixLst, r_ixStr, r_ixvF, r_ixvB, r_ixvK, r_ixV, r_isBx0, r_isBxS, r_mtK3, r_mtK2, r_mtK, r_mt, r_append, r_reverse, r_pop, r_slK3, r_slK2, r_slK, r_sl, r_oNone, r_osK, r_oSome, r_slLst, r_slRo, r_slTup, r_slStr, r_sqK2, r_sqK, r_iSeq, r_tqK2, r_tqK, r_iTup, r_rg1K, r_iRange1, r_rg2K, r_iRange2, r_forK, r_for, r_bodyK, r_cpEnd, r_cpK, r_comp, r_wipe0, r_wipeS, r_yes, r_cmK3, r_cmK2, r_cmK, r_cmN, r_compC, r_compN, r_endN, r_endR, r_ends, r_outOk0, r_outOkS, r_addI, r_addS, r_addL, r_addT, r_iaddI, r_iaddS, r_sub, r_mulI, r_mod, r_fdiv, r_pow, r_cmpI, r_eqI, r_eqS, r_eqB, r_eqT, r_eqL, r_neI, r_neS, r_neB, r_neT, r_neL, r_isN, r_notN, r_inT, r_inR, r_inL, r_inS, r_notIn, r_c1K, r_con1, r_con2, r_con1F, r_lenL, r_lenT, r_lenR, r_lenS, r_isi1, r_isi2, r_listL, r_listR, r_listT, r_tupleT, r_tupleL, r_intI, r_intB, r_absI, r_bools, r_ints, r_toD, r_toDb, r_toDsN, r_toDsC, r_toDsF, List.getElem?_cons_zero, List.getElem?_cons_succ, List.getElem?_nil, List.set_cons_zero, List.set_cons_succ, List.map_cons, List.map_nil, List.cons_append, List.nil_append, List.append_nil, List.length_cons, List.length_nil, List.length_map, List.length_append, List.replicate_succ, List.replicate_zero, List.all_cons, List.all_nil, List.any_cons, List.any_nil, List.drop_succ_cons, List.drop_zero, List.take_succ_cons, List.take_zero, List.reverse_cons, List.reverse_nil, Option.some.injEq, Option.isSome_some, Option.isSome_none, Option.getD_some, Option.getD_none, Option.map_some, Option.map_none, Option.bind_some, L.fr.injEq, D.bl.injEq, D.int.injEq, D.str.injEq, D.ty.injEq, exists_eq_left, exists_eq_left', exists_eq_right, true_and, and_true, false_and, and_false, false_or, or_false, true_or, or_true, reduceIte, if_true, if_false, Bool.not_true, Bool.not_false, Bool.true_and, Bool.and_true, Bool.false_and, Bool.and_false, Bool.or_true, Bool.true_or, Bool.or_false, Bool.false_or, Bool.false_eq_true, Bool.true_eq_false, Bool.not_eq_true, decide_eq_true_eq, decide_eq_false_iff_not, decide_true, decide_false, Bool.not_eq_eq_eq_not, List.mem_cons, List.not_mem_nil, ne_eq, not_true_eq_false, not_false_eq_true, reduceCtorEq, Nat.sub_zero, Nat.add_zero, Nat.zero_add, entry, entryL, outs, slotL, knownTy, isB, D.tyn, D.isNon, D.flat, D.feq, D.scalar, sizeLine_eq, Int.cast_ofNat_Int, Nat.reduceAdd, Nat.reduceSub, Nat.reduceMul, Nat.reduceLeDiff, Nat.reduceEqDiff, Nat.reducePow, Nat.reduceLT, Int.reduceLE, Int.reduceLT, Int.reduceNe, Int.reduceEq, Int.reduceAdd, Int.reduceSub, Int.reduceMul, Int.reduceNeg, Int.reduceToNat, Int.reducePow, String.reduceEq, String.reduceBEq, String.reduceBNe, Int.reduceFMod, Int.reduceFDiv, Int.reduceNegSucc, Int.reduceAbs, beq_self_eq_true]
      refine ⟨.box .lst t.code, ⟨hc, t.lkc⟩, rfl, fun _ _ => ?_⟩
      simp (maxSteps := 4000000) only [r_ofStr, r_ofStrB, r_consN, r_consK, r_set0, r_setS, r_isSl0, r_isSlS, r_take0, r_takeS, r_dTake, r_peek0, r_peekS, r_dVar0, r_dVarS, r_seqK, r_seq, r_next, r_exprK, r_expr, r_ret, r_retN, r_ifK, r_if, r_dsSet, r_gName, r_asgK, r_asg, r_gTup, r_gsK, r_gsCons, r_gsNil, r_gStar, r_put0, r_put1, r_put2, r_put3, r_put4, r_boxK, r_gIx, r_gix0, r_gixS, r_setK2, r_parK, r_par, r_augK3, r_augK2, r_augK, r_aug, r_dC, r_opK3, r_opK2, r_opK, r_op, r_bK, r_dB, r_chK4, r_chK2, r_chK1, r_chain, r_andK, r_and, r_orK, r_or, r_notK, r_not, r_andVK, r_andV, r_orVK, r_orV, r_notVK, r_notV, r_difK, r_dIf, r_negK, r_neg, r_aNil, r_acK2, r_acK, r_aCons, r_aoK, r_aOwn, r_borK2, r_borK, r_aBor, r_lstK, r_lst, r_tupK, r_tup, r_retK, r_callK, r_call, r_res0, r_resN, r_resS, r_tmpK, r_tmp, r_frzN, r_frz0, r_frz1, r_at0, r_at1, r_at2, r_at3, r_frK, r_atF0, r_atF1, r_atF2, r_atF3, r_atF4, r_ixTup, r_ixRo, r_ixLst, r_ixStr, r_ixvF, r_ixvB, r_ixvK, r_ixV, r_isBx0, r_isBxS, r_mtK3, r_mtK2, r_mtK, r_mt, r_append, r_reverse, r_pop, r_slK3, r_slK2, r_slK, r_sl, r_oNone, r_osK, r_oSome, r_slLst, r_slRo, r_slTup, r_slStr, r_sqK2, r_sqK, r_iSeq, r_tqK2, r_tqK, r_iTup, r_rg1K, r_iRange1, r_rg2K, r_iRange2, r_forK, r_for, r_bodyK, r_cpEnd, r_cpK, r_comp, r_wipe0, r_wipeS, r_yes, r_cmK3, r_cmK2, r_cmK, r_cmN, r_compC, r_compN, r_endN, r_endR, r_ends, r_outOk0, r_outOkS, r_addI, r_addS, r_addL, r_addT, r_iaddI, r_iaddS, r_sub, r_mulI, r_mod, r_fdiv, r_pow, r_cmpI, r_eqI, r_eqS, r_eqB, r_eqT, r_eqL, r_neI, r_neS, r_neB, r_neT, r_neL, r_isN, r_notN, r_inT, r_inR, r_inL, r_inS, r_notIn, r_c1K, r_con1, r_con2, r_con1F, r_lenL, r_lenT, r_lenR, r_lenS, r_isi1, r_isi2, r_listL, r_listR, r_listT, r_tupleT, r_tupleL, r_intI, r_intB, r_absI, r_bools, r_ints, r_toD, r_toDb, r_toDsN, r_toDsC, r_toDsF, List.getElem?_cons_zero, List.getElem?_cons_succ, List.getElem?_nil, List.set_cons_zero, List.set_cons_succ, List.map_cons, List.map_nil, List.cons_append, List.nil_append, List.append_nil, List.length_cons, List.length_nil, List.length_map, List.length_append, List.replicate_succ, List.replicate_zero, List.all_cons, List.all_nil, List.any_cons, List.any_nil, List.drop_succ_cons, List.drop_zero, List.take_succ_cons, List.take_zero, List.reverse_cons, List.reverse_nil, Option.some.injEq, Option.isSome_some, Option.isSome_none, Option.getD_some, Option.getD_none, Option.map_some, Option.map_none, Option.bind_some, L.fr.injEq, D.bl.injEq, D.int.injEq, D.str.injEq, D.ty.injEq, exists_eq_left, exists_eq_left', exists_eq_right, true_and, and_true, false_and, and_false, false_or, or_false, true_or, or_true, reduceIte, if_true, if_false, Bool.not_true, Bool.not_false, Bool.true_and, Bool.and_true, Bool.false_and, Bool.and_false, Bool.or_true, Bool.true_or, Bool.or_false, Bool.false_or, Bool.false_eq_true, Bool.true_eq_false, Bool.not_eq_true, decide_eq_true_eq, decide_eq_false_iff_not, decide_true, decide_false, Bool.not_eq_eq_eq_not, List.mem_cons, List.not_mem_nil, ne_eq, not_true_eq_false, not_false_eq_true, reduceCtorEq, Nat.sub_zero, Nat.add_zero, Nat.zero_add, entry, entryL, outs, slotL, knownTy, isB, D.tyn, D.isNon, D.flat, D.feq, D.scalar, sizeLine_eq, Int.cast_ofNat_Int, Nat.reduceAdd, Nat.reduceSub, Nat.reduceMul, Nat.reduceLeDiff, Nat.reduceEqDiff, Nat.reducePow, Nat.reduceLT, Int.reduceLE, Int.reduceLT, Int.reduceNe, Int.reduceEq, Int.reduceAdd, Int.reduceSub, Int.reduceMul, Int.reduceNeg, Int.reduceToNat, Int.reducePow, String.reduceEq, String.reduceBEq, String.reduceBNe, Int.reduceFMod, Int.reduceFDiv, Int.reduceNegSucc, Int.reduceAbs, beq_self_eq_true]
      exact ⟨by rw [List.length_reverse, List.length_map]; omega, hN _ ⟨_, _, _, _, hb, rfl⟩⟩
    · rintro e ⟨b, o2, o4, o5, hb, rfl⟩
      exact hN _ ⟨_, _, _, _, _, hb, rfl⟩
  · rintro e ⟨b, o2, o3, o4, o5, hb, rfl⟩
    simp (maxSteps := 4000000) only [r_ofStr, r_ofStrB, r_consN, r_consK, r_set0, r_setS, r_isSl0, r_isSlS, r_take0, r_takeS, r_dTake, r_peek0, r_peekS, r_dVar0, r_dVarS, r_seqK, r_seq, r_next, r_exprK, r_expr, r_ret, r_retN, r_ifK, r_if, r_dsSet, r_gName, r_asgK, r_asg, r_gTup, r_gsK, r_gsCons, r_gsNil, r_gStar, r_put0, r_put1, r_put2, r_put3, r_put4, r_boxK, r_gIx, r_gix0, r_gixS, r_setK2, r_parK, r_par, r_augK3, r_augK2, r_augK, r_aug, r_dC, r_opK3, r_opK2, r_opK, r_op, r_bK, r_dB, r_chK4, r_chK2, r_chK1, r_chain, r_andK, r_and, r_orK, r_or, r_notK, r_not, r_andVK, r_andV, r_orVK, r_orV, r_notVK, r_notV, r_difK, r_dIf, r_negK, r_neg, r_aNil, r_acK2, r_acK, r_aCons, r_aoK, r_aOwn, r_borK2, r_borK, r_aBor, r_lstK, r_lst, r_tupK, r_tup, r_retK, r_callK, r_call, r_res0, r_resN, r_resS, r_tmpK, r_tmp, r_frzN, r_frz0, r_frz1, r_at0, r_at1, r_at2, r_at3, r_frK, r_atF0, r_atF1, r_atF2, r_atF3, r_atF4, r_ixTup, r_ixRo, r_ixLst, r_ixStr, r_ixvF, r_ixvB, r_ixvK, r_ixV, r_isBx0, r_isBxS, r_mtK3, r_mtK2, r_mtK, r_mt, r_append, r_reverse, r_pop, r_slK3, r_slK2, r_slK, r_sl, r_oNone, r_osK, r_oSome, r_slLst, r_slRo, r_slTup, r_slStr, r_sqK2, r_sqK, r_iSeq, r_tqK2, r_tqK, r_iTup, r_rg1K, r_iRange1, r_rg2K, r_iRange2, r_forK, r_for, r_bodyK, r_cpEnd, r_cpK, r_comp, r_wipe0, r_wipeS, r_yes, r_cmK3, r_cmK2, r_cmK, r_cmN, r_compC, r_compN, r_endN, r_endR, r_ends, r_outOk0, r_outOkS, r_addI, r_addS, r_addL, r_addT, r_iaddI, r_iaddS, r_sub, r_mulI, r_mod, r_fdiv, r_pow, r_cmpI, r_eqI, r_eqS, r_eqB, r_eqT, r_eqL, r_neI, r_neS, r_neB, r_neT, r_neL, r_isN, r_notN, r_inT, r_inR, r_inL, r_inS, r_notIn, r_c1K, r_con1, r_con2, r_con1F, r_lenL, r_lenT, r_lenR, r_lenS, r_isi1, r_isi2, r_listL, r_listR, r_listT, r_tupleT, r_tupleL, r_intI, r_intB, r_absI, r_bools, r_ints, r_toD, r_toDb, r_toDsN, r_toDsC, r_toDsF, List.getElem?_cons_zero, List.getElem?_cons_succ, List.getElem?_nil, List.set_cons_zero, List.set_cons_succ, List.map_cons, List.map_nil, List.cons_append, List.nil_append, List.append_nil, List.length_cons, List.length_nil, List.length_map, List.length_append, List.replicate_succ, List.replicate_zero, List.all_cons, List.all_nil, List.any_cons, List.any_nil, List.drop_succ_cons, List.drop_zero, List.take_succ_cons, List.take_zero, List.reverse_cons, List.reverse_nil, Option.some.injEq, Option.isSome_some, Option.isSome_none, Option.getD_some, Option.getD_none, Option.map_some, Option.map_none, Option.bind_some, L.fr.injEq, D.bl.injEq, D.int.injEq, D.str.injEq, D.ty.injEq, exists_eq_left, exists_eq_left', exists_eq_right, true_and, and_true, false_and, and_false, false_or, or_false, true_or, or_true, reduceIte, if_true, if_false, Bool.not_true, Bool.not_false, Bool.true_and, Bool.and_true, Bool.false_and, Bool.and_false, Bool.or_true, Bool.true_or, Bool.or_false, Bool.false_or, Bool.false_eq_true, Bool.true_eq_false, Bool.not_eq_true, decide_eq_true_eq, decide_eq_false_iff_not, decide_true, decide_false, Bool.not_eq_eq_eq_not, List.mem_cons, List.not_mem_nil, ne_eq, not_true_eq_false, not_false_eq_true, reduceCtorEq, Nat.sub_zero, Nat.add_zero, Nat.zero_add, entry, entryL, outs, slotL, knownTy, isB, D.tyn, D.isNon, D.flat, D.feq, D.scalar, sizeLine_eq, Int.cast_ofNat_Int, Nat.reduceAdd, Nat.reduceSub, Nat.reduceMul, Nat.reduceLeDiff, Nat.reduceEqDiff, Nat.reducePow, Nat.reduceLT, Int.reduceLE, Int.reduceLT, Int.reduceNe, Int.reduceEq, Int.reduceAdd, Int.reduceSub, Int.reduceMul, Int.reduceNeg, Int.reduceToNat, Int.reducePow, String.reduceEq, String.reduceBEq, String.reduceBNe, Int.reduceFMod, Int.reduceFDiv, Int.reduceNegSucc, Int.reduceAbs, beq_self_eq_true]
    refine ⟨.ident, rfl, by decide, by decide, fun _ => ?_⟩
    simp (maxSteps := 4000000) only [r_ofStr, r_ofStrB, r_consN, r_consK, r_set0, r_setS, r_isSl0, r_isSlS, r_take0, r_takeS, r_dTake, r_peek0, r_peekS, r_dVar0, r_dVarS, r_seqK, r_seq, r_next, r_exprK, r_expr, r_ret, r_retN, r_ifK, r_if, r_dsSet, r_gName, r_asgK, r_asg, r_gTup, r_gsK, r_gsCons, r_gsNil, r_gStar, r_put0, r_put1, r_put2, r_put3, r_put4, r_boxK, r_gIx, r_gix0, r_gixS, r_setK2, r_parK, r_par, r_augK3, r_augK2, r_augK, r_aug, r_dC, r_opK3, r_opK2, r_opK, r_op, r_bK, r_dB, r_chK4, r_chK2, r_chK1, r_chain, r_andK, r_and, r_orK, r_or, r_notK, r_not, r_andVK, r_andV, r_orVK, r_orV, r_notVK, r_notV, r_difK, r_dIf, r_negK, r_neg, r_aNil, r_acK2, r_acK, r_aCons, r_aoK, r_aOwn, r_borK2, r_borK, r_aBor, r_lstK, r_lst, r_tupK, r_tup, r_retK, r_callK, r_call, r_res0, r_resN, r_resS, r_tmpK, r_tmp, r_frzN, r_frz0, r_frz1, r_at0, r_at1, r_at2, r_at3, r_frK, r_atF0, r_atF1, r_atF2, r_atF3, r_atF4, r_ixTup, r_ixRo, r_ixLst, r_ixStr, r_ixvF, r_ixvB, r_ixvK, r_ixV, r_isBx0, r_isBxS, r_mtK3, r_mtK2, r_mtK, r_mt, r_append, r_reverse, r_pop, r_slK3, r_slK2, r_slK, r_sl, r_oNone, r_osK, r_oSome, r_slLst, r_slRo, r_slTup, r_slStr, r_sqK2, r_sqK, r_iSeq, r_tqK2, r_tqK, r_iTup, r_rg1K, r_iRange1, r_rg2K, r_iRange2, r_forK, r_for, r_bodyK, r_cpEnd, r_cpK, r_comp, r_wipe0, r_wipeS, r_yes, r_cmK3, r_cmK2, r_cmK, r_cmN, r_compC, r_compN, r_endN, r_endR, r_ends, r_outOk0, r_outOkS, r_addI, r_addS, r_addL, r_addT, r_iaddI, r_iaddS, r_sub, r_mulI, r_mod, r_fdiv, r_pow, r_cmpI, r_eqI, r_eqS, r_eqB, r_eqT, r_eqL, r_neI, r_neS, r_neB, r_neT, r_neL, r_isN, r_notN, r_inT, r_inR, r_inL, r_inS, r_notIn, r_c1K, r_con1, r_con2, r_con1F, r_lenL, r_lenT, r_lenR, r_lenS, r_isi1, r_isi2, r_listL, r_listR, r_listT, r_tupleT, r_tupleL, r_intI, r_intB, r_absI, r_bools, r_ints, r_toD, r_toDb, r_toDsN, r_toDsC, r_toDsF, List.getElem?_cons_zero, List.getElem?_cons_succ, List.getElem?_nil, List.set_cons_zero, List.set_cons_succ, List.map_cons, List.map_nil, List.cons_append, List.nil_append, List.append_nil, List.length_cons, List.length_nil, List.length_map, List.length_append, List.replicate_succ, List.replicate_zero, List.all_cons, List.all_nil, List.any_cons, List.any_nil, List.drop_succ_cons, List.drop_zero, List.take_succ_cons, List.take_zero, List.reverse_cons, List.reverse_nil, Option.some.injEq, Option.isSome_some, Option.isSome_none, Option.getD_some, Option.getD_none, Option.map_some, Option.map_none, Option.bind_some, L.fr.injEq, D.bl.injEq, D.int.injEq, D.str.injEq, D.ty.injEq, exists_eq_left, exists_eq_left', exists_eq_right, true_and, and_true, false_and, and_false, false_or, or_false, true_or, or_true, reduceIte, if_true, if_false, Bool.not_true, Bool.not_false, Bool.true_and, Bool.and_true, Bool.false_and, Bool.and_false, Bool.or_true, Bool.true_or, Bool.or_false, Bool.false_or, Bool.false_eq_true, Bool.true_eq_false, Bool.not_eq_true, decide_eq_true_eq, decide_eq_false_iff_not, decide_true, decide_false, Bool.not_eq_eq_eq_not, List.mem_cons, List.not_mem_nil, ne_eq, not_true_eq_false, not_false_eq_true, reduceCtorEq, Nat.sub_zero, Nat.add_zero, Nat.zero_add, entry, entryL, outs, slotL, knownTy, isB, D.tyn, D.isNon, D.flat, D.feq, D.scalar, sizeLine_eq, Int.cast_ofNat_Int, Nat.reduceAdd, Nat.reduceSub, Nat.reduceMul, Nat.reduceLeDiff, Nat.reduceEqDiff, Nat.reducePow, Nat.reduceLT, Int.reduceLE, Int.reduceLT, Int.reduceNe, Int.reduceEq, Int.reduceAdd, Int.reduceSub, Int.reduceMul, Int.reduceNeg, Int.reduceToNat, Int.reducePow, String.reduceEq, String.reduceBEq, String.reduceBNe, Int.reduceFMod, Int.reduceFDiv, Int.reduceNegSucc, Int.reduceAbs, beq_self_eq_true, T.code, T.d]
    have e1 : Cmp2 (.box .lst [.tup [.str (Str.ofString "identity")]]) (.box .lst [.tup [.str (Str.ofString "identity")]]) := ⟨by decide +kernel, by decide +kernel⟩
    have e2 : PyData.eqv (D.box .lst [.tup [.str (Str.ofString "identity")]]).py (D.box .lst [.tup [.str (Str.ofString "identity")]]).py = true := by decide +kernel
    simp (maxSteps := 4000000) only [r_ofStr, r_ofStrB, r_consN, r_consK, r_set0, r_setS, r_isSl0, r_isSlS, r_take0, r_takeS, r_dTake, r_peek0, r_peekS, r_dVar0, r_dVarS, r_seqK, r_seq, r_next, r_exprK, r_expr, r_ret, r_retN, r_ifK, r_if, r_dsSet, r_gName, r_asgK, r_asg, r_gTup, r_gsK, r_gsCons, r_gsNil, r_gStar, r_put0, r_put1, r_put2, r_put3, r_put4, r_boxK, r_gIx, r_gix0, r_gixS, r_setK2, r_parK, r_par, r_augK3, r_augK2, r_augK, r_aug, r_dC, r_opK3, r_opK2, r_opK, r_op, r_bK, r_dB, r_chK4, r_chK2, r_chK1, r_chain, r_andK, r_and, r_orK, r_or, r_notK, r_not, r_andVK, r_andV, r_orVK, r_orV, r_notVK, r_notV, r_difK, r_dIf, r_negK, r_neg, r_aNil, r_acK2, r_acK, r_aCons, r_aoK, r_aOwn, r_borK2, r_borK, r_aBor, r_lstK, r_lst, r_tupK, r_tup, r_retK, r_callK, r_call, r_res0, r_resN, r_resS, r_tmpK, r_tmp, r_frzN, r_frz0, r_frz1, r_at0, r_at1, r_at2, r_at3, r_frK, r_atF0, r_atF1, r_atF2, r_atF3, r_atF4, r_ixTup, r_ixRo, r_ixLst, r_ixStr, r_ixvF, r_ixvB, r_ixvK, r_ixV, r_isBx0, r_isBxS, r_mtK3, r_mtK2, r_mtK, r_mt, r_append, r_reverse, r_pop, r_slK3, r_slK2, r_slK, r_sl, r_oNone, r_osK, r_oSome, r_slLst, r_slRo, r_slTup, r_slStr, r_sqK2, r_sqK, r_iSeq, r_tqK2, r_tqK, r_iTup, r_rg1K, r_iRange1, r_rg2K, r_iRange2, r_forK, r_for, r_bodyK, r_cpEnd, r_cpK, r_comp, r_wipe0, r_wipeS, r_yes, r_cmK3, r_cmK2, r_cmK, r_cmN, r_compC, r_compN, r_endN, r_endR, r_ends, r_outOk0, r_outOkS, r_addI, r_addS, r_addL, r_addT, r_iaddI, r_iaddS, r_sub, r_mulI, r_mod, r_fdiv, r_pow, r_cmpI, r_eqI, r_eqS, r_eqB, r_eqT, r_eqL, r_neI, r_neS, r_neB, r_neT, r_neL, r_isN, r_notN, r_inT, r_inR, r_inL, r_inS, r_notIn, r_c1K, r_con1, r_con2, r_con1F, r_lenL, r_lenT, r_lenR, r_lenS, r_isi1, r_isi2, r_listL, r_listR, r_listT, r_tupleT, r_tupleL, r_intI, r_intB, r_absI, r_bools, r_ints, r_toD, r_toDb, r_toDsN, r_toDsC, r_toDsF, List.getElem?_cons_zero, List.getElem?_cons_succ, List.getElem?_nil, List.set_cons_zero, List.set_cons_succ, List.map_cons, List.map_nil, List.cons_append, List.nil_append, List.append_nil, List.length_cons, List.length_nil, List.length_map, List.length_append, List.replicate_succ, List.replicate_zero, List.all_cons, List.all_nil, List.any_cons, List.any_nil, List.drop_succ_cons, List.drop_zero, List.take_succ_cons, List.take_zero, List.reverse_cons, List.reverse_nil, Option.some.injEq, Option.isSome_some, Option.isSome_none, Option.getD_some, Option.getD_none, Option.map_some, Option.map_none, Option.bind_some, L.fr.injEq, D.bl.injEq, D.int.injEq, D.str.injEq, D.ty.injEq, exists_eq_left, exists_eq_left', exists_eq_right, true_and, and_true, false_and, and_false, false_or, or_false, true_or, or_true, reduceIte, if_true, if_false, Bool.not_true, Bool.not_false, Bool.true_and, Bool.and_true, Bool.false_and, Bool.and_false, Bool.or_true, Bool.true_or, Bool.or_false, Bool.false_or, Bool.false_eq_true, Bool.true_eq_false, Bool.not_eq_true, decide_eq_true_eq, decide_eq_false_iff_not, decide_true, decide_false, Bool.not_eq_eq_eq_not, List.mem_cons, List.not_mem_nil, ne_eq, not_true_eq_false, not_false_eq_true, reduceCtorEq, Nat.sub_zero, Nat.add_zero, Nat.zero_add, entry, entryL, outs, slotL, knownTy, isB, D.tyn, D.isNon, D.flat, D.feq, D.scalar, sizeLine_eq, Int.cast_ofNat_Int, Nat.reduceAdd, Nat.reduceSub, Nat.reduceMul, Nat.reduceLeDiff, Nat.reduceEqDiff, Nat.reducePow, Nat.reduceLT, Int.reduceLE, Int.reduceLT, Int.reduceNe, Int.reduceEq, Int.reduceAdd, Int.reduceSub, Int.reduceMul, Int.reduceNeg, Int.reduceToNat, Int.reducePow, String.reduceEq, String.reduceBEq, String.reduceBNe, Int.reduceFMod, Int.reduceFDiv, Int.reduceNegSucc, Int.reduceAbs, beq_self_eq_true, e1, e2]
    exact h _
end K48

namespace K48
open PySem PySem.Spec PyProof.Rows L2 TL
theorem len2 {C : Con} {n : Nat} (h : ∀ ls kk kx, C ls kk kx → ls.length = n) : ∀ ls kk kx, C ls kk kx → ls.length = n := h
section
variable {P : Program} {w : World} {K : PySem.W.Frag} {mg : Str → Option Value} {base : Heap}
theorem lPull : ∀ ls kk kx, cPull ls kk kx → ls.length = 2 := by
  intro ls kk kx h; unfold cPull at h; split at h; · rfl
  · exact h.elim
theorem lOf : ∀ ls kk kx, cOf ls kk kx → ls.length = 2 := by
  intro ls kk kx h; unfold cOf at h; split at h; · rfl
  · rfl
  · exact h.elim
theorem lMove : ∀ ls kk kx, cMove ls kk kx → ls.length = 2 := by
  intro ls kk kx h; unfold cMove at h; split at h; · rfl
  · exact h.elim
theorem lNames : ∀ ls kk kx, cNames ls kk kx → ls.length = 2 := by
  intro ls kk kx h; unfold cNames at h; split at h; · rfl
  · exact h.elim
theorem lAtom : ∀ ls kk kx, cAtom ls kk kx → ls.length = 3 := by
  intro ls kk kx h; unfold cAtom at h; split at h; · rfl
  · exact h.elim
theorem lTree (n : Nat) : ∀ ls kk kx, cTree n ls kk kx → ls.length = 4 := by
  intro ls kk kx h; unfold cTree at h; split at h; · rfl
  · exact h.elim
theorem lBag : ∀ ls kk kx, cBag ls kk kx → ls.length = 1 := by rintro _ kk kx ⟨ns, rfl, _⟩; rfl
theorem lCode (n : Nat) : ∀ ls kk kx, cCode n ls kk kx → ls.length = 1 := by rintro _ kk kx ⟨ns, rfl, _⟩; rfl
theorem lLike (n : Nat) : ∀ ls kk kx, cLike n ls kk kx → ls.length = 2 := by rintro _ kk kx ⟨ns, _, rfl, _⟩; rfl
theorem lTrue : ∀ ls kk kx, cTrue ls kk kx → ls.length = 1 := by rintro _ kk kx ⟨ns, rfl, _⟩; rfl
theorem o_pull (T : Txt K mg) : FnOk P w K mg base (L2.CX P w) 1 T.a_law_pull T.fd_law_pull ["_law_bag_here", "_law_size"] (spD K cPull) := b_law_pull T lPull v_pull
theorem o_bag (T : Txt K mg) : FnOk P w K mg base (L2.CX P w) 1 T.a_law_bag T.fd_law_bag ["_law_script"] (spD K cBag) := b_law_bag T lBag v_bag
theorem o_of (T : Txt K mg) : FnOk P w K mg base (L2.CX P w) 2 T.a_law_of T.fd_law_of ["_law_bag_here", "_law_some"] (spD K cOf) := b_law_of T (o_pull T) lOf v_of
theorem o_move (T : Txt K mg) : FnOk P w K mg base (L2.CX P w) 2 T.a_law_move T.fd_law_move ["_law_bag_here", "_law_wide"] (spD K cMove) := b_law_move T (o_pull T) lMove v_move
theorem o_names (T : Txt K mg) : FnOk P w K mg base (L2.CX P w) 3 T.a_law_names T.fd_law_names ["_law_bag_here", "_law_many"] (spD K cNames) := b_law_names T (o_of T) ((o_pull T).mono (by decide)) lNames v_names
theorem o_atom (T : Txt K mg) : FnOk P w K mg base (L2.CX P w) 3 T.a_law_atom T.fd_law_atom ["_law_bag_here", "_law_wide", "_law_names_here"] (spD K cAtom) := b_law_atom T ((o_pull T).mono (by decide)) (o_of T) (o_move T) lAtom v_atom
theorem o_tree (T : Txt K mg) : ∀ n : Nat, FnOk P w K mg base (L2.CX P w) (4 + n) T.a_law_tree T.fd_law_tree ["_law_bag_here", "_law_wide", "_law_names_here", "_law_deep"] (spD K (cTree n))
  | 0 => b_law_tree T ((o_pull T).mono (by decide)) (o_atom T) ok_no (lTree 0) v_tree0
  | n + 1 => b_law_tree T ((o_pull T).mono (by omega)) ((o_atom T).mono (by omega)) (o_tree T n) (lTree _) (v_treeS n)
theorem o_compiled (T : Txt K mg) : ∀ n : Nat, FnOk P w K mg base (L2.CX P w) (1 + n) T.a_compiled T.fd_compiled ["tree"] (spD K (cCode n))
  | 0 => b_compiled T ok_no (lCode 0) v_compiled0
  | n + 1 => b_compiled T (o_compiled T n) (lCode _) (v_compiledS n)
theorem o_program (T : Txt K mg) : ∀ n : Nat, FnOk P w K mg base (L2.CX P w) (1 + n) T.a_law_program T.fd_law_program ["_law_tree_here"] (spD K (cCode n))
  | 0 => b_law_program T ok_no (lCode 0) v_program0
  | n + 1 => b_law_program T (o_program T n) (lCode _) (v_programS n)
theorem o_like (T : Txt K mg) : ∀ n : Nat, FnOk P w K mg base (L2.CX P w) (1 + n) T.a_law_like T.fd_law_like ["_law_found", "_law_due"] (spD K (cLike n))
  | 0 => b_law_like T ok_no (lLike 0) v_like0
  | n + 1 => b_law_like T (o_like T n) (lLike _) (v_likeS n)
theorem ok_all (T : Txt K mg) : FnOk P w K mg base (L2.CX P w) 12 T.a_law T.fd_law ["_law_script"] (spD K cTrue) :=
  b_law (k := 11) T ((o_bag T).mono (by decide)) ((o_names T).mono (by decide)) ((o_pull T).mono (by decide)) ((o_tree T 4).mono (by decide)) ((o_compiled T 4).mono (by decide)) ((o_program T 4).mono (by decide)) ((o_like T 3).mono (by decide)) lTrue v_law
end
/-! ### what the top has written, the end -/
theorem all_mk {l : PySem.W.OpenLaw} {w : World} {K : PySem.W.Frag} {h : Heap} {mg : Str → Option Value} {fa f_compiled f_law_bag f_law_pull f_law_of f_law_like f_law_move f_law_names f_law_tree f_law_atom f_law_program f_law : Addr} (X : K.In h) (G : h.Ns mainGlobals mg) (hfa : mg "law" = some (.ref fa))
    {od_compiled an_compiled od_law_bag an_law_bag od_law_pull an_law_pull od_law_of an_law_of od_law_like an_law_like od_law_move an_law_move od_law_names an_law_names od_law_tree an_law_tree od_law_atom an_law_atom od_law_program an_law_program od_law an_law : Option Addr} {sl_compiled sl_law_bag sl_law_pull sl_law_of sl_law_like sl_law_move sl_law_names sl_law_tree sl_law_atom sl_law_program sl_law : Array (Option Value)} {oc_compiled kV_compiled dc_compiled pm_compiled cd_compiled ct_compiled oc_law_bag kV_law_bag dc_law_bag pm_law_bag cd_law_bag ct_law_bag oc_law_pull kV_law_pull dc_law_pull pm_law_pull cd_law_pull ct_law_pull oc_law_of kV_law_of dc_law_of pm_law_of cd_law_of ct_law_of oc_law_like kV_law_like dc_law_like pm_law_like cd_law_like ct_law_like oc_law_move kV_law_move dc_law_move pm_law_move cd_law_move ct_law_move oc_law_names kV_law_names dc_law_names pm_law_names cd_law_names ct_law_names oc_law_tree kV_law_tree dc_law_tree pm_law_tree cd_law_tree ct_law_tree oc_law_atom kV_law_atom dc_law_atom pm_law_atom cd_law_atom ct_law_atom oc_law_program kV_law_program dc_law_program pm_law_program cd_law_program ct_law_program oc_law kV_law dc_law pm_law cd_law ct_law : Value}
    (a_compiled : PySem.W.nsIn K mainGlobals "compiled" = some (some (.ref f_compiled))) (l_compiled : K.lookup f_compiled = some ⟨oc_compiled, od_compiled, .func (PySem.W.fnOf "compiled" "compiled" (defArgs s_compiled) (defBody s_compiled) (defScope s_compiled) .none kV_compiled dc_compiled pm_compiled an_compiled cd_compiled ct_compiled), sl_compiled⟩) (c_compiled : PySem.W.codeIn K cd_compiled "compiled" = true) (k_compiled : PySem.W.keepIn K (.ref f_compiled) = true)
    (a_law_bag : PySem.W.nsIn K mainGlobals "_law_bag" = some (some (.ref f_law_bag))) (l_law_bag : K.lookup f_law_bag = some ⟨oc_law_bag, od_law_bag, .func (PySem.W.fnOf "_law_bag" "_law_bag" (defArgs s_law_bag) (defBody s_law_bag) (defScope s_law_bag) .none kV_law_bag dc_law_bag pm_law_bag an_law_bag cd_law_bag ct_law_bag), sl_law_bag⟩) (c_law_bag : PySem.W.codeIn K cd_law_bag "_law_bag" = true) (k_law_bag : PySem.W.keepIn K (.ref f_law_bag) = true)
    (a_law_pull : PySem.W.nsIn K mainGlobals "_law_pull" = some (some (.ref f_law_pull))) (l_law_pull : K.lookup f_law_pull = some ⟨oc_law_pull, od_law_pull, .func (PySem.W.fnOf "_law_pull" "_law_pull" (defArgs s_law_pull) (defBody s_law_pull) (defScope s_law_pull) .none kV_law_pull dc_law_pull pm_law_pull an_law_pull cd_law_pull ct_law_pull), sl_law_pull⟩) (c_law_pull : PySem.W.codeIn K cd_law_pull "_law_pull" = true) (k_law_pull : PySem.W.keepIn K (.ref f_law_pull) = true)
    (a_law_of : PySem.W.nsIn K mainGlobals "_law_of" = some (some (.ref f_law_of))) (l_law_of : K.lookup f_law_of = some ⟨oc_law_of, od_law_of, .func (PySem.W.fnOf "_law_of" "_law_of" (defArgs s_law_of) (defBody s_law_of) (defScope s_law_of) .none kV_law_of dc_law_of pm_law_of an_law_of cd_law_of ct_law_of), sl_law_of⟩) (c_law_of : PySem.W.codeIn K cd_law_of "_law_of" = true) (k_law_of : PySem.W.keepIn K (.ref f_law_of) = true)
    (a_law_like : PySem.W.nsIn K mainGlobals "_law_like" = some (some (.ref f_law_like))) (l_law_like : K.lookup f_law_like = some ⟨oc_law_like, od_law_like, .func (PySem.W.fnOf "_law_like" "_law_like" (defArgs s_law_like) (defBody s_law_like) (defScope s_law_like) .none kV_law_like dc_law_like pm_law_like an_law_like cd_law_like ct_law_like), sl_law_like⟩) (c_law_like : PySem.W.codeIn K cd_law_like "_law_like" = true) (k_law_like : PySem.W.keepIn K (.ref f_law_like) = true)
    (a_law_move : PySem.W.nsIn K mainGlobals "_law_move" = some (some (.ref f_law_move))) (l_law_move : K.lookup f_law_move = some ⟨oc_law_move, od_law_move, .func (PySem.W.fnOf "_law_move" "_law_move" (defArgs s_law_move) (defBody s_law_move) (defScope s_law_move) .none kV_law_move dc_law_move pm_law_move an_law_move cd_law_move ct_law_move), sl_law_move⟩) (c_law_move : PySem.W.codeIn K cd_law_move "_law_move" = true) (k_law_move : PySem.W.keepIn K (.ref f_law_move) = true)
    (a_law_names : PySem.W.nsIn K mainGlobals "_law_names" = some (some (.ref f_law_names))) (l_law_names : K.lookup f_law_names = some ⟨oc_law_names, od_law_names, .func (PySem.W.fnOf "_law_names" "_law_names" (defArgs s_law_names) (defBody s_law_names) (defScope s_law_names) .none kV_law_names dc_law_names pm_law_names an_law_names cd_law_names ct_law_names), sl_law_names⟩) (c_law_names : PySem.W.codeIn K cd_law_names "_law_names" = true) (k_law_names : PySem.W.keepIn K (.ref f_law_names) = true)
    (a_law_tree : PySem.W.nsIn K mainGlobals "_law_tree" = some (some (.ref f_law_tree))) (l_law_tree : K.lookup f_law_tree = some ⟨oc_law_tree, od_law_tree, .func (PySem.W.fnOf "_law_tree" "_law_tree" (defArgs s_law_tree) (defBody s_law_tree) (defScope s_law_tree) .none kV_law_tree dc_law_tree pm_law_tree an_law_tree cd_law_tree ct_law_tree), sl_law_tree⟩) (c_law_tree : PySem.W.codeIn K cd_law_tree "_law_tree" = true) (k_law_tree : PySem.W.keepIn K (.ref f_law_tree) = true)
    (a_law_atom : PySem.W.nsIn K mainGlobals "_law_atom" = some (some (.ref f_law_atom))) (l_law_atom : K.lookup f_law_atom = some ⟨oc_law_atom, od_law_atom, .func (PySem.W.fnOf "_law_atom" "_law_atom" (defArgs s_law_atom) (defBody s_law_atom) (defScope s_law_atom) .none kV_law_atom dc_law_atom pm_law_atom an_law_atom cd_law_atom ct_law_atom), sl_law_atom⟩) (c_law_atom : PySem.W.codeIn K cd_law_atom "_law_atom" = true) (k_law_atom : PySem.W.keepIn K (.ref f_law_atom) = true)
    (a_law_program : PySem.W.nsIn K mainGlobals "_law_program" = some (some (.ref f_law_program))) (l_law_program : K.lookup f_law_program = some ⟨oc_law_program, od_law_program, .func (PySem.W.fnOf "_law_program" "_law_program" (defArgs s_law_program) (defBody s_law_program) (defScope s_law_program) .none kV_law_program dc_law_program pm_law_program an_law_program cd_law_program ct_law_program), sl_law_program⟩) (c_law_program : PySem.W.codeIn K cd_law_program "_law_program" = true) (k_law_program : PySem.W.keepIn K (.ref f_law_program) = true)
    (a_law : PySem.W.nsIn K mainGlobals "law" = some (some (.ref f_law))) (l_law : K.lookup f_law = some ⟨oc_law, od_law, .func (PySem.W.fnOf "law" "law" (defArgs s_law) (defBody s_law) (defScope s_law) .none kV_law dc_law pm_law an_law cd_law ct_law), sl_law⟩) (c_law : PySem.W.codeIn K cd_law "law" = true) (k_law : PySem.W.keepIn K (.ref f_law) = true)
    (z_all : PySem.W.nsIn K mainGlobals "all" = some none)
    (z_bool : PySem.W.nsIn K mainGlobals "bool" = some none)
    (z_int : PySem.W.nsIn K mainGlobals "int" = some none)
    (z_isinstance : PySem.W.nsIn K mainGlobals "isinstance" = some none)
    (z_len : PySem.W.nsIn K mainGlobals "len" = some none)
    (z_list : PySem.W.nsIn K mainGlobals "list" = some none)
    (z_range : PySem.W.nsIn K mainGlobals "range" = some none)
    (z_str : PySem.W.nsIn K mainGlobals "str" = some none)
    (z_tuple : PySem.W.nsIn K mainGlobals "tuple" = some none)
    : ∃ fd : FuncData, (∀ (s : Shared) (v : Value), BindsTo s fd ⟨[v], []⟩ [("_law_script", v)]) ∧ ∀ base : Heap, K.In base → base.Ns mainGlobals mg → FnOk l.prog w K mg base (L2.CX l.prog w) 12 fa fd ["_law_script"] (spLaw K) := by
  have e := hfa.symm.trans (PySem.W.mg_of X G a_law)
  cases e
  refine ⟨_, fun s v => .of_eq (fd := PySem.W.fnOf "law" "law" (defArgs s_law) (defBody s_law) (defScope s_law) .none kV_law dc_law pm_law an_law cd_law ct_law) rfl, fun base _ _ => ?_⟩
  let T : Txt K mg := {
    a_compiled := f_compiled, fd_compiled := _, F_compiled := fun_mk (st := s_compiled) l_compiled c_compiled k_compiled
    b_compiled := (fun_mk (st := s_compiled) l_compiled c_compiled k_compiled).binds (ps := ["tree"]) fun _ _ _ _ _ _ us hl => match us, hl with | [_], _ => rfl
    m_compiled := PySem.W.mg_of X G a_compiled
    a_law_bag := f_law_bag, fd_law_bag := _, F_law_bag := fun_mk (st := s_law_bag) l_law_bag c_law_bag k_law_bag
    b_law_bag := (fun_mk (st := s_law_bag) l_law_bag c_law_bag k_law_bag).binds (ps := ["_law_script"]) fun _ _ _ _ _ _ us hl => match us, hl with | [_], _ => rfl
    m_law_bag := PySem.W.mg_of X G a_law_bag
    a_law_pull := f_law_pull, fd_law_pull := _, F_law_pull := fun_mk (st := s_law_pull) l_law_pull c_law_pull k_law_pull
    b_law_pull := (fun_mk (st := s_law_pull) l_law_pull c_law_pull k_law_pull).binds (ps := ["_law_bag_here", "_law_size"]) fun _ _ _ _ _ _ us hl => match us, hl with | [_, _], _ => rfl
    m_law_pull := PySem.W.mg_of X G a_law_pull
    a_law_of := f_law_of, fd_law_of := _, F_law_of := fun_mk (st := s_law_of) l_law_of c_law_of k_law_of
    b_law_of := (fun_mk (st := s_law_of) l_law_of c_law_of k_law_of).binds (ps := ["_law_bag_here", "_law_some"]) fun _ _ _ _ _ _ us hl => match us, hl with | [_, _], _ => rfl
    m_law_of := PySem.W.mg_of X G a_law_of
    a_law_like := f_law_like, fd_law_like := _, F_law_like := fun_mk (st := s_law_like) l_law_like c_law_like k_law_like
    b_law_like := (fun_mk (st := s_law_like) l_law_like c_law_like k_law_like).binds (ps := ["_law_found", "_law_due"]) fun _ _ _ _ _ _ us hl => match us, hl with | [_, _], _ => rfl
    m_law_like := PySem.W.mg_of X G a_law_like
    a_law_move := f_law_move, fd_law_move := _, F_law_move := fun_mk (st := s_law_move) l_law_move c_law_move k_law_move
    b_law_move := (fun_mk (st := s_law_move) l_law_move c_law_move k_law_move).binds (ps := ["_law_bag_here", "_law_wide"]) fun _ _ _ _ _ _ us hl => match us, hl with | [_, _], _ => rfl
    m_law_move := PySem.W.mg_of X G a_law_move
    a_law_names := f_law_names, fd_law_names := _, F_law_names := fun_mk (st := s_law_names) l_law_names c_law_names k_law_names
    b_law_names := (fun_mk (st := s_law_names) l_law_names c_law_names k_law_names).binds (ps := ["_law_bag_here", "_law_many"]) fun _ _ _ _ _ _ us hl => match us, hl with | [_, _], _ => rfl
    m_law_names := PySem.W.mg_of X G a_law_names
    a_law_tree := f_law_tree, fd_law_tree := _, F_law_tree := fun_mk (st := s_law_tree) l_law_tree c_law_tree k_law_tree
    b_law_tree := (fun_mk (st := s_law_tree) l_law_tree c_law_tree k_law_tree).binds (ps := ["_law_bag_here", "_law_wide", "_law_names_here", "_law_deep"]) fun _ _ _ _ _ _ us hl => match us, hl with | [_, _, _, _], _ => rfl
    m_law_tree := PySem.W.mg_of X G a_law_tree
    a_law_atom := f_law_atom, fd_law_atom := _, F_law_atom := fun_mk (st := s_law_atom) l_law_atom c_law_atom k_law_atom
    b_law_atom := (fun_mk (st := s_law_atom) l_law_atom c_law_atom k_law_atom).binds (ps := ["_law_bag_here", "_law_wide", "_law_names_here"]) fun _ _ _ _ _ _ us hl => match us, hl with | [_, _, _], _ => rfl
    m_law_atom := PySem.W.mg_of X G a_law_atom
    a_law_program := f_law_program, fd_law_program := _, F_law_program := fun_mk (st := s_law_program) l_law_program c_law_program k_law_program
    b_law_program := (fun_mk (st := s_law_program) l_law_program c_law_program k_law_program).binds (ps := ["_law_tree_here"]) fun _ _ _ _ _ _ us hl => match us, hl with | [_], _ => rfl
    m_law_program := PySem.W.mg_of X G a_law_program
    a_law := fa, fd_law := _, F_law := fun_mk (st := s_law) l_law c_law k_law
    b_law := (fun_mk (st := s_law) l_law c_law k_law).binds (ps := ["_law_script"]) fun _ _ _ _ _ _ us hl => match us, hl with | [_], _ => rfl
    m_law := PySem.W.mg_of X G a_law
    z_all := PySem.W.mg_none_of X G z_all
    z_bool := PySem.W.mg_none_of X G z_bool
    z_int := PySem.W.mg_none_of X G z_int
    z_isinstance := PySem.W.mg_none_of X G z_isinstance
    z_len := PySem.W.mg_none_of X G z_len
    z_list := PySem.W.mg_none_of X G z_list
    z_range := PySem.W.mg_none_of X G z_range
    z_str := PySem.W.mg_none_of X G z_str
    z_tuple := PySem.W.mg_none_of X G z_tuple
  }
  exact FnOk.imp (ok_all T) law_sp
theorem walk {l : PySem.W.OpenLaw} {q : Program} {loose : List Str} {XP : (Str → Option Value) → Heap → Prop} {YP : World → Heap → Prop} {d : DefRec} {K : Params → PySem.W.Frag} (hn : l.most = some 63) (hdf : d.params.defaults = [])
    (hY : ∀ (w : World) (h : Heap), YP w h → (K w.params).In h)
    (F : ∀ (w : World) (mg : Str → Option Value) (fa : Addr) (h : Heap), (K w.params).In h → h.Ns mainGlobals mg → mg d.name = some (.ref fa) →
      ∃ fd : FuncData, (∀ (s : Shared) (u : Value), BindsTo s fd ⟨[u], []⟩ [("_law_script", u)]) ∧ ∀ base : Heap, (K w.params).In base → base.Ns mainGlobals mg → FnOk l.prog w (K w.params) mg base (L2.CX l.prog w) 12 fa fd ["_law_script"] (spLaw (K w.params))) :
    PySem.W.WalkO q loose XP YP l.row.toRowW d [] (fun f vs => PySem.call f vs) :=
  L2.walk_of (n := 63) (k := 12) (x := "_law_script") (CX := fun w => L2.CX l.prog w) (sp := fun w => spLaw (K w.params)) hn (by decide) hdf ⟨rfl, by decide, by decide⟩ hY F (fun _ _ a ns hl _ hS => ⟨a, ns, rfl, hS, hl, fun _ => rfl⟩) fun _ _ _ _ _ z => law_CX z
end K48

open PySem PySem.W PyProof.Rows in
set_option maxRecDepth 100000 in
set_option maxHeartbeats 0 in
theorem PySem.Challenge.cw_farlanes_k48_programs_of_expressions_holds : PySem.Challenge.rw_farlanes_k48_programs_of_expressions.Holds := by
  w_on; o_law; k_head; (case hw => w_witness2)
  k_fill
  refine K48.walk (l := PySem.Challenge.rw_farlanes_k48_programs_of_expressions) rfl rfl (fun w h Y => PySem.W.kIn_of Y) ?F
  case F =>
    intro w mg fa h KX G hmg
    refine' K48.all_mk KX G hmg ?a_compiled ?l_compiled ?c_compiled ?k_compiled ?a_law_bag ?l_law_bag ?c_law_bag ?k_law_bag ?a_law_pull ?l_law_pull ?c_law_pull ?k_law_pull ?a_law_of ?l_law_of ?c_law_of ?k_law_of ?a_law_like ?l_law_like ?c_law_like ?k_law_like ?a_law_move ?l_law_move ?c_law_move ?k_law_move ?a_law_names ?l_law_names ?c_law_names ?k_law_names ?a_law_tree ?l_law_tree ?c_law_tree ?k_law_tree ?a_law_atom ?l_law_atom ?c_law_atom ?k_law_atom ?a_law_program ?l_law_program ?c_law_program ?k_law_program ?a_law ?l_law ?c_law ?k_law ?z_all ?z_bool ?z_int ?z_isinstance ?z_len ?z_list ?z_range ?z_str ?z_tuple
    (case a_compiled => k_is)
    (case l_compiled => k_is)
    (case c_compiled => k_is)
    (case k_compiled => k_is)
    (case a_law_bag => k_is)
    (case l_law_bag => k_is)
    (case c_law_bag => k_is)
    (case k_law_bag => k_is)
    (case a_law_pull => k_is)
    (case l_law_pull => k_is)
    (case c_law_pull => k_is)
    (case k_law_pull => k_is)
    (case a_law_of => k_is)
    (case l_law_of => k_is)
    (case c_law_of => k_is)
    (case k_law_of => k_is)
    (case a_law_like => k_is)
    (case l_law_like => k_is)
    (case c_law_like => k_is)
    (case k_law_like => k_is)
    (case a_law_move => k_is)
    (case l_law_move => k_is)
    (case c_law_move => k_is)
    (case k_law_move => k_is)
    (case a_law_names => k_is)
    (case l_law_names => k_is)
    (case c_law_names => k_is)
    (case k_law_names => k_is)
    (case a_law_tree => k_is)
    (case l_law_tree => k_is)
    (case c_law_tree => k_is)
    (case k_law_tree => k_is)
    (case a_law_atom => k_is)
    (case l_law_atom => k_is)
    (case c_law_atom => k_is)
    (case k_law_atom => k_is)
    (case a_law_program => k_is)
    (case l_law_program => k_is)
    (case c_law_program => k_is)
    (case k_law_program => k_is)
    (case a_law => k_is)
    (case l_law => k_is)
    (case c_law => k_is)
    (case k_law => k_is)
    (case z_all => k_is)
    (case z_bool => k_is)
    (case z_int => k_is)
    (case z_isinstance => k_is)
    (case z_len => k_is)
    (case z_list => k_is)
    (case z_range => k_is)
    (case z_str => k_is)
    (case z_tuple => k_is)
