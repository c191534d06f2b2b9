import PyProof.Rows.All
import Wide.All
import OpenK.AllK
import Wide.FinOn
import HandS.ForMost
import HandS.ForExc
import HandS.CallSlots
import HandS.Style
import HandS.TryOnly
import HandS.DeepEq
import HandS.TupAny
import HandS.TupMul
import HandS.Deep
import HandS.IsInst
import HandS.SetKeys
import KE.SortData
import HandS.RaiseMore
import HandS.TupLen
import HandS.WordsDict
import HandS.Conv
import HandS.More
import HandS.Small
import HandS.SortInts
import PyProof.Rows.SortShellAny
import HandS.SetFor
import HandS.Comp
import HandS.DictComp
import KE.GoesEnum
import HandS.Zip
import KE.KDictDisplayH
import HandS.Star
import HandS.SetBool
import HandS.SetTxt0
import HandS.Codes
import PySem.Challenge.RW_glancelogs_k12_least_rows_that_part_logs
set_option Elab.async false
set_option linter.all false
set_option maxRecDepth 100000
namespace VS
open PySem PySem.Spec PyProof.Rows L2
/-! ## data, ownership, what stands for what -/
inductive Tag where
  | tup | lst | dK (ks : List Key) | dT (ks : List (List Key)) | ins (C : Addr) (fs : List Str) | scr (o : Obj)
  | lkK (od : Obj) (vs : List V) (ks : List Key) | lkT (od : Obj) (vs : List V) (ks : List (List Key))
  | opq (u : Heap → Prop)
/-- plain data -/
inductive D where
  | bad | non | bl (b : Bool) | int (i : Int) | str (x : Str) | val (v : V) | nd (t : Tag) (ds : List D)
/-- data with what is owned (may be changed) -/
inductive O where
  | fz (d : D) | own (t : Tag) (os : List O)
mutual
def O.view : O → D
  | .fz d => d
  | .own t os => .nd t (O.views os)
def O.views : List O → List D
  | [] => []
  | o :: os => O.view o :: O.views os
end
theorem O.views_eq : ∀ os : List O, O.views os = os.map O.view
  | [] => rfl
  | o :: os => by rw [O.views, O.views_eq os]; rfl
theorem O.views_fz : ∀ ds : List D, O.views (ds.map O.fz) = ds
  | [] => rfl
  | d :: ds => by rw [List.map_cons, O.views, O.views_fz ds]; rfl
/-- how an object of a tag lies: its parts vs -/
def Shape : Tag → List V → HO → Prop
  | .tup, vs, o => o = .tup vs
  | .lst, vs, o => o = .lst vs
  | .dK ks, vs, o => ks.length = vs.length ∧ o = .dK (ks.zip vs)
  | .dT ks, vs, o => ks.length = vs.length ∧ o = .dT (ks.zip vs)
  | .ins C fs, vs, o => fs.length = vs.length ∧ ∃ dx, o = .ins C dx (fs.zip vs)
  | .scr ob, vs, o => o = .frz ob (.lst vs)
  | .lkK od vs0 ks, vs, o => vs = vs0 ∧ ks.length = vs.length ∧ o = .frz od (.dK (ks.zip vs))
  | .lkT od vs0 ks, vs, o => vs = vs0 ∧ ks.length = vs.length ∧ o = .frz od (.dT (ks.zip vs))
  | .opq u, vs, o => vs = [] ∧ o = .ext u
/-- may be written -/
def Tag.mut : Tag → Bool
  | .tup => false
  | .scr _ => false
  | _ => true
def cells (t : Tag) (a : Addr) : List Addr := if t.mut then [a] else []
/-- not a tuple, not locked -/
def NT : HO → Prop
  | .tup _ => False
  | .frz _ (.lst _) => False
  | _ => True
theorem Shape.nt {t : Tag} {vs : List V} {o : HO} (h : Shape t vs o) (m : t.mut = true) : NT o := by
  cases t with
  | tup => cases m
  | scr _ => cases m
  | lst => cases h; trivial
  | dK ks => obtain ⟨_, rfl⟩ := h; trivial
  | dT ks => obtain ⟨_, rfl⟩ := h; trivial
  | ins C fs => obtain ⟨_, dx, rfl⟩ := h; trivial
  | lkK _ _ _ => obtain ⟨_, _, rfl⟩ := h; trivial
  | lkT _ _ _ => obtain ⟨_, _, rfl⟩ := h; trivial
  | opq _ => obtain ⟨_, rfl⟩ := h; trivial
/-- never changes -/
def Fix : HO → Prop
  | .tup _ => True
  | .frz _ (.lst _) => True
  | _ => False
theorem Shape.fix {t : Tag} {vs : List V} {o : HO} (h : Shape t vs o) (m : t.mut = false) : Fix o := by
  cases t with
  | tup => cases h; trivial
  | scr _ => cases h; trivial
  | lst => cases m
  | dK ks => cases m
  | dT ks => cases m
  | ins C fs => cases m
  | lkK _ _ _ => cases m
  | lkT _ _ _ => cases m
  | opq _ => cases m
theorem NT.nfix {o : HO} (h : NT o) (g : Fix o) : False := by
  cases o with
  | frz ob u => cases u <;> first | exact h | exact g
  | _ => first | exact h | exact g
/-- a dict: it may be locked once it is frozen -/
def IsDi : HO → Prop
  | .dK _ => True
  | .dT _ => True
  | _ => False
/-- how a frozen thing lies -/
def ShapeF (t : Tag) (vs : List V) (o : HO) : Prop := Shape t vs o ∨ ∃ ob u, o = .frz ob u ∧ IsDi u ∧ Shape t vs u
/-- all that stands stays, dicts may be locked -/
def Same (G G' : Hp) : Prop := ∀ a o, G a = some o → G' a = some o ∨ (IsDi o ∧ ∃ ob, G' a = some (.frz ob o))
theorem Same.refl (G : Hp) : Same G G := fun _ _ h => .inl h
theorem Same.trans {G G1 G2 : Hp} (h : Same G G1) (h' : Same G1 G2) : Same G G2 := fun a o e => by
  rcases h a o e with q | ⟨d, ob, q⟩
  · exact h' a o q
  · rcases h' a _ q with z | ⟨z, _⟩
    · exact .inr ⟨d, ob, z⟩
    · exact z.elim
theorem Same.of {G G' : Hp} (h : L2.Same G G') : Same G G' := fun a o e => .inl (h a o e)
theorem Same.ex {G G' : Hp} (h : Same G G') {a : Addr} {o : HO} (e : G a = some o) (n : ¬ IsDi o) : G' a = some o := (h a o e).resolve_right fun q => n q.1
theorem Same.there {G G' : Hp} (h : Same G G') {a : Addr} {o : HO} (e : G a = some o) : G' a ≠ none := by
  rcases h a o e with q | ⟨_, _, q⟩ <;> rw [q] <;> simp
theorem ShapeF.same {G' : Hp} {a : Addr} {t : Tag} {vs : List V} {o : HO} (s : ShapeF t vs o) (h : G' a = some o ∨ (IsDi o ∧ ∃ ob, G' a = some (.frz ob o))) : ∃ o', G' a = some o' ∧ ShapeF t vs o' := by
  rcases h with q | ⟨d, ob, q⟩
  · exact ⟨o, q, s⟩
  · refine ⟨_, q, .inr ⟨ob, o, rfl, d, ?_⟩⟩
    rcases s with s | ⟨ob', u, rfl, _, _⟩
    · exact s
    · exact d.elim
def Tag.di : Tag → Bool
  | .dK _ => true
  | .dT _ => true
  | _ => false
/-- what is no dict lies as it lies -/
theorem ShapeF.ex {t : Tag} {vs : List V} {o : HO} (s : ShapeF t vs o) (h : t.di = false) : Shape t vs o := by
  rcases s with s | ⟨ob, u, rfl, d, s⟩
  · exact s
  · cases t with
    | tup => cases s; exact d.elim
    | lst => cases s; exact d.elim
    | scr o => cases s; exact d.elim
    | ins C fs => obtain ⟨_, _, rfl⟩ := s; exact d.elim
    | lkK _ _ _ => obtain ⟨_, _, rfl⟩ := s; exact d.elim
    | lkT _ _ _ => obtain ⟨_, _, rfl⟩ := s; exact d.elim
    | opq _ => obtain ⟨_, rfl⟩ := s; exact d.elim
    | _ => cases h
theorem ShapeF.dK {ks : List Key} {vs : List V} {o : HO} (s : ShapeF (.dK ks) vs o) : ks.length = vs.length ∧ (o = .dK (ks.zip vs) ∨ ∃ ob, o = .frz ob (.dK (ks.zip vs))) := by
  rcases s with ⟨h, rfl⟩ | ⟨ob, u, rfl, _, h, rfl⟩
  · exact ⟨h, .inl rfl⟩
  · exact ⟨h, .inr ⟨ob, rfl⟩⟩
theorem ShapeF.dT {ks : List (List Key)} {vs : List V} {o : HO} (s : ShapeF (.dT ks) vs o) : ks.length = vs.length ∧ (o = .dT (ks.zip vs) ∨ ∃ ob, o = .frz ob (.dT (ks.zip vs))) := by
  rcases s with ⟨h, rfl⟩ | ⟨ob, u, rfl, _, h, rfl⟩
  · exact ⟨h, .inl rfl⟩
  · exact ⟨h, .inr ⟨ob, rfl⟩⟩
mutual
inductive Rp (G : Hp) : V → D → Prop
  | bad {v} : Rp G v .bad
  | non : Rp G .non .non
  | bl {b} : Rp G (.bl b) (.bl b)
  | int {i} : Rp G (.int i) (.int i)
  | str {x} : Rp G (.str x) (.str x)
  | val {v} : Rp G v (.val v)
  | nd {a o t vs ds} : G a = some o → ShapeF t vs o → Rps G vs ds → Rp G (.ref a) (.nd t ds)
inductive Rps (G : Hp) : List V → List D → Prop
  | nil : Rps G [] []
  | cons {v d vs ds} : Rp G v d → Rps G vs ds → Rps G (v :: vs) (d :: ds)
end
mutual
inductive Ow (G H : Hp) : V → O → List Addr → Prop
  | fz {v d} : Rp G v d → Ow G H v (.fz d) []
  | own {a o t vs os F} : H a = some o → Shape t vs o → Ows G H vs os F → Ow G H (.ref a) (.own t os) (cells t a ++ F)
inductive Ows (G H : Hp) : List V → List O → List Addr → Prop
  | nil : Ows G H [] [] []
  | cons {v o vs os F1 F2} : Ow G H v o F1 → Ows G H vs os F2 → Ows G H (v :: vs) (o :: os) (F1 ++ F2)
end
section
variable {G G' H H' : Hp}
mutual
theorem Rp.mono {v : V} {d : D} (e : Same G G') : Rp G v d → Rp G' v d
  | .bad => .bad
  | .non => .non
  | .bl => .bl
  | .int => .int
  | .str => .str
  | .val => .val
  | .nd h s r => let ⟨_, q1, q2⟩ := s.same (e _ _ h); .nd q1 q2 (Rps.mono e r)
theorem Rps.mono {vs : List V} {ds : List D} (e : Same G G') : Rps G vs ds → Rps G' vs ds
  | .nil => .nil
  | .cons a r => .cons (Rp.mono e a) (Rps.mono e r)
end
theorem Rps.length : ∀ {vs : List V} {ds : List D}, Rps G vs ds → vs.length = ds.length
  | _, _, .nil => rfl
  | _, _, .cons _ r => by rw [List.length_cons, List.length_cons, Rps.length r]
theorem Ows.length : ∀ {vs : List V} {os : List O} {F}, Ows G H vs os F → vs.length = os.length
  | _, _, _, .nil => rfl
  | _, _, _, .cons _ r => by rw [List.length_cons, List.length_cons, Ows.length r]
mutual
theorem Ow.chg {v : V} {o : O} {F : List Addr} (g : Same G G') (hF : ∀ a ∈ F, H' a = H a) (hT : ∀ a o, H a = some o → Fix o → H' a = some o) : Ow G H v o F → Ow G' H' v o F
  | .fz r => .fz (r.mono g)
  | .own (a := a) (t := t) h s r => .own (by
      cases m : t.mut with
      | true => rw [hF a (by unfold cells; rw [m]; simp)]; exact h
      | false => exact hT _ _ h (s.fix m)) s (Ows.chg g (fun b hb => hF b (List.mem_append_right _ hb)) hT r)
theorem Ows.chg {vs : List V} {os : List O} {F : List Addr} (g : Same G G') (hF : ∀ a ∈ F, H' a = H a) (hT : ∀ a o, H a = some o → Fix o → H' a = some o) : Ows G H vs os F → Ows G' H' vs os F
  | .nil => .nil
  | .cons a r => .cons (Ow.chg g (fun b hb => hF b (List.mem_append_left _ hb)) hT a) (Ows.chg g (fun b hb => hF b (List.mem_append_right _ hb)) hT r)
end
mutual
theorem Ow.trk {v : V} {o : O} {F : List Addr} : Ow G H v o F → ∀ a ∈ F, ∃ x, H a = some x ∧ NT x
  | .fz _ => fun _ h => nomatch h
  | .own (a := a) (t := t) h s r => fun b hb => by
      rcases List.mem_append.mp hb with q | q
      · unfold cells at q
        cases m : t.mut with
        | true =>
          rw [m] at q
          obtain rfl : b = a := by simpa using q
          exact ⟨_, h, s.nt m⟩
        | false =>
          rw [m] at q
          simp at q
      · exact Ows.trk r b q
theorem Ows.trk {vs : List V} {os : List O} {F : List Addr} : Ows G H vs os F → ∀ a ∈ F, ∃ x, H a = some x ∧ NT x
  | .nil => fun _ h => nomatch h
  | .cons a r => fun b hb => by
      rcases List.mem_append.mp hb with q | q
      · exact Ow.trk a b q
      · exact Ows.trk r b q
end
/-- G with S and all that never changes -/
noncomputable def ext (G H : Hp) (S : List Addr) : Hp := fun a => match G a with
  | some o => some o
  | none => open Classical in if a ∈ S ∨ ∃ o, H a = some o ∧ Fix o then H a else none
theorem ext_same {S : List Addr} : Same G (ext G H S) := fun a o h => .inl (by unfold ext; rw [h])
theorem ext_sub {S : List Addr} (g : Same G H) : Same (ext G H S) H := fun a o h => by
  unfold ext at h
  split at h
  · rename_i q
    cases h
    exact g _ _ q
  · split at h
    · exact .inl h
    · cases h
theorem nfix_frz {ob : Obj} {u : HO} (d : IsDi u) : ¬ Fix (.frz ob u) := by
  cases u <;> first | exact False.elim d | exact fun z => z
theorem ext_at {S : List Addr} {a : Addr} {o : HO} (g : Same G H) (h : H a = some o) (hs : (a ∈ S ∧ G a = none) ∨ Fix o) : ext G H S a = some o := by
  unfold ext
  split
  · rename_i q
    rcases hs with ⟨_, hn⟩ | f
    · rw [hn] at q; cases q
    · rcases g _ _ q with z | ⟨d, ob, z⟩
      · rw [z] at h; exact h
      · rw [z] at h
        cases h
        exact absurd f (nfix_frz d)
  · rw [if_pos]
    · exact h
    · exact hs.elim (fun q => .inl q.1) fun q => .inr ⟨o, h, q⟩
theorem ext_none {S : List Addr} {a : Addr} (h : G a = none) (hs : a ∉ S) (hf : ∀ o, H a = some o → ¬ Fix o) : ext G H S a = none := by
  unfold ext
  rw [h]
  show (open Classical in if a ∈ S ∨ ∃ o, H a = some o ∧ Fix o then H a else none) = none
  rw [if_neg]
  rintro (q | ⟨o, q, f⟩)
  · exact hs q
  · exact hf o q f
mutual
theorem Ow.frz {v : V} {o : O} {F S : List Addr} (g : Same G H) (hF : ∀ a ∈ F, a ∈ S ∧ G a = none) : Ow G H v o F → Rp (ext G H S) v o.view
  | .fz r => r.mono ext_same
  | .own (a := a) (t := t) h s r => .nd (ext_at g h (by
      cases m : t.mut with
      | true => exact .inl (hF a (by unfold cells; rw [m]; simp))
      | false => exact .inr (s.fix m))) (.inl s) (Ows.frz g (fun b hb => hF b (List.mem_append_right _ hb)) r)
theorem Ows.frz {vs : List V} {os : List O} {F S : List Addr} (g : Same G H) (hF : ∀ a ∈ F, a ∈ S ∧ G a = none) : Ows G H vs os F → Rps (ext G H S) vs (O.views os)
  | .nil => .nil
  | .cons a r => .cons (Ow.frz g (fun b hb => hF b (List.mem_append_left _ hb)) a) (Ows.frz g (fun b hb => hF b (List.mem_append_right _ hb)) r)
end
/-! ### lists of them -/
theorem Ows.append {vs1 vs2 : List V} {os1 os2 : List O} {F1 F2 : List Addr} (a : Ows G H vs1 os1 F1) (b : Ows G H vs2 os2 F2) : Ows G H (vs1 ++ vs2) (os1 ++ os2) (F1 ++ F2) := by
  induction vs1 generalizing os1 F1 with
  | nil => cases a; exact b
  | cons v vs ih =>
    cases a with
    | cons x r => rw [List.append_assoc]; exact .cons x (ih r)
theorem Ows.split {vs1 vs2 : List V} {os1 os2 : List O} {F : List Addr} (a : Ows G H (vs1 ++ vs2) (os1 ++ os2) F) (hl : vs1.length = os1.length) : ∃ F1 F2, F = F1 ++ F2 ∧ Ows G H vs1 os1 F1 ∧ Ows G H vs2 os2 F2 := by
  induction vs1 generalizing os1 F with
  | nil => cases os1 with
    | nil => exact ⟨[], F, rfl, .nil, a⟩
    | cons _ _ => cases hl
  | cons v vs ih =>
    cases os1 with
    | nil => cases hl
    | cons o os =>
      cases a with
      | cons x r =>
        obtain ⟨F1, F2, rfl, q1, q2⟩ := ih r (by simpa using hl)
        exact ⟨_, _, by rw [List.append_assoc], .cons x q1, q2⟩
abbrev O.bad : O := .fz .bad
/-- the i-th is taken out -/
theorem Ows.take : ∀ {vs : List V} {os : List O} {F : List Addr} {i : Nat} {o : O}, Ows G H vs os F → os[i]? = some o → ∃ v F1 F2, vs[i]? = some v ∧ Ow G H v o F1 ∧ Ows G H vs (os.set i O.bad) F2 ∧ F.Perm (F1 ++ F2)
  | _, _, _, i, o, .nil, h => by simp at h
  | _, _, _, 0, o, .cons a r, h => by
    obtain rfl : _ = o := by simpa using h
    exact ⟨_, _, _, rfl, a, .cons (.fz .bad) r, List.Perm.refl _⟩
  | _, _, _, i + 1, o, .cons (F1 := G1) a r, h => by
    obtain ⟨v, F1, F2, h1, h2, h3, h4⟩ := Ows.take (i := i) (o := o) r (by simpa using h)
    refine ⟨v, F1, G1 ++ F2, by simpa using h1, h2, .cons a h3, ?_⟩
    refine (List.Perm.append_left _ h4).trans ?_
    rw [← List.append_assoc, ← List.append_assoc]
    exact List.Perm.append_right _ List.perm_append_comm
theorem Ows.put : ∀ {vs : List V} {os : List O} {F2 F1 : List Addr} {i : Nat} {o : O} {v : V}, Ows G H vs os F2 → os[i]? = some O.bad → vs[i]? = some v → Ow G H v o F1 → ∃ F, Ows G H vs (os.set i o) F ∧ F.Perm (F1 ++ F2)
  | _, _, _, _, i, o, _, .nil, h, _, _ => by simp at h
  | _, _, _, _, 0, o, v, .cons (F1 := G1) a r, h, hv, x => by
    simp only [List.getElem?_cons_zero, Option.some.injEq] at h hv
    subst h hv
    cases a
    exact ⟨_, .cons x r, by simp⟩
  | _, _, _, F1, i + 1, o, v, .cons (F1 := G1) (F2 := G2) a r, h, hv, x => by
    obtain ⟨F, h1, h2⟩ := Ows.put (i := i) (o := o) (v := v) r (by simpa using h) (by simpa using hv) x
    refine ⟨G1 ++ F, .cons a h1, (List.Perm.append_left _ h2).trans ?_⟩
    rw [← List.append_assoc, ← List.append_assoc]
    exact List.Perm.append_right _ List.perm_append_comm
/-- behind bad any value may stand -/
theorem Ows.reval : ∀ {vs : List V} {os : List O} {F : List Addr} {i : Nat} {v : V}, Ows G H vs os F → os[i]? = some O.bad → Ows G H (vs.set i v) os F
  | _, _, _, i, _, .nil, h => by simp at h
  | _, _, _, 0, _, .cons a r, h => by
    simp only [List.getElem?_cons_zero, Option.some.injEq] at h
    subst h
    cases a
    exact .cons (.fz .bad) r
  | _, _, _, i + 1, _, .cons a r, h => .cons a (Ows.reval (i := i) r (by simpa using h))
end
/-! ### apart -/
/-- all of os stands for vs, apart; A: places that are kept for something else -/
def SepA (A : List Addr) (G H : Hp) (vs : List V) (os : List O) : Prop :=
  ∃ F, Ows G H vs os F ∧ (A ++ F).Nodup ∧ (∀ a ∈ A ++ F, G a = none) ∧ (∀ a ∈ A, ∃ o, H a = some o ∧ NT o) ∧ Same G H
abbrev Sep (G H : Hp) (vs : List V) (os : List O) : Prop := SepA [] G H vs os
section
variable {A : List Addr} {G G' H H' : Hp} {vs ws : List V} {os ps : List O} {v : V} {o : O} {a : Addr}
theorem SepA.length (s : SepA A G H vs os) : vs.length = os.length := by obtain ⟨F, h, _⟩ := s; exact h.length
theorem SepA.same (s : SepA A G H vs os) : Same G H := by obtain ⟨F, _, _, _, _, h⟩ := s; exact h
theorem SepA.perm {F F' : List Addr} (p : F.Perm F') (h : Ows G H vs os F') (nd : (A ++ F).Nodup) (hG : ∀ a ∈ A ++ F, G a = none) (hA : ∀ a ∈ A, ∃ o, H a = some o ∧ NT o) (g : Same G H) : SepA A G H vs os :=
  ⟨F', h, ((List.Perm.append_left A p).nodup_iff).mp nd, fun a ha => hG a ((List.Perm.append_left A p).mem_iff.mpr ha), hA, g⟩
theorem SepA.of_sub {F F' : List Addr} (sub : F'.Sublist F) (h : Ows G H vs os F') (nd : (A ++ F).Nodup) (hG : ∀ a ∈ A ++ F, G a = none) (hA : ∀ a ∈ A, ∃ o, H a = some o ∧ NT o) (g : Same G H) : SepA A G H vs os :=
  ⟨F', h, nd.sublist (List.Sublist.append_left sub A), fun a ha => hG a ((List.Sublist.append_left sub A).subset ha), hA, g⟩
/-- forget the first -/
theorem SepA.tail (s : SepA A G H (v :: vs) (o :: os)) : SepA A G H vs os := by
  obtain ⟨F, h, nd, hG, hA, g⟩ := s
  cases h with
  | cons x r => exact .of_sub (List.sublist_append_right _ _) r nd hG hA g
theorem SepA.swap {v1 v2 : V} {o1 o2 : O} (s : SepA A G H (v1 :: v2 :: vs) (o1 :: o2 :: os)) : SepA A G H (v2 :: v1 :: vs) (o2 :: o1 :: os) := by
  obtain ⟨F, h, nd, hG, hA, g⟩ := s
  cases h with
  | cons x r =>
    cases r with
    | cons y r =>
      refine .perm ?_ (.cons y (.cons x r)) nd hG hA g
      rw [← List.append_assoc, ← List.append_assoc]
      exact List.Perm.append_right _ List.perm_append_comm
/-- a first group behind a second one -/
theorem SepA.rot {vs2 : List V} {os2 : List O} (s : SepA A G H (ws ++ (vs2 ++ vs)) (ps ++ (os2 ++ os))) (h1 : ws.length = ps.length) (h2 : vs2.length = os2.length) : SepA A G H (vs2 ++ (ws ++ vs)) (os2 ++ (ps ++ os)) := by
  obtain ⟨F, h, nd, hG, hA, g⟩ := s
  obtain ⟨F1, F', rfl, q1, q⟩ := h.split h1
  obtain ⟨F2, F3, rfl, q2, q3⟩ := q.split h2
  refine .perm ?_ (q2.append (q1.append q3)) nd hG hA g
  rw [← List.append_assoc, ← List.append_assoc]
  exact List.Perm.append_right _ List.perm_append_comm
theorem SepA.one {vs2 : List V} {os2 : List O} (s : SepA A G H (v :: (vs2 ++ vs)) (o :: (os2 ++ os))) (h2 : vs2.length = os2.length) : SepA A G H (vs2 ++ (v :: vs)) (os2 ++ (o :: os)) :=
  SepA.rot (ws := [v]) (ps := [o]) s rfl h2
theorem SepA.unone {vs2 : List V} {os2 : List O} (s : SepA A G H (vs2 ++ (v :: vs)) (os2 ++ (o :: os))) (h2 : vs2.length = os2.length) : SepA A G H (v :: (vs2 ++ vs)) (o :: (os2 ++ os)) :=
  SepA.rot (ws := vs2) (ps := os2) (vs2 := [v]) (os2 := [o]) s h2 rfl
/-- the i-th to the front -/
theorem SepA.take {i : Nat} (s : SepA A G H vs os) (h : os[i]? = some o) : ∃ v, vs[i]? = some v ∧ SepA A G H (v :: vs) (o :: os.set i O.bad) := by
  obtain ⟨F, h0, nd, hG, hA, g⟩ := s
  obtain ⟨v, F1, F2, h1, h2, h3, h4⟩ := h0.take h
  exact ⟨v, h1, .perm h4 (.cons h2 h3) nd hG hA g⟩
theorem SepA.put {i : Nat} (s : SepA A G H (v :: vs) (o :: os)) (h : os[i]? = some O.bad) (hv : vs[i]? = some v) : SepA A G H vs (os.set i o) := by
  obtain ⟨F, h0, nd, hG, hA, g⟩ := s
  cases h0 with
  | cons x r =>
    obtain ⟨F', h1, h2⟩ := r.put h hv x
    exact .perm h2.symm h1 nd hG hA g
/-- the i-th is forgotten -/
theorem SepA.drop {i : Nat} (s : SepA A G H vs os) : SepA A G H vs (os.set i O.bad) := by
  cases h : os[i]? with
  | none => rw [List.set_eq_of_length_le (List.getElem?_eq_none_iff.mp h)]; exact s
  | some o =>
    obtain ⟨v, _, q⟩ := s.take h
    exact q.tail
theorem SepA.reval {i : Nat} (s : SepA A G H vs os) (h : os[i]? = some O.bad) : SepA A G H (vs.set i v) os := by
  obtain ⟨F, h0, r⟩ := s
  exact ⟨F, h0.reval h, r⟩
/-- the first into the i-th place, another value there -/
theorem SepA.store {i : Nat} (s : SepA A G H (v :: vs) (o :: os)) (hi : i < os.length) : SepA A G H (vs.set i v) (os.set i o) := by
  have hl : vs.length = os.length := by simpa using s.length
  have s1 : SepA A G H (v :: vs) (o :: os.set i O.bad) := SepA.drop (i := i + 1) s
  have hb : (o :: os.set i O.bad)[i + 1]? = some O.bad := by simp [hi]
  have s2 : SepA A G H (v :: vs.set i v) (o :: os.set i O.bad) := SepA.reval (i := i + 1) (v := v) s1 hb
  have s3 := SepA.put (i := i) s2 (by simp [hi]) (by simp [hl, hi])
  rw [List.set_set] at s3
  exact s3
/-- the i-th, frozen, is copied to the front -/
theorem SepA.copy {i : Nat} {d : D} (s : SepA A G H vs os) (h : os[i]? = some (.fz d)) : ∃ v, vs[i]? = some v ∧ Rp G v d ∧ SepA A G H (v :: vs) (.fz d :: os) := by
  obtain ⟨F, h0, nd, hG, hA, g⟩ := s
  obtain ⟨v, F1, F2, h1, h2, _⟩ := h0.take h
  cases h2 with
  | fz r => exact ⟨v, h1, r, F, .cons (.fz r) h0, nd, hG, hA, g⟩
/-- frozen data to the front -/
theorem SepA.cons {d : D} (s : SepA A G H vs os) (r : Rp G v d) : SepA A G H (v :: vs) (.fz d :: os) := by
  obtain ⟨F, h0, q⟩ := s
  exact ⟨F, .cons (.fz r) h0, q⟩
theorem SepA.conss {xs : List V} {ds : List D} (s : SepA A G H vs os) (r : Rps G xs ds) : SepA A G H (xs ++ vs) (ds.map O.fz ++ os) := by
  induction xs generalizing ds with
  | nil => cases r; exact s
  | cons x xs ih => cases r with
    | cons a r => exact (ih r).cons a
theorem SepA.rp {d : D} (s : SepA A G H (v :: vs) (.fz d :: os)) : Rp G v d := by
  obtain ⟨F, h0, _⟩ := s
  cases h0 with
  | cons a r => cases a with
    | fz r => exact r
theorem SepA.rps {xs : List V} {ds : List D} (s : SepA A G H (xs ++ vs) (ds.map O.fz ++ os)) (hl : xs.length = ds.length) : Rps G xs ds := by
  induction xs generalizing ds with
  | nil => cases ds with
    | nil => exact .nil
    | cons _ _ => cases hl
  | cons x xs ih => cases ds with
    | nil => cases hl
    | cons d ds => exact .cons s.rp (ih s.tail (by simpa using hl))
/-- open an owned thing -/
theorem SepA.open_ {t : Tag} (s : SepA A G H (v :: vs) (.own t ps :: os)) : ∃ a o ws, v = .ref a ∧ H a = some o ∧ Shape t ws o ∧ ws.length = ps.length ∧ SepA (cells t a ++ A) G H (ws ++ vs) (ps ++ os) := by
  obtain ⟨F, h0, nd, hG, hA, g⟩ := s
  cases h0 with
  | @cons _ _ _ _ F0 F2 x r =>
    cases x with
    | @own a o _ ws _ F1 h sh q =>
      have e : A ++ (cells t a ++ F1 ++ F2) = A ++ (cells t a ++ (F1 ++ F2)) := by rw [List.append_assoc]
      rw [e] at nd hG
      refine ⟨a, o, ws, rfl, h, sh, q.length, F1 ++ F2, q.append r, ?_, fun b hb => ?_, fun b hb => ?_, g⟩
      · rw [← List.append_assoc] at nd
        exact ((List.perm_append_comm.append_right _).nodup_iff).mp nd
      · refine hG b ?_
        simp only [List.mem_append] at hb ⊢
        rcases hb with (hb | hb) | hb
        · exact .inr (.inl hb)
        · exact .inl hb
        · exact .inr (.inr hb)
      · rcases List.mem_append.mp hb with q' | q'
        · unfold cells at q'
          cases m : t.mut with
          | true =>
            rw [m] at q'
            obtain rfl : b = a := by simpa using q'
            exact ⟨_, h, sh.nt m⟩
          | false => rw [m] at q'; simp at q'
        · exact hA b q'
/-- close it, another content -/
theorem SepA.close {t : Tag} {o : HO} (s : SepA (a :: A) G H (ws ++ vs) (ps ++ os)) (hl : ws.length = ps.length) (sh : Shape t ws o) (m : t.mut = true) : SepA A G (upd H a o) (.ref a :: vs) (.own t ps :: os) := by
  obtain ⟨F, h0, nd, hG, hA, g⟩ := s
  obtain ⟨F1, F2, rfl, q1, q2⟩ := h0.split hl
  have hc : cells t a = [a] := by unfold cells; rw [m]; rfl
  have na : ∀ b ∈ F1 ++ F2, b ≠ a := fun b hb e => by
    rw [List.cons_append, List.nodup_cons] at nd
    exact nd.1 (List.mem_append_right _ (e ▸ hb))
  obtain ⟨oa, ha, nt⟩ := hA a (List.mem_cons_self ..)
  have hT : ∀ b x, H b = some x → Fix x → upd H a o b = some x := fun b x hb f => by
    rw [upd_ne]
    · exact hb
    · rintro rfl
      rw [ha] at hb; cases hb
      exact nt.nfix f
  have hF : ∀ b ∈ F1 ++ F2, upd H a o b = H b := fun b hb => upd_ne (na b hb)
  refine ⟨cells t a ++ F1 ++ F2, .cons (.own upd_same sh (q1.chg (Same.refl _) (fun b hb => hF b (List.mem_append_left _ hb)) hT)) (q2.chg (Same.refl _) (fun b hb => hF b (List.mem_append_right _ hb)) hT), ?_, fun b hb => ?_, fun b hb => ?_, fun b x hb => ?_⟩
  · rw [hc]
    have e : A ++ ([a] ++ F1 ++ F2) = (A ++ [a]) ++ (F1 ++ F2) := by simp
    rw [e]
    have e2 : a :: A ++ (F1 ++ F2) = ([a] ++ A) ++ (F1 ++ F2) := rfl
    rw [e2] at nd
    exact ((List.perm_append_comm.append_right _).nodup_iff).mp nd
  · refine hG b ?_
    rw [hc] at hb
    simp only [List.mem_append, List.mem_cons, List.not_mem_nil, or_false] at hb ⊢
    rcases hb with hb | (hb | hb) | hb
    · exact .inl (.inr hb)
    · exact .inl (.inl hb)
    · exact .inr (.inl hb)
    · exact .inr (.inr hb)
  · obtain ⟨x, hx, nx⟩ := hA b (List.mem_cons_of_mem _ hb)
    rw [List.cons_append, List.nodup_cons] at nd
    refine ⟨x, ?_, nx⟩
    rw [upd_ne]
    · exact hx
    · rintro rfl
      exact nd.1 (List.mem_append_left _ hb)
  · have hba : b ≠ a := by
      rintro rfl
      have := hG b (List.mem_append_left _ (List.mem_cons_self ..))
      rw [this] at hb; cases hb
    rw [upd_ne hba]
    exact g b x hb
/-- nothing that stands is changed -/
theorem SepA.grow (s : SepA A G H vs os) (h : L2.Same H H') : SepA A G H' vs os := by
  obtain ⟨F, h0, nd, hG, hA, g⟩ := s
  refine ⟨F, h0.chg (Same.refl _) (fun b hb => ?_) (fun b x hb _ => h b x hb), nd, hG, fun b hb => ?_, g.trans (.of h)⟩
  · obtain ⟨x, hx, _⟩ := h0.trk b hb
    rw [hx]; exact h b x hx
  · obtain ⟨x, hx, nx⟩ := hA b hb
    exact ⟨x, h b x hx, nx⟩
theorem SepA.new {o : HO} (s : SepA A G H vs os) (hp : H a = none) (nt : NT o) : SepA (a :: A) G (upd H a o) vs os := by
  have sm : L2.Same H (upd H a o) := fun b x hb => by
    rw [upd_ne]
    · exact hb
    · rintro rfl
      rw [hp] at hb; cases hb
  obtain ⟨F, h0, nd, hG, hA, g⟩ := s.grow sm
  obtain ⟨F', h0', nd', hG', hA', g'⟩ := s
  refine ⟨F', h0'.chg (Same.refl _) (fun b hb => ?_) (fun b x hb _ => sm b x hb), ?_, fun b hb => ?_, fun b hb => ?_, g⟩
  · obtain ⟨x, hx, _⟩ := h0'.trk b hb
    rw [hx]; exact sm b x hx
  · rw [List.cons_append, List.nodup_cons]
    refine ⟨fun hb => ?_, nd'⟩
    rcases List.mem_append.mp hb with q | q
    · obtain ⟨x, hx, _⟩ := hA' a q
      rw [hp] at hx; cases hx
    · obtain ⟨x, hx, _⟩ := h0'.trk a q
      rw [hp] at hx; cases hx
  · rw [List.cons_append] at hb
    rcases List.mem_cons.mp hb with rfl | hb
    · cases q : G b with
      | none => rfl
      | some x => exact absurd hp (g'.there q)
    · exact hG' b hb
  · rcases List.mem_cons.mp hb with rfl | hb
    · exact ⟨o, upd_same, nt⟩
    · exact hA b hb
/-- a new owned thing of the first ones -/
theorem SepA.make {t : Tag} {o : HO} (s : SepA A G H (ws ++ vs) (ps ++ os)) (hp : H a = none) (hl : ws.length = ps.length) (sh : Shape t ws o) (m : t.mut = true) : SepA A G (upd H a o) (.ref a :: vs) (.own t ps :: os) := by
  have q := (s.new hp (sh.nt m)).close hl sh m
  rw [upd_upd] at q
  exact q
/-- a new tuple of the first ones -/
theorem SepA.makeT (s : SepA A G H (ws ++ vs) (ps ++ os)) (hp : H a = none) (hl : ws.length = ps.length) : SepA A G (upd H a (.tup ws)) (.ref a :: vs) (.own .tup ps :: os) := by
  have sm : L2.Same H (upd H a (.tup ws)) := fun b x hb => by
    rw [upd_ne]
    · exact hb
    · rintro rfl
      rw [hp] at hb; cases hb
  obtain ⟨F, h0, nd, hG, hA, g⟩ := s.grow sm
  obtain ⟨F1, F2, rfl, q1, q2⟩ := h0.split hl
  exact ⟨[] ++ F1 ++ F2, .cons (.own (t := .tup) upd_same rfl q1) q2, by simpa using nd, by simpa using hG, hA, g⟩
/-- the first is frozen -/
theorem SepA.freeze (s : SepA A G H (v :: vs) (o :: os)) : ∃ G', Same G G' ∧ SepA A G' H (v :: vs) (.fz o.view :: os) := by
  obtain ⟨F, h0, nd, hG, hA, g⟩ := s
  cases h0 with
  | cons x r =>
    rename_i F1 F2
    have nd1 := nd
    have hn : ∀ b ∈ A ++ F2, b ∉ F1 := fun b hb h1 => by
      rw [← List.append_assoc, List.nodup_append] at nd
      obtain ⟨n1, n2, n3⟩ := nd
      rw [List.nodup_append] at n1
      rcases List.mem_append.mp hb with q | q
      · exact n1.2.2 b q b h1 rfl
      · exact n3 b (List.mem_append_right _ h1) b q rfl
    refine ⟨ext G H F1, ext_same, F2,   .cons (.fz (x.frz g fun b hb => ⟨hb, hG b (List.mem_append_right _ (List.mem_append_left _ hb))⟩)) (r.chg ext_same (fun _ _ => rfl) fun _ _ h _ => h), ?_, fun b hb => ?_, hA, ext_sub g⟩
    · exact nd.sublist (List.Sublist.append_left (List.sublist_append_right _ _) A)
    · refine ext_none (hG b ?_) (hn b hb) fun o ho f => ?_
      · simp only [List.mem_append] at hb ⊢
        rcases hb with hb | hb
        · exact .inl hb
        · exact .inr (.inr hb)
      · rcases List.mem_append.mp hb with q | q
        · obtain ⟨x, hx, nx⟩ := hA b q
          rw [hx] at ho; cases ho
          exact nx.nfix f
        · obtain ⟨x, hx, nx⟩ := r.trk b q
          rw [hx] at ho; cases ho
          exact nx.nfix f
/-- G may grow by what never changes -/
theorem SepA.more (s : SepA A G H vs os) : SepA A (ext G H []) H vs os := by
  obtain ⟨F, h0, nd, hG, hA, g⟩ := s
  refine ⟨F, h0.chg ext_same (fun _ _ => rfl) (fun _ _ h _ => h), nd, fun b hb => ext_none (hG b hb) (by simp) fun o ho f => ?_, hA, ext_sub g⟩
  rcases List.mem_append.mp hb with q | q
  · obtain ⟨x, hx, nx⟩ := hA b q
    rw [hx] at ho; cases ho
    exact nx.nfix f
  · obtain ⟨x, hx, nx⟩ := h0.trk b q
    rw [hx] at ho; cases ho
    exact nx.nfix f
end
end VS
namespace VS
open PySem PySem.Spec PyProof.Rows L2
/-! ## readings over data -/
abbrev Cf := List O
/-- what is wanted of an exception: its class's name, its fields, the slots -/
abbrev XP := Str → List (Str × D) → Cf → Prop
abbrev DK := O → Cf → Prop
abbrev DE := XP → Cf → DK → Prop
abbrev DT := XP → Cf → (Bool → Cf → Prop) → Prop
structure En where
  nx : Cf → Prop
  rt : O → Cf → Prop
  bk : Cf → Prop
  ct : Cf → Prop
  ex : XP
abbrev DS := En → Cf → Prop
/-- what a def is worth: exceptions, arguments, result and arguments afterwards -/
abbrev Con := XP → List O → (O → List O → Prop) → Prop
def Mono (t : DE) : Prop := ∀ (E E' : XP) (c : Cf) (Q Q' : DK), (∀ n f c, E n f c → E' n f c) → (∀ o c, Q o c → Q' o c) → t E c Q → t E' c Q'
def MonoT (t : DT) : Prop := ∀ (E E' : XP) (c : Cf) (Q Q' : Bool → Cf → Prop), (∀ n f c, E n f c → E' n f c) → (∀ o c, Q o c → Q' o c) → t E c Q → t E' c Q'
def MonoS (t : DS) : Prop := ∀ (D D' : En) (c : Cf), (∀ c, D.nx c → D'.nx c) → (∀ o c, D.rt o c → D'.rt o c) → (∀ c, D.bk c → D'.bk c) → (∀ c, D.ct c → D'.ct c) → (∀ n f c, D.ex n f c → D'.ex n f c) → t D c → t D' c
def MonoC (t : Con) : Prop := ∀ (E E' : XP) (os : List O) (Q Q' : O → List O → Prop), (∀ n f c, E n f c → E' n f c) → (∀ o c, Q o c → Q' o c) → t E os Q → t E' os Q'
/-! ### slots -/
def vals (σ : L2.St) : List V := σ.map fun x => x.getD .non
def isBad : O → Bool
  | .fz .bad => true
  | _ => false
theorem isBad_iff {o : O} : isBad o = true ↔ o = O.bad := by
  cases o with
  | fz d => cases d <;> simp [isBad]
  | own t os => simp [isBad]
/-- what is known of a slot is there -/
def Slots (σ : L2.St) (c : Cf) : Prop := c.length = σ.length ∧ ∀ (i : Nat) (o : O), c[i]? = some o → isBad o = false → ∃ v, σ[i]? = some (some v)
theorem Slots.val {σ : L2.St} {c : Cf} (s : Slots σ c) {i : Nat} {o : O} (h : c[i]? = some o) (nb : isBad o = false) : ∃ v, σ[i]? = some (some v) ∧ (vals σ)[i]? = some v := by
  obtain ⟨v, e⟩ := s.2 i o h nb
  exact ⟨v, e, by simp [vals, e]⟩
theorem Slots.len {σ : L2.St} {c : Cf} (s : Slots σ c) : (vals σ).length = c.length := by rw [s.1]; simp [vals]
/-- a slot's content changes where it is -/
theorem Slots.setAt {σ : L2.St} {c : Cf} (s : Slots σ c) {i : Nat} {o o' : O} (h : c[i]? = some o') (nb : isBad o' = false) : Slots σ (c.set i o) := by
  refine ⟨by simpa using s.1, fun j p hj nj => ?_⟩
  by_cases e : i = j
  · subst e
    exact s.2 i o' h nb
  · rw [List.getElem?_set_ne e] at hj
    exact s.2 j p hj nj
theorem Slots.bad {σ : L2.St} {c : Cf} (s : Slots σ c) (i : Nat) : Slots σ (c.set i O.bad) := by
  refine ⟨by simpa using s.1, fun j p hj nj => ?_⟩
  by_cases e : i = j
  · subst e
    by_cases hi : i < c.length
    · rw [List.getElem?_set_self hi] at hj
      cases hj
      cases nj
    · rw [List.getElem?_eq_none (by simpa using hi)] at hj
      cases hj
  · rw [List.getElem?_set_ne e] at hj
    exact s.2 j p hj nj
theorem Slots.store {σ : L2.St} {c : Cf} (s : Slots σ c) {i : Nat} {o : O} {v : V} : Slots (σ.set i (some v)) (c.set i o) := by
  refine ⟨by simpa using s.1, fun j p hj nj => ?_⟩
  by_cases e : i = j
  · subst e
    by_cases hi : i < σ.length
    · exact ⟨v, by rw [List.getElem?_set_self hi]⟩
    · rw [List.getElem?_eq_none (by rw [List.length_set, s.1]; omega)] at hj
      cases hj
  · rw [List.getElem?_set_ne e] at hj ⊢
    exact s.2 j p hj nj
theorem vals_set {σ : L2.St} {i : Nat} {v : V} : vals (σ.set i (some v)) = (vals σ).set i v := by
  unfold vals
  rw [List.map_set]
  rfl
/-! ### from data to the heap -/
/-- the exception of class cls, its fields at d -/
def XIs (mg : Str → Option Value) (G H : Hp) (cls : Value) (d : Option Addr) (nm : Str) (fs : List (Str × D)) : Prop :=
  (mg nm = some cls ∨ (mg nm = none ∧ bootBuiltins nm = some cls)) ∧
    ((d = none ∧ fs = []) ∨ ∃ dx vs, d = some dx ∧ H dx = some (.xd ((fs.map (·.1)).zip vs)) ∧ Rps G vs (fs.map (·.2)))
def KX (mg : Str → Option Value) (W : WX) (σ : L2.St) (vsL : List V) (osL : List O) (G : Hp) : XP := fun nm fs c' =>
  ∀ cls d H' G', Same G G' → Slots σ c' → Sep G' H' (vals σ ++ vsL) (c' ++ osL) → XIs mg G' H' cls d nm fs → W cls d σ H'
def KE (σ : L2.St) (vsL : List V) (osL : List O) (G : Hp) (Q : VK) : DK := fun o c' =>
  ∀ v H' G', Same G G' → Slots σ c' → Sep G' H' (v :: (vals σ ++ vsL)) (o :: (c' ++ osL)) → Q v H'
def KT (σ : L2.St) (vsL : List V) (osL : List O) (G : Hp) (Q : Bool → Hp → Prop) : Bool → Cf → Prop := fun b c' =>
  ∀ H' G', Same G G' → Slots σ c' → Sep G' H' (vals σ ++ vsL) (c' ++ osL) → Q b H'
def liftE (mg : Str → Option Value) (W : WX) (t : DE) : TE := fun σ H Q => ∃ c G vsL osL, Slots σ c ∧ Sep G H (vals σ ++ vsL) (c ++ osL) ∧ t (KX mg W σ vsL osL G) c (KE σ vsL osL G Q)
def liftT (mg : Str → Option Value) (W : WX) (t : DT) : TT := fun σ H Q => ∃ c G vsL osL, Slots σ c ∧ Sep G H (vals σ ++ vsL) (c ++ osL) ∧ t (KX mg W σ vsL osL G) c (KT σ vsL osL G Q)
section
variable {mg : Str → Option Value} {W : WX} {σ : L2.St} {vsL : List V} {osL : List O} {G G' H : Hp} {c : Cf} {v : V} {o : O}
/-- the frame grows by what has been reckoned -/
theorem KX.more {nm : Str} {fs : List (Str × D)} (h : KX mg W σ vsL osL G nm fs c) (g : Same G G') : KX mg W σ (v :: vsL) (o :: osL) G' nm fs c :=
  fun cls d H' G2 g2 sl sp xi => h cls d H' G2 (g.trans g2) sl (SepA.unone sp sl.len).tail xi
theorem KX.grow {nm : Str} {fs : List (Str × D)} (h : KX mg W σ vsL osL G nm fs c) (g : Same G G') : KX mg W σ vsL osL G' nm fs c :=
  fun cls d H' G2 g2 sl sp xi => h cls d H' G2 (g.trans g2) sl sp xi
theorem KX.mores {ws : List V} {ps : List O} {nm : Str} {fs : List (Str × D)} (h : KX mg W σ vsL osL G nm fs c) (g : Same G G') (hl : ws.length = ps.length) : KX mg W σ (ws ++ vsL) (ps ++ osL) G' nm fs c :=
  fun cls d H' G2 g2 sl sp xi => h cls d H' G2 (g.trans g2) sl (by
    have q := SepA.rot (ws := vals σ) (ps := c) (vs2 := ws) (os2 := ps) sp sl.len hl
    have drops : ∀ {ws : List V} {ps : List O} {vs : List V} {os : List O}, ws.length = ps.length → Sep G2 H' (ws ++ vs) (ps ++ os) → Sep G2 H' vs os := by
      intro ws
      induction ws with
      | nil => intro ps vs os e s; cases ps with
        | nil => exact s
        | cons _ _ => cases e
      | cons w ws ih => intro ps vs os e s; cases ps with
        | nil => cases e
        | cons p ps => exact ih (by simpa using e) s.tail
    exact drops hl q) xi
theorem liftE.of {t : DE} {E : XP} {K : DK} {Q : VK} (m : Mono t) (sl : Slots σ c) (sp : Sep G H (vals σ ++ vsL) (c ++ osL)) (h : t E c K) (hE : ∀ n f c', E n f c' → KX mg W σ vsL osL G n f c')
    (hK : ∀ o c' v H' G', Same G G' → Slots σ c' → Sep G' H' (v :: (vals σ ++ vsL)) (o :: (c' ++ osL)) → K o c' → Q v H') : liftE mg W t σ H Q :=
  ⟨c, G, vsL, osL, sl, sp, m _ _ _ _ _ hE (fun o c' k v H' G' g sl' sp' => hK o c' v H' G' g sl' sp' k) h⟩
theorem liftT.of {t : DT} {E : XP} {K : Bool → Cf → Prop} {Q : Bool → Hp → Prop} (m : MonoT t) (sl : Slots σ c) (sp : Sep G H (vals σ ++ vsL) (c ++ osL)) (h : t E c K) (hE : ∀ n f c', E n f c' → KX mg W σ vsL osL G n f c')
    (hK : ∀ b c' H' G', Same G G' → Slots σ c' → Sep G' H' (vals σ ++ vsL) (c' ++ osL) → K b c' → Q b H') : liftT mg W t σ H Q :=
  ⟨c, G, vsL, osL, sl, sp, m _ _ _ _ _ hE (fun b c' k H' G' g sl' sp' => hK b c' H' G' g sl' sp' k) h⟩
end
/-! ### operands: a name's slot is looked at when all else has been reckoned -/
inductive Opd where
  | sl (i : Nat) | ex (t : DE)
def ob {α : Type} (x : Option α) (k : α → Prop) : Prop := match x with
  | some a => k a
  | none => False
theorem ob_some {α : Type} {a : α} {k : α → Prop} : ob (some a) k = k a := rfl
theorem ob_none {α : Type} {k : α → Prop} : ob none k = False := rfl
theorem ob_iff {α : Type} {x : Option α} {k : α → Prop} : ob x k ↔ ∃ a, x = some a ∧ k a := by
  cases x <;> simp [ob]
def evOps : List Opd → XP → Cf → (List O → Cf → Prop) → Prop
  | [], _, c, k => k [] c
  | .sl i :: r, E, c, k => ob c[i]? fun o => isBad o = false ∧ evOps r E c k
  | .ex t :: r, E, c, k => t E c fun o c1 => evOps r E c1 fun os c2 => k (o :: os) c2
def MonoO : List Opd → Prop
  | [] => True
  | .sl _ :: r => MonoO r
  | .ex t :: r => Mono t ∧ MonoO r
theorem evOps_mono : ∀ {ops : List Opd}, MonoO ops → ∀ (E E' : XP) (c : Cf) (Q Q' : List O → Cf → Prop), (∀ n f c, E n f c → E' n f c) → (∀ o c, Q o c → Q' o c) → evOps ops E c Q → evOps ops E' c Q'
  | [], _, E, E', c, Q, Q', hE, hQ, h => hQ _ _ h
  | .sl i :: r, m, E, E', c, Q, Q', hE, hQ, h => by
    obtain ⟨o, e, nb, h⟩ := ob_iff.mp h
    exact ob_iff.mpr ⟨o, e, nb, evOps_mono (ops := r) m E E' c Q Q' hE hQ h⟩
  | .ex t :: r, m, E, E', c, Q, Q', hE, hQ, h => m.1 E E' c _ _ hE (fun o c1 h1 => evOps_mono (ops := r) m.2 E E' c1 _ _ hE (fun os c2 h2 => hQ _ _ h2) h1) h
/-- the operands' values -/
def mergeV : List Opd → List V → List V → List V
  | [], _, _ => []
  | .sl i :: r, s, ts => (s[i]?.getD .non) :: mergeV r s ts
  | .ex _ :: r, s, [] => .non :: mergeV r s []
  | .ex _ :: r, s, t :: ts => t :: mergeV r s ts
def Opd.te (mg : Str → Option Value) (W : WX) : Opd → TE
  | .sl i => tVar i
  | .ex t => liftE mg W t
def tas (mg : Str → Option Value) (W : WX) : List Opd → TA
  | [] => tNil
  | o :: r => tCons (o.te mg W) (tas mg W r)
theorem ops_run {mg : Str → Option Value} {W : WX} {σ : L2.St} : ∀ {ops : List Opd} {c : Cf} {G H : Hp} {vsL : List V} {osL : List O} {E : XP} {K : List O → Cf → Prop} {R : List V → Hp → Prop}, MonoO ops → Slots σ c → Sep G H (vals σ ++ vsL) (c ++ osL) → evOps ops E c K →
    (∀ n f c', E n f c' → KX mg W σ vsL osL G n f c') →
    (∀ ts c' tvs H' G', Same G G' → Slots σ c' → tvs.length = ts.length → Sep G' H' (tvs ++ (vals σ ++ vsL)) (ts ++ (c' ++ osL)) → K ts c' → R (mergeV ops (vals σ) tvs) H') → tas mg W ops σ H R
  | [], c, G, H, vsL, osL, E, K, R, _, sl, sp, h, hE, hK => hK [] c [] H G (Same.refl _) sl rfl sp h
  | .sl i :: r, c, G, H, vsL, osL, E, K, R, m, sl, sp, h, hE, hK => by
    obtain ⟨o, e, nb, h⟩ := ob_iff.mp h
    obtain ⟨v, ev, ev2⟩ := sl.val e nb
    refine ⟨v, ev, ops_run (ops := r) m sl sp h hE fun ts c' tvs H' G' g sl' hl sp' k => ?_⟩
    have q := hK ts c' tvs H' G' g sl' hl sp' k
    simp only [mergeV, ev2, Option.getD_some] at q
    exact q
  | .ex t :: r, c, G, H, vsL, osL, E, K, R, m, sl, sp, h, hE, hK => by
    refine liftE.of m.1 sl sp h hE fun o c1 v H1 G1 g1 sl1 sp1 h1 => ?_
    refine ops_run (ops := r) m.2 sl1 (SepA.one sp1 sl1.len) h1 (fun n f c' q => (hE n f c' q).more g1) fun ts c' tvs H' G' g sl' hl sp' k => ?_
    have sp2 : Sep G' H' ((v :: tvs) ++ (vals σ ++ vsL)) ((o :: ts) ++ (c' ++ osL)) := by
      have q : Sep G' H' ((tvs ++ vals σ) ++ (v :: vsL)) ((ts ++ c') ++ (o :: osL)) := by rw [List.append_assoc, List.append_assoc]; exact sp'
      have q2 := SepA.unone q (by rw [List.length_append, List.length_append, hl, sl'.len])
      rw [List.append_assoc, List.append_assoc] at q2
      exact q2
    exact hK (o :: ts) c' (v :: tvs) H' G' (g1.trans g) sl' (by simp [hl]) sp2 k
/-! ### looking at what the operands hold -/
/-- what is owned within is not looked at -/
def O.tip : O → D
  | .fz d => d
  | .own _ _ => .bad
/-- the data as far as it is frozen, the outermost laid open -/
def O.sh : O → D
  | .fz d => d
  | .own t os => .nd t (os.map O.tip)
theorem O.tip_fzs : ∀ ds : List D, (ds.map O.fz).map O.tip = ds
  | [] => rfl
  | d :: ds => by rw [List.map_cons, List.map_cons, O.tip_fzs ds]; rfl
theorem O.sh_fzs (t : Tag) (ds : List D) : (O.own t (ds.map O.fz)).sh = .nd t ds := by rw [O.sh, O.tip_fzs]
/-- the data as it is read in the heap -/
def Sw (G H : Hp) : V → D → Prop
  | v, .nd t ds => ∃ a o vs, v = .ref a ∧ H a = some o ∧ ShapeF t vs o ∧ Rps G vs ds
  | v, d => Rp G v d
theorem Rp.sw {G H : Hp} {v : V} {d : D} (g : Same G H) (r : Rp G v d) : Sw G H v d := by
  cases r with
  | nd h s q =>
    obtain ⟨o', q1, q2⟩ := s.same (g _ _ h)
    exact ⟨_, _, _, rfl, q1, q2, q⟩
  | _ => first | exact Rp.bad | exact Rp.non | exact Rp.bl | exact Rp.int | exact Rp.str | exact Rp.val
theorem Ow.tip {G H : Hp} {v : V} {o : O} {F : List Addr} (h : Ow G H v o F) : Rp G v o.tip := by
  cases h with
  | fz r => exact r
  | own _ _ _ => exact .bad
theorem Ows.tips {G H : Hp} : ∀ {vs : List V} {os : List O} {F : List Addr}, Ows G H vs os F → Rps G vs (os.map O.tip)
  | _, _, _, .nil => .nil
  | _, _, _, .cons a r => .cons a.tip (Ows.tips r)
theorem Ow.sw {G H : Hp} {v : V} {o : O} {F : List Addr} (g : Same G H) (h : Ow G H v o F) : Sw G H v o.sh := by
  cases h with
  | fz r => exact r.sw g
  | own h s q => exact ⟨_, _, _, rfl, h, .inl s, q.tips⟩
mutual
/-- all of it, as it stands -/
theorem Ow.all {G H : Hp} {v : V} {o : O} {F : List Addr} (g : Same G H) : Ow G H v o F → Rp H v o.view
  | .fz r => r.mono g
  | .own h s q => .nd h (.inl s) (Ows.all g q)
theorem Ows.all {G H : Hp} {vs : List V} {os : List O} {F : List Addr} (g : Same G H) : Ows G H vs os F → Rps H vs (O.views os)
  | .nil => .nil
  | .cons a r => .cons (Ow.all g a) (Ows.all g r)
end
inductive Sws (G H : Hp) : List V → List D → Prop
  | nil : Sws G H [] []
  | cons {v d vs ds} : Sw G H v d → Sws G H vs ds → Sws G H (v :: vs) (d :: ds)
theorem Ows.sws {G H : Hp} (g : Same G H) : ∀ {vs : List V} {os : List O} {F : List Addr}, Ows G H vs os F → Sws G H vs (os.map O.sh)
  | _, _, _, .nil => .nil
  | _, _, _, .cons a r => .cons (a.sw g) (Ows.sws g r)
/-- what the operands hold -/
def opsO : List Opd → Cf → List O → Option (List O)
  | [], _, _ => some []
  | .sl i :: r, c, ts => c[i]?.bind fun o => (opsO r c ts).map (o :: ·)
  | .ex _ :: r, c, t :: ts => (opsO r c ts).map (t :: ·)
  | .ex _ :: _, _, [] => none
def shOps (ops : List Opd) (c : Cf) (ts : List O) : Option (List D) := (opsO ops c ts).map (·.map O.sh)
theorem ows_ops {G H : Hp} {ws : List V} {ps : List O} : ∀ {ops : List Opd} {vs : List V} {c : Cf} {tvs : List V} {ts os : List O}, Sep G H (tvs ++ (vs ++ ws)) (ts ++ (c ++ ps)) → tvs.length = ts.length → vs.length = c.length → opsO ops c ts = some os →
    ∃ F, Ows G H (mergeV ops vs tvs) os F
  | [], vs, c, tvs, ts, os, sp, hl, hc, h => by cases h; exact ⟨_, .nil⟩
  | .sl i :: r, vs, c, tvs, ts, os, sp, hl, hc, h => by
    obtain ⟨o, ho, h⟩ := Option.bind_eq_some_iff.mp h
    obtain ⟨os', hr, rfl⟩ := Option.map_eq_some_iff.mp h
    have sp0 := sp
    obtain ⟨F, h0, nd, hG, hA, g⟩ := sp
    obtain ⟨F1, F2, _, q1, q2⟩ := h0.split hl
    obtain ⟨F3, F4, _, q3, q4⟩ := q2.split hc
    obtain ⟨v, G1, G2, e1, e2, _⟩ := q3.take ho
    obtain ⟨F5, q5⟩ := ows_ops (ops := r) sp0 hl hc hr
    refine ⟨G1 ++ F5, .cons (v := (vs[i]?.getD .non)) ?_ q5⟩
    rw [e1]
    exact e2
  | .ex _ :: r, vs, c, [], [], os, sp, hl, hc, h => by cases h
  | .ex _ :: r, vs, c, [], _ :: _, os, sp, hl, hc, h => by cases hl
  | .ex _ :: r, vs, c, _ :: _, [], os, sp, hl, hc, h => by cases hl
  | .ex _ :: r, vs, c, tv :: tvs, t :: ts, os, sp, hl, hc, h => by
    obtain ⟨os', hr, rfl⟩ := Option.map_eq_some_iff.mp h
    obtain ⟨F5, q⟩ := ows_ops (ops := r) (SepA.tail sp) (by simpa using hl) hc hr
    obtain ⟨F, h0, nd, hG, hA, g⟩ := sp
    cases h0 with
    | cons a b => exact ⟨_, .cons a q⟩
theorem sws_ops {G H : Hp} {ws : List V} {ps : List O} {ops : List Opd} {vs : List V} {c : Cf} {tvs : List V} {ts : List O} {ds : List D} (sp : Sep G H (tvs ++ (vs ++ ws)) (ts ++ (c ++ ps))) (hl : tvs.length = ts.length) (hc : vs.length = c.length) (h : shOps ops c ts = some ds) :
    Sws G H (mergeV ops vs tvs) ds := by
  obtain ⟨os, h1, rfl⟩ := Option.map_eq_some_iff.mp h
  obtain ⟨F, q⟩ := ows_ops sp hl hc h1
  exact q.sws sp.same
/-! ### operations that read, and make at most new things -/
def NewS (G H G' H' : Hp) (v : V) (o : O) : Prop := Same G G' ∧ ∀ A vs os, SepA A G H vs os → SepA A G' H' (v :: vs) (o :: os)
abbrev Bf := List D → Option O
def PureR (r : List V → Hp → VK → Prop) (bf : Bf) : Prop := ∀ (G H : Hp) (vs : List V) (ds : List D) (o : O) (Q : VK), Same G H → Sws G H vs ds → bf ds = some o → (∀ v H' G', NewS G H G' H' v o → Q v H') → r vs H Q
/-- .. looking at what is owned, too -/
abbrev BfO := List O → Option O
def PureO (r : List V → Hp → VK → Prop) (bf : BfO) : Prop := ∀ (G H : Hp) (vs : List V) (os : List O) (F : List Addr) (o : O) (Q : VK), Same G H → Ows G H vs os F → bf os = some o → (∀ v H' G', NewS G H G' H' v o → Q v H') → r vs H Q
def bfD (b : Bf) : BfO := fun os => b (os.map O.sh)
theorem PureR.up {r : List V → Hp → VK → Prop} {b : Bf} (h : PureR r b) : PureO r (bfD b) := fun G H vs os F o Q g s e q => h G H vs _ o Q g (s.sws g) e q
def vPure (ops : List Opd) (bf : BfO) : DE := fun E c Q => evOps ops E c fun ts c1 => ob (opsO ops c1 ts) fun ds => ob (bf ds) fun o => Q o c1
theorem vPure_mono {ops : List Opd} {bf : BfO} (m : MonoO ops) : Mono (vPure ops bf) := fun E E' c Q Q' hE hQ h =>
  evOps_mono m E E' c _ _ hE (fun ts c1 h1 => by
    obtain ⟨ds, e1, h1⟩ := ob_iff.mp h1
    obtain ⟨o, e2, h1⟩ := ob_iff.mp h1
    exact ob_iff.mpr ⟨ds, e1, ob_iff.mpr ⟨o, e2, hQ _ _ h1⟩⟩) h
theorem dropN {G H : Hp} : ∀ {ws : List V} {ps : List O} {vs : List V} {os : List O} {A : List Addr}, ws.length = ps.length → SepA A G H (ws ++ vs) (ps ++ os) → SepA A G H vs os
  | [], [], _, _, _, _, s => s
  | [], _ :: _, _, _, _, e, _ => by cases e
  | _ :: _, [], _, _, _, e, _ => by cases e
  | w :: ws, p :: ps, _, _, _, e, s => dropN (ws := ws) (ps := ps) (by simpa using e) s.tail
theorem vPure_run {mg : Str → Option Value} {W : WX} {σ : L2.St} {H : Hp} {Q : VK} {ops : List Opd} {bf : BfO} {r : List V → Hp → VK → Prop} (m : MonoO ops) (p : PureO r bf) (h : liftE mg W (vPure ops bf) σ H Q) :
    tas mg W ops σ H fun vs H1 => r vs H1 Q := by
  obtain ⟨c, G, vsL, osL, sl, sp, h⟩ := h
  refine ops_run m sl sp h (fun _ _ _ q => q) fun ts c' tvs H' G' g sl' hl sp' k => ?_
  obtain ⟨ds, e1, k⟩ := ob_iff.mp k
  obtain ⟨o, e2, k⟩ := ob_iff.mp k
  obtain ⟨F, ow⟩ := ows_ops sp' hl sl'.len e1
  refine p G' H' _ ds F o Q sp'.same ow e2 fun v H2 G2 nw => ?_
  exact k v H2 G2 (g.trans nw.1) sl' (nw.2 _ _ _ (dropN hl sp'))
/-- scalars and things that are there: nothing new -/
theorem NewS.old {G H : Hp} {v : V} {d : D} (r : Rp G v d) : NewS G H G H v (.fz d) := ⟨Same.refl _, fun _ _ _ s => s.cons r⟩
/-- a new list (dict ..) of things that are there -/
theorem NewS.made {G H : Hp} {t : Tag} {a : Addr} {o : HO} {xs : List V} {ds : List D} (hp : H a = none) (r : Rps G xs ds) (sh : Shape t xs o) (m : t.mut = true) : NewS G H G (upd H a o) (.ref a) (.own t (ds.map O.fz)) :=
  ⟨Same.refl _, fun _ _ _ s => (s.conss r).make hp (by rw [List.length_map]; exact r.length) sh m⟩
theorem O.view_fzs (t : Tag) (ds : List D) : (O.own t (ds.map O.fz)).view = .nd t ds := by rw [O.view, O.views_fz]
/-- a new tuple, frozen at once -/
theorem NewS.tup {G H : Hp} {a : Addr} {xs : List V} {ds : List D} (g : Same G H) (hp : H a = none) (r : Rps G xs ds) : ∃ G', NewS G H G' (upd H a (.tup xs)) (.ref a) (.fz (.nd .tup ds)) := by
  have sm : L2.Same H (upd H a (.tup xs)) := fun b x hb => by
    rw [upd_ne]
    · exact hb
    · rintro rfl
      rw [hp] at hb; cases hb
  refine ⟨ext G (upd H a (.tup xs)) [], ext_same, fun A vs os s => ?_⟩
  have s2 := (s.grow sm).more
  exact s2.cons (.nd (ext_at (g.trans (.of sm)) upd_same (.inr trivial)) (.inl rfl) (r.mono ext_same))
end VS
namespace VS
open PySem PySem.Spec PyProof.Rows L2
/-! ## what is known ahead of a text -/
structure Fn where
  ps : List Str
  dv : List D
  kws : List (Nat × List Str × List Nat)
  C : Con
structure Sg where
  N : List Str
  fns : Str → Option Fn
  blt : Str → Bool
  cst : Str → Option V
  kit : Value → Value → Option Bool
  cls : Addr → Bool
def arr {α : Type} (ix : List Nat) (d : α) (l : List α) : List α := ix.map fun j => l.getD j d
def inv (ix : List Nat) : List Nat := (List.range ix.length).map fun j => ix.idxOf j
/-- a call with n values and the keywords ks puts the values, so arranged, into the parameters -/
def KwOk (K : PySem.W.Frag) (fd : FuncData) (ps : List Str) (n : Nat) (ks : List Str) (ix : List Nat) : Prop := ix.length = ps.length ∧ ix.Perm (List.range (n + ks.length)) ∧ (inv ix).Perm (List.range (n + ks.length)) ∧ ∀ (s : Shared) (us ws : List Value), K.In s.heap → us.length = n → ws.length = ks.length →
  BindsTo s fd ⟨us, ks.zip ws⟩ (ps.zip (arr ix .none (us ++ ws)))
/-- a contract as a promise of the hand layer -/
def liftC (mg : Str → Option Value) (n : Nat) (C : Con) : Sp := fun vs H Q E => vs.length = n ∧ ∃ os G vsL osL, vs.length = os.length ∧ Sep G H (vs ++ vsL) (os ++ osL) ∧
  C (fun nm fs os' => ∀ cls d H' G', Same G G' → os'.length = os.length → Sep G' H' (vs ++ vsL) (os' ++ osL) → XIs mg G' H' cls d nm fs → E cls d H') os
    (fun r os' => ∀ v H' G', Same G G' → os'.length = os.length → Sep G' H' (v :: (vs ++ vsL)) (r :: (os' ++ osL)) → Q v H')
/-- a def's promise where no repr is under way -/
structure FnG (P : Program) (w : World) (K : PySem.W.Frag) (mg : Str → Option Value) (base : Heap) (k : Nat) (f : Addr) (fd : FuncData) (ps : List Str) (sp : Sp) : Prop where
  many : ∀ vs H Q E, sp vs H Q E → vs.length = ps.length
  does : ∀ (A : Around) (outer : List Env) (s : Shared) (H : Hp) (args : Args) (us : List Value) (vs : List V) (Q : VK) (E : XK), Room k A ∧ A.guards = some [] → Env0 P w K mg base A outer s H → BindsTo s fd args (ps.zip us) → Vals vs us → sp vs H Q E →
    codeAny (model P w) A (.call (.ref f) args) (CR (L2.CX P w) outer P w H s Q E) s
theorem FnG.up {P : Program} {w : World} {K : PySem.W.Frag} {mg : Str → Option Value} {base : Heap} {j k : Nat} {f : Addr} {fd : FuncData} {ps : List Str} {sp : Sp} (F : FnG P w K mg base j f fd ps sp) (h : j ≤ k) : FnG P w K mg base k f fd ps sp :=
  ⟨F.many, fun A outer s H args us vs Q E hr => F.does A outer s H args us vs Q E ⟨hr.1.mono h, hr.2⟩⟩
structure GOk (Γ : Sg) (P : Program) (w : World) (K : PySem.W.Frag) (mg : Str → Option Value) (base : Heap) (k : Nat) : Prop where
  fn : ∀ x F, Γ.fns x = some F → MonoC F.C ∧ ∃ f fd dvs ds, mg x = some (.ref f) ∧ PySem.W.keepIn K (.ref f) = true ∧ Binds K fd F.ps ds ∧ Vals dvs ds ∧ Rps (fun _ => none) dvs F.dv ∧
    FnG P w K mg base k f fd F.ps (liftC mg F.ps.length F.C) ∧ ∀ q ∈ F.kws, KwOk K fd F.ps q.1 q.2.1 q.2.2
  blt : ∀ x, Γ.blt x = true → mg x = none
  cst : ∀ x v, Γ.cst x = some v → ∃ u, mg x = some u ∧ RelV v u
  kit : ∀ t u b, Γ.kit t u = some b → PySem.W.kitOne K t u = some b
  cls : ∀ C, Γ.cls C = true → Cls K C ∧ PySem.W.findIn K (.ref C) "__class__" = some (some (.builtin "object.__class__")) ∧ PySem.W.specialIn K (.builtin "object.__class__") "__get__" = some (some (.builtin "getset_descriptor.__get__")) ∧
    PySem.W.takesIn K (.builtin "object.__class__") = some true ∧ PySem.W.mroIn K C (.type "object") = some true
structure OkX (Γ : Sg) (sc : Scope) (k : Nat) (X : Cx) : Prop where
  N : X.N = Γ.N
  nd : X.N.Nodup
  kind : X.env.scope.kind = .function
  vis : ∀ x, (sc.names.lookup x = some .local ∨ sc.names.lookup x = some .cell ∨ sc.names.lookup x = some .free) → Vis X.env.scope x
  fre : ∀ x, sc.names.lookup x = some .free → X.env.scope.names.lookup x = some .cell ∨ X.env.scope.names.lookup x = some .free
  gl : ∀ x, sc.names.lookup x = some .globalImplicit → Gl X x
  loc : ∀ x, sc.names.lookup x = some .local → X.env.scope.names.lookup x = some .local
  cel : ∀ x, sc.names.lookup x = some .cell → X.env.scope.names.lookup x = some .cell ∧ X.fn x = true
  calm : X.calm = true
  room : Room k X.A
  gd : X.A.guards = some []
  pass : PassesOwn (model X.prog X.w) X.A X.env X.xe
  g : GOk Γ X.prog X.w X.K X.mg X.base k
def slotOf (Γ : Sg) (sc : Scope) (x : Str) : Option Nat := match sc.names.lookup x with
  | some .local => Γ.N.findIdx? (fun y => y == x)
  | some .cell => Γ.N.findIdx? (fun y => y == x)
  | some .free => Γ.N.findIdx? (fun y => y == x)
  | _ => none
theorem idx_at {N : List Str} {x : Str} {i : Nat} (h : N.findIdx? (fun y => y == x) = some i) : N[i]? = some x := by
  obtain ⟨hi, e, _⟩ := List.findIdx?_eq_some_iff_getElem.mp h
  rw [List.getElem?_eq_getElem hi]
  simpa using e
theorem slotOf_at {Γ : Sg} {sc : Scope} {x : Str} {i : Nat} (h : slotOf Γ sc x = some i) : Γ.N[i]? = some x ∧ (sc.names.lookup x = some .local ∨ sc.names.lookup x = some .cell ∨ sc.names.lookup x = some .free) := by
  unfold slotOf at h
  split at h
  · exact ⟨idx_at h, .inl (by assumption)⟩
  · exact ⟨idx_at h, .inr (.inl (by assumption))⟩
  · exact ⟨idx_at h, .inr (.inr (by assumption))⟩
  · cases h
/-- a slot that may be stored to -/
def asgOf (Γ : Sg) (sc : Scope) (x : Str) : Option Nat := match sc.names.lookup x with
  | some .local => Γ.N.findIdx? (fun y => y == x)
  | some .cell => Γ.N.findIdx? (fun y => y == x)
  | _ => none
theorem asgOf_at {Γ : Sg} {sc : Scope} {x : Str} {i : Nat} (h : asgOf Γ sc x = some i) : Γ.N[i]? = some x ∧ (sc.names.lookup x = some .local ∨ sc.names.lookup x = some .cell) := by
  unfold asgOf at h
  split at h
  · exact ⟨idx_at h, .inl (by assumption)⟩
  · exact ⟨idx_at h, .inr (by assumption)⟩
  · cases h
def plainName (x : Str) : Bool := !(x == ("__debug__" : Str)) && !(x == ("__classdict__" : Str)) && !(x == ("__name__" : Str))
theorem plainName_1 {x : Str} (h : plainName x = true) : (x == ("__debug__" : Str)) = false := by simp [plainName] at h; simp [h]
theorem plainName_2 {x : Str} (h : plainName x = true) : (x == ("__classdict__" : Str)) = false := by simp [plainName] at h; simp [h]
theorem plainName_3 {x : Str} (h : plainName x = true) : x ≠ "__name__" := by simp [plainName] at h; simp [h]
def isGl (sc : Scope) (x : Str) : Bool := match sc.names.lookup x with
  | some .globalImplicit => true
  | _ => false
theorem isGl_at {sc : Scope} {x : Str} (h : isGl sc x = true) : sc.names.lookup x = some .globalImplicit := by
  unfold isGl at h
  split at h
  · assumption
  · cases h
/-! ## expressions -/
section
variable (Γ : Sg) (sc : Scope) (k : Nat)
def VE (e : Expr) (t : DE) : Prop := Mono t ∧ ∀ X W, OkX Γ sc k X → Takes X W → PE X e (liftE X.mg W t)
def VO (e : Expr) (o : Opd) : Prop := MonoO [o] ∧ ∀ X W, OkX Γ sc k X → Takes X W → PE X e (o.te X.mg W)
def VT (e : Expr) (t : DT) : Prop := MonoT t ∧ ∀ X W, OkX Γ sc k X → Takes X W → PT X e (liftT X.mg W t)
def VA (es : List Expr) (ops : List Opd) : Prop := MonoO ops ∧ ∀ X W, OkX Γ sc k X → Takes X W → PA X es (tas X.mg W ops)
end
def noStar : Expr → Bool
  | .Starred .. => false
  | _ => true
theorem starEach_cons {e : Expr} {es : List Expr} {env : Env} (h : noStar e = true) : starEach (e :: es) env = (false, eval e env) :: starEach es env := by
  cases e <;> first | rfl | cases h
theorem backTo_plain {pos : Pos} {env : Env} : ∀ {es : List Expr}, es.all noStar = true → (backTo pos (starEach es env)).any (·.1) = false
  | [], _ => rfl
  | e :: es, h => by
    simp only [List.all_cons, Bool.and_eq_true] at h
    rw [starEach_cons h.1]
    show (false || (backTo pos (starEach es env)).any (·.1)) = false
    rw [backTo_plain h.2]
    rfl
section
variable {Γ : Sg} {sc : Scope} {k : Nat} {e : Expr} {es : List Expr} {t : DE} {o : Opd} {ops : List Opd}
theorem VA.nil : VA Γ sc k [] [] := ⟨trivial, fun _ _ _ _ => pa_nil⟩
theorem VA.cons (h : VO Γ sc k e o) (r : VA Γ sc k es ops) (n : noStar e = true) : VA Γ sc k (e :: es) (o :: ops) := by
  refine ⟨?_, fun X W ok tk => pa_cons (h.2 X W ok tk) (r.2 X W ok tk) (starEach_cons n)⟩
  have h1 := h.1
  cases o with
  | sl i => exact r.1
  | ex t => exact ⟨h1.1, r.1⟩
theorem VO.ex (h : VE Γ sc k e t) : VO Γ sc k e (.ex t) := ⟨⟨h.1, trivial⟩, h.2⟩
theorem VO.sl {x : Str} {pos : Pos} {i : Nat} (h : slotOf Γ sc x = some i) (p : plainName x = true) : VO Γ sc k (.Name x pos) (.sl i) := by
  refine ⟨trivial, fun X W ok tk => ?_⟩
  obtain ⟨h1, h2⟩ := slotOf_at h
  exact pe_var (by rw [ok.N]; exact h1) (ok.vis x h2) (plainName_1 p) (plainName_2 p)
/-! ### names read as values: what is owned is frozen where it stands -/
def vVar (i : Nat) : DE := fun _ c Q => ob c[i]? fun o => isBad o = false ∧ Q (.fz o.view) (c.set i (.fz o.view))
/-- the name is read for the last time: what is owned is handed on -/
def vMove (i : Nat) : DE := fun _ c Q => ob c[i]? fun o => isBad o = false ∧ Q o (c.set i O.bad)
def vC (d : D) : DE := fun _ c Q => Q (.fz d) c
theorem vVar_mono {i : Nat} : Mono (vVar i) := fun E E' c Q Q' hE hQ h => by
  obtain ⟨o, e, nb, h⟩ := ob_iff.mp h
  exact ob_iff.mpr ⟨o, e, nb, hQ _ _ h⟩
theorem vMove_mono {i : Nat} : Mono (vMove i) := fun E E' c Q Q' hE hQ h => by
  obtain ⟨o, e, nb, h⟩ := ob_iff.mp h
  exact ob_iff.mpr ⟨o, e, nb, hQ _ _ h⟩
theorem vC_mono {d : D} : Mono (vC d) := fun E E' c Q Q' hE hQ h => hQ _ _ h
theorem view_bad {o : O} (h : isBad (.fz o.view) = true) : isBad o = true := by
  cases o with
  | fz d => exact h
  | own t os => exact h
theorem set_app {α : Type} {xs ys : List α} {i : Nat} {a : α} (h : i < xs.length) : (xs ++ ys).set i a = xs.set i a ++ ys := by rw [List.set_append, if_pos h]
theorem getElem?_app {α : Type} {xs ys : List α} {i : Nat} {a : α} (h : xs[i]? = some a) : (xs ++ ys)[i]? = some a := by
  rw [List.getElem?_append_left (List.getElem?_eq_some_iff.mp h).1]
  exact h
theorem vVar_run {mg : Str → Option Value} {W : WX} {σ : L2.St} {H : Hp} {Q : VK} {i : Nat} (h : liftE mg W (vVar i) σ H Q) : tVar i σ H Q := by
  obtain ⟨c, G, vsL, osL, sl, sp, h⟩ := h
  obtain ⟨o, e, nb, h⟩ := ob_iff.mp h
  obtain ⟨v, e1, e2⟩ := sl.val e nb
  have hi : i < c.length := (List.getElem?_eq_some_iff.mp e).1
  refine ⟨v, e1, ?_⟩
  obtain ⟨v', e3, s1⟩ := sp.take (getElem?_app e)
  rw [getElem?_app e2] at e3
  obtain rfl : v = v' := Option.some.inj e3
  obtain ⟨G1, g1, s2⟩ := s1.freeze
  rw [set_app hi] at s2
  have s3 : Sep G1 H (vals σ ++ vsL) ((c.set i O.bad).set i (.fz o.view) ++ osL) := by
    have hb : ((c.set i O.bad) ++ osL)[i]? = some O.bad := getElem?_app (List.getElem?_set_self hi)
    have q := SepA.put (i := i) s2 hb (getElem?_app e2)
    rw [set_app (by rw [List.length_set]; exact hi)] at q
    exact q
  rw [List.set_set] at s3
  exact h v H G1 g1 (sl.setAt e nb) (s3.cons s2.rp)
theorem vMove_run {mg : Str → Option Value} {W : WX} {σ : L2.St} {H : Hp} {Q : VK} {i : Nat} (h : liftE mg W (vMove i) σ H Q) : tVar i σ H Q := by
  obtain ⟨c, G, vsL, osL, sl, sp, h⟩ := h
  obtain ⟨o, e, nb, h⟩ := ob_iff.mp h
  obtain ⟨v, e1, e2⟩ := sl.val e nb
  have hi : i < c.length := (List.getElem?_eq_some_iff.mp e).1
  refine ⟨v, e1, ?_⟩
  obtain ⟨v', e3, s1⟩ := sp.take (getElem?_app e)
  rw [getElem?_app e2] at e3
  obtain rfl : v = v' := Option.some.inj e3
  rw [set_app hi] at s1
  exact h v H G (Same.refl _) (sl.bad i) s1
theorem _root_.L2.PE.impV {X : Cx} {t u : TE} (h : PE X e t) (hi : ∀ σ H Q, u σ H Q → t σ H Q) : PE X e u := ⟨fun pins s σ H Q I q => h.run pins s σ H Q I (hi _ _ _ q)⟩
theorem _root_.L2.PT.impV {X : Cx} {t u : TT} (h : PT X e t) (hi : ∀ σ H Q, u σ H Q → t σ H Q) : PT X e u := ⟨fun pins s σ H Q I q => h.run pins s σ H Q I (hi _ _ _ q)⟩
theorem _root_.L2.PS.impV {X : Cx} {st : Stmt} {t u : TS} (h : PS X st t) (hi : ∀ D σ H, u D σ H → t D σ H) : PS X st u := ⟨fun pins s σ H D I q => h.run pins s σ H D I (hi _ _ _ q)⟩
theorem _root_.L2.PSs.impV {X : Cx} {st : List Stmt} {t u : TS} (h : PSs X st t) (hi : ∀ D σ H, u D σ H → t D σ H) : PSs X st u := ⟨fun pins s σ H D I q => h.run pins s σ H D I (hi _ _ _ q)⟩
theorem VE.var {x : Str} {pos : Pos} {i : Nat} (h : slotOf Γ sc x = some i) (p : plainName x = true) : VE Γ sc k (.Name x pos) (vVar i) :=
  ⟨vVar_mono, fun X W ok tk => ((VO.sl (k := k) h p).2 X W ok tk).impV fun _ _ _ => vVar_run⟩
theorem VE.move {x : Str} {pos : Pos} {i : Nat} (h : slotOf Γ sc x = some i) (p : plainName x = true) : VE Γ sc k (.Name x pos) (vMove i) :=
  ⟨vMove_mono, fun X W ok tk => ((VO.sl (k := k) h p).2 X W ok tk).impV fun _ _ _ => vMove_run⟩
theorem vC_run {mg : Str → Option Value} {W : WX} {σ : L2.St} {H : Hp} {Q : VK} {d : D} {v : V} (r : ∀ G : Hp, Rp G v d) (h : liftE mg W (vC d) σ H Q) : tC v σ H Q := by
  obtain ⟨c, G, vsL, osL, sl, sp, h⟩ := h
  exact h v H G (Same.refl _) sl (sp.cons (r G))
theorem VE.int {i : Int} {j : Nat} {pos : Pos} : VE Γ sc k (.Constant (.int i) j pos) (vC (.int i)) := ⟨vC_mono, fun X W ok tk => pe_int.impV fun _ _ _ => vC_run fun _ => .int⟩
theorem VE.bl {i : Bool} {j : Nat} {pos : Pos} : VE Γ sc k (.Constant (.bool i) j pos) (vC (.bl i)) := ⟨vC_mono, fun X W ok tk => pe_bl.impV fun _ _ _ => vC_run fun _ => .bl⟩
theorem VE.str {i : Str} {j : Nat} {pos : Pos} : VE Γ sc k (.Constant (.str i) j pos) (vC (.str i)) := ⟨vC_mono, fun X W ok tk => pe_str.impV fun _ _ _ => vC_run fun _ => .str⟩
theorem VE.non {j : Nat} {pos : Pos} : VE Γ sc k (.Constant .none j pos) (vC .non) := ⟨vC_mono, fun X W ok tk => pe_non.impV fun _ _ _ => vC_run fun _ => .non⟩
/-- a heapless value as data -/
def dOf : V → D
  | .non => .non
  | .bl b => .bl b
  | .int i => .int i
  | .str x => .str x
  | v => .val v
theorem dOf_rp {G : Hp} {v : V} : Rp G v (dOf v) := by cases v <;> first | exact .non | exact .bl | exact .int | exact .str | exact .val
theorem VE.cst {x : Str} {v : V} {pos : Pos} (g : isGl sc x = true) (h : Γ.cst x = some v) (p : plainName x = true) : VE Γ sc k (.Name x pos) (vC (dOf v)) := by
  refine ⟨vC_mono, fun X W ok tk => ?_⟩
  obtain ⟨u, h1, h2⟩ := ok.g.cst x v h
  exact (pe_glob (ok.gl x (isGl_at g)) h1 h2 (plainName_1 p)).impV fun _ _ _ => vC_run fun _ => dOf_rp
/-! ### operators -/
/-- an operation of values, all by one rule -/
def OpP (f : Value → Value → Sem Value) (bf : Bf) : Prop := ∀ X, X.calm = true → X.A.units + 64 < cLine → X.A.units < cLine → ∃ r : R2, OpR X f r ∧ PureR (fun vs H Q => ∃ x y, vs = [x, y] ∧ r x y H Q) bf
/-- .. looking at what is owned, too -/
def OpO (f : Value → Value → Sem Value) (bf : BfO) : Prop := ∀ X, X.calm = true → X.A.units + 65 < cLine → ∃ r : R2, OpR X f r ∧ PureO (fun vs H Q => ∃ x y, vs = [x, y] ∧ r x y H Q) bf
theorem OpP.up {f : Value → Value → Sem Value} {bf : Bf} (h : OpP f bf) : OpO f (bfD bf) := fun X c u => by
  obtain ⟨r, h1, h2⟩ := h X c (by omega) (by omega)
  exact ⟨r, h1, h2.up⟩
theorem room65 {k : Nat} {A : Around} (r : Room k A) : A.units + 65 < cLine := by have := r.un; omega
theorem MonoO.cons2 {a b : Opd} (h1 : MonoO [a]) (h2 : MonoO [b]) : MonoO [a, b] := by
  cases a with
  | sl i => exact h2
  | ex t => exact ⟨h1.1, h2⟩
theorem unpair {mg : Str → Option Value} {W : WX} {σ : L2.St} {H : Hp} {oa ob' : Opd} {R : V → V → Hp → Prop} (q : tas mg W [oa, ob'] σ H fun vs H1 => ∃ x y, vs = [x, y] ∧ R x y H1) : oa.te mg W σ H fun x H1 => ob'.te mg W σ H1 fun y H2 => R x y H2 := by
  have q2 : oa.te mg W σ H fun x H1 => ob'.te mg W σ H1 fun y H2 => ∃ x' y', [x, y] = [x', y'] ∧ R x' y' H2 := q
  have e : (fun x H1 => ob'.te mg W σ H1 fun y H2 => ∃ x' y', [x, y] = [x', y'] ∧ R x' y' H2) = (fun x H1 => ob'.te mg W σ H1 fun y H2 => R x y H2) := by
    funext x H1
    congr 1
    funext y H2
    refine propext ⟨fun ⟨x', y', e, z⟩ => ?_, fun z => ⟨x, y, rfl, z⟩⟩
    cases e
    exact z
  rw [e] at q2
  exact q2
theorem VE.bin {a b : Expr} {oa ob' : Opd} {op : Operator} {bf : BfO} {pos : Pos} (p : OpO (binaryOp op) bf) (ha : VO Γ sc k a oa) (hb : VO Γ sc k b ob') : VE Γ sc k (.BinOp a op b pos) (vPure [oa, ob'] bf) := by
  have m := MonoO.cons2 ha.1 hb.1
  refine ⟨vPure_mono m, fun X W ok tk => ?_⟩
  obtain ⟨r, h1, h2⟩ := p X ok.calm (room65 ok.room)
  refine (pe_op h1 (ha.2 X W ok tk) (hb.2 X W ok tk)).impV fun σ H Q h => ?_
  exact unpair (vPure_run m h2 h)
theorem VE.cmp {a b : Expr} {oa ob' : Opd} {op : CmpOp} {bf : BfO} {pos : Pos} (p : OpO (compareOp op) bf) (ha : VO Γ sc k a oa) (hb : VO Γ sc k b ob') (hm : behindInMarks op b = false) : VE Γ sc k (.Compare a [op] [b] pos) (vPure [oa, ob'] bf) := by
  have m := MonoO.cons2 ha.1 hb.1
  refine ⟨vPure_mono m, fun X W ok tk => ?_⟩
  obtain ⟨r, h1, h2⟩ := p X ok.calm (room65 ok.room)
  refine (pe_cmpR h1 (ha.2 X W ok tk) (hb.2 X W ok tk) hm).impV fun σ H Q h => ?_
  exact unpair (vPure_run m h2 h)
/-! ### tests -/
/-- a value's truth -/
def truD : D → Option Bool
  | .non => some false
  | .bl b => some b
  | .int i => some (i != 0)
  | .str x => if x.length ≤ sizeLine then some ((x.length : Int) != 0) else none
  | .nd .lst ds => some (!ds.isEmpty)
  | .nd .tup ds => some (!ds.isEmpty)
  | .nd (.scr _) ds => some (!ds.isEmpty)
  | _ => none
/-- an expression as a test -/
def vTru (o : Opd) : DT := fun E c Q => evOps [o] E c fun ts c1 => ob (shOps [o] c1 ts) fun ds => ob (ds.head?.bind truD) fun b => Q b c1
theorem vTru_mono {o : Opd} (m : MonoO [o]) : MonoT (vTru o) := fun E E' c Q Q' hE hQ h =>
  evOps_mono m E E' c _ _ hE (fun ts c1 h1 => by
    obtain ⟨ds, e1, h1⟩ := ob_iff.mp h1
    obtain ⟨o, e2, h1⟩ := ob_iff.mp h1
    exact ob_iff.mpr ⟨ds, e1, ob_iff.mpr ⟨o, e2, hQ _ _ h1⟩⟩) h
theorem truD_ok {K : PySem.W.Frag} {G H : Hp} {v : V} {d : D} {b : Bool} (h : Sw G H v d) (e : truD d = some b) : TruV K v H b := by
  cases d with
  | non => cases h; cases e; rfl
  | bl x => cases h; cases e; rfl
  | int x => cases h; cases e; rfl
  | str x =>
    cases h
    unfold truD at e
    dsimp only at e
    split at e
    · cases e; exact ⟨by assumption, rfl⟩
    · cases e
  | nd t ds =>
    obtain ⟨a, o, vs, rfl, ha, sh, r⟩ := h
    have hl := r.length
    have he : (!ds.isEmpty) = !vs.isEmpty := by cases r <;> rfl
    cases t with
    | lst =>
      obtain rfl := sh.ex rfl
      cases e
      exact .inl ⟨vs, .inl (.inl ha), he⟩
    | tup =>
      obtain rfl := sh.ex rfl
      cases e
      exact .inr (.inl ⟨vs, .inl (.inl ha), he⟩)
    | scr ob =>
      obtain rfl := sh.ex rfl
      cases e
      exact .inl ⟨vs, .inl (.inr ⟨_, ha⟩), he⟩
    | _ => cases e
  | _ => cases e
/-- the tests whose truth is just the value's -/
def plainTest : Expr → Bool
  | .BoolOp .. => false
  | .UnaryOp op _ _ => match op with
    | .Not => false
    | _ => true
  | .Compare .. => false
  | .IfExp .. => false
  | _ => true
theorem plainTest_eq {e : Expr} (h : plainTest e = true) (env : Env) (whole : Sem Value) : isTrue e env whole = (do let v ← whole; standAt e.pos; holding [v] (truthy v)) := by
  cases e with
  | UnaryOp op x pos => cases op <;> first | rfl | cases h
  | _ => first | rfl | cases h
theorem vTru_run {K : PySem.W.Frag} {mg : Str → Option Value} {W : WX} {σ : L2.St} {H : Hp} {Q : Bool → Hp → Prop} {o : Opd} (m : MonoO [o]) (h : liftT mg W (vTru o) σ H Q) : o.te mg W σ H fun x H' => ∃ b, TruV K x H' b ∧ Q b H' := by
  obtain ⟨c, G, vsL, osL, sl, sp, h⟩ := h
  have q : tas mg W [o] σ H (fun vs H' => ∃ b, (∀ x, vs = [x] → TruV K x H' b) ∧ Q b H') := by
    refine ops_run m sl sp h (fun _ _ _ q => q) fun ts c' tvs H' G' g sl' hl sp' k => ?_
    obtain ⟨ds, e1, k⟩ := ob_iff.mp k
    obtain ⟨b, e2, k⟩ := ob_iff.mp k
    obtain ⟨d, e3, e4⟩ := Option.bind_eq_some_iff.mp e2
    have w := sws_ops sp' hl sl'.len e1
    refine ⟨b, fun x hx => ?_, k H' G' g sl' (dropN hl sp')⟩
    rw [hx] at w
    cases w with
    | cons a r =>
      cases e3
      exact truD_ok a e4
  have e : (fun x H' => ∃ b, (∀ y, [x] = [y] → TruV K y H' b) ∧ Q b H') = (fun x H' => ∃ b, TruV K x H' b ∧ Q b H') := by
    funext x H'
    refine propext ⟨fun ⟨b, h1, h2⟩ => ⟨b, h1 x rfl, h2⟩, fun ⟨b, h1, h2⟩ => ⟨b, fun y hy => ?_, h2⟩⟩
    cases hy
    exact h1
  have q2 : o.te mg W σ H (fun x H' => ∃ b, (∀ y, [x] = [y] → TruV K y H' b) ∧ Q b H') := q
  rw [e] at q2
  exact q2
theorem VT.tru {o : Opd} (h : VO Γ sc k e o) (p : plainTest e = true) : VT Γ sc k e (vTru o) :=
  ⟨vTru_mono h.1, fun X W ok tk => (pt_truth (h.2 X W ok tk) fun _ => plainTest_eq p _ _).impV fun _ _ _ q => vTru_run h.1 q⟩
def boB : D → Option Bool
  | .bl b => some b
  | _ => none
/-- a comparison as a test -/
def vCmpT (ops : List Opd) (bf : BfO) : DT := fun E c Q => evOps ops E c fun ts c1 => ob (opsO ops c1 ts) fun ds => ob ((bf ds).map O.sh) fun o => ob (boB o) fun b => Q b c1
theorem vCmpT_mono {ops : List Opd} {bf : BfO} (m : MonoO ops) : MonoT (vCmpT ops bf) := fun E E' c Q Q' hE hQ h =>
  evOps_mono m E E' c _ _ hE (fun ts c1 h1 => by
    obtain ⟨ds, e1, h1⟩ := ob_iff.mp h1
    obtain ⟨o, e2, h1⟩ := ob_iff.mp h1
    obtain ⟨b, e3, h1⟩ := ob_iff.mp h1
    exact ob_iff.mpr ⟨ds, e1, ob_iff.mpr ⟨o, e2, ob_iff.mpr ⟨b, e3, hQ _ _ h1⟩⟩⟩) h
theorem boB_iff {d : D} {b : Bool} (h : boB d = some b) : d = .bl b := by
  cases d <;> first | (cases h; rfl) | cases h
theorem sh_bl {o : O} {b : Bool} (h : o.sh = .bl b) : o = .fz (.bl b) := by
  cases o with
  | fz d => cases h; rfl
  | own t os => cases h
theorem vCmpT_run {mg : Str → Option Value} {W : WX} {σ : L2.St} {H : Hp} {Q : Bool → Hp → Prop} {ops : List Opd} {bf : BfO} {r : List V → Hp → VK → Prop} (m : MonoO ops) (p : PureO r bf) (h : liftT mg W (vCmpT ops bf) σ H Q) :
    tas mg W ops σ H fun vs H1 => r vs H1 fun x H' => ∃ b, x = .bl b ∧ Q b H' := by
  obtain ⟨c, G, vsL, osL, sl, sp, h⟩ := h
  refine ops_run m sl sp h (fun _ _ _ q => q) fun ts c' tvs H' G' g sl' hl sp' k => ?_
  obtain ⟨ds, e1, k⟩ := ob_iff.mp k
  obtain ⟨o, e2, k⟩ := ob_iff.mp k
  obtain ⟨b, e3, k⟩ := ob_iff.mp k
  obtain ⟨o', e4, e5⟩ := Option.map_eq_some_iff.mp e2
  rw [boB_iff e3] at e5
  obtain rfl := sh_bl e5
  obtain ⟨F, ow⟩ := ows_ops sp' hl sl'.len e1
  refine p G' H' _ ds F _ _ sp'.same ow e4 fun v H2 G2 nw => ?_
  have s2 := nw.2 _ _ _ (dropN hl sp')
  have rv := s2.rp
  cases rv
  exact ⟨b, rfl, k H2 G2 (g.trans nw.1) sl' s2.tail⟩
theorem VT.cmp {a b : Expr} {oa ob' : Opd} {op : CmpOp} {bf : BfO} {pos : Pos} (p : OpO (compareOp op) bf) (ha : VO Γ sc k a oa) (hb : VO Γ sc k b ob') (hm : behindInMarks op b = false) : VT Γ sc k (.Compare a [op] [b] pos) (vCmpT [oa, ob'] bf) := by
  have m := MonoO.cons2 ha.1 hb.1
  refine ⟨vCmpT_mono m, fun X W ok tk => ?_⟩
  obtain ⟨r, h1, h2⟩ := p X ok.calm (room65 ok.room)
  refine (pt_cmpR h1 (ha.2 X W ok tk) (hb.2 X W ok tk) hm).impV fun σ H Q h => ?_
  exact unpair (vCmpT_run m h2 h)
/-! ### and, or, not -/
def vAnd (t u : DT) : DT := fun E c Q => t E c fun b c1 => if b = true then u E c1 Q else Q false c1
def vOr (t u : DT) : DT := fun E c Q => t E c fun b c1 => if b = true then Q true c1 else u E c1 Q
def vNot (t : DT) : DT := fun E c Q => t E c fun b c1 => Q (!b) c1
theorem vAnd_mono {t u : DT} (h1 : MonoT t) (h2 : MonoT u) : MonoT (vAnd t u) := fun E E' c Q Q' hE hQ h => h1 E E' c _ _ hE (fun b c1 q => by
  cases b with
  | true => exact h2 E E' c1 _ _ hE hQ q
  | false => exact hQ _ _ q) h
theorem vOr_mono {t u : DT} (h1 : MonoT t) (h2 : MonoT u) : MonoT (vOr t u) := fun E E' c Q Q' hE hQ h => h1 E E' c _ _ hE (fun b c1 q => by
  cases b with
  | false => exact h2 E E' c1 _ _ hE hQ q
  | true => exact hQ _ _ q) h
theorem vNot_mono {t : DT} (h1 : MonoT t) : MonoT (vNot t) := fun E E' c Q Q' hE hQ h => h1 E E' c _ _ hE (fun b c1 q => hQ _ _ q) h
theorem vAnd_run {mg : Str → Option Value} {W : WX} {σ : L2.St} {H : Hp} {Q : Bool → Hp → Prop} {t u : DT} (h1 : MonoT t) (h2 : MonoT u) (h : liftT mg W (vAnd t u) σ H Q) : tAnd (liftT mg W t) (liftT mg W u) σ H Q := by
  obtain ⟨c, G, vsL, osL, sl, sp, h⟩ := h
  refine liftT.of h1 sl sp h (fun _ _ _ q => q) fun b c' H' G' g sl' sp' q => ?_
  cases b with
  | true => exact liftT.of h2 sl' sp' q (fun _ _ _ q => q.grow g) fun b c2 H2 G2 g2 sl2 sp2 q2 => q2 H2 G2 (g.trans g2) sl2 sp2
  | false => exact q H' G' g sl' sp'
theorem vOr_run {mg : Str → Option Value} {W : WX} {σ : L2.St} {H : Hp} {Q : Bool → Hp → Prop} {t u : DT} (h1 : MonoT t) (h2 : MonoT u) (h : liftT mg W (vOr t u) σ H Q) : tOr (liftT mg W t) (liftT mg W u) σ H Q := by
  obtain ⟨c, G, vsL, osL, sl, sp, h⟩ := h
  refine liftT.of h1 sl sp h (fun _ _ _ q => q) fun b c' H' G' g sl' sp' q => ?_
  cases b with
  | false => exact liftT.of h2 sl' sp' q (fun _ _ _ q => q.grow g) fun b c2 H2 G2 g2 sl2 sp2 q2 => q2 H2 G2 (g.trans g2) sl2 sp2
  | true => exact q H' G' g sl' sp'
theorem vNot_run {mg : Str → Option Value} {W : WX} {σ : L2.St} {H : Hp} {Q : Bool → Hp → Prop} {t : DT} (h1 : MonoT t) (h : liftT mg W (vNot t) σ H Q) : tNot (liftT mg W t) σ H Q := by
  obtain ⟨c, G, vsL, osL, sl, sp, h⟩ := h
  exact liftT.of h1 sl sp h (fun _ _ _ q => q) fun b c' H' G' g sl' sp' q => q H' G' g sl' sp'
theorem VT.not {t : DT} {pos : Pos} (h : VT Γ sc k e t) : VT Γ sc k (.UnaryOp .Not e pos) (vNot t) := ⟨vNot_mono h.1, fun X W ok tk => (pt_not (h.2 X W ok tk)).impV fun _ _ _ q => vNot_run h.1 q⟩
def VW (Γ : Sg) (sc : Scope) (k : Nat) (e : Expr) (t : DT) : Prop := MonoT t ∧ ∀ X W, OkX Γ sc k X → Takes X W → PW X e (liftT X.mg W t)
theorem _root_.L2.PW.impV {X : Cx} {e : Expr} {t u : TT} (h : PW X e t) (hi : ∀ σ H Q, u σ H Q → t σ H Q) : PW X e u := ⟨fun wh pins s σ H Q I q => h.run wh pins s σ H Q I (hi _ _ _ q)⟩
theorem VW.vt {t : DT} (h : VW Γ sc k e t) : VT Γ sc k e t := ⟨h.1, fun X W ok tk => (h.2 X W ok tk).pt⟩
theorem VW.and1 {t : DT} {pos : Pos} (h : VT Γ sc k e t) : VW Γ sc k (.BoolOp .And [e] pos) t := ⟨h.1, fun X W ok tk => pw_and1 (h.2 X W ok tk)⟩
theorem VW.or1 {t : DT} {pos : Pos} (h : VT Γ sc k e t) : VW Γ sc k (.BoolOp .Or [e] pos) t := ⟨h.1, fun X W ok tk => pw_or1 (h.2 X W ok tk)⟩
theorem VW.and {a b : Expr} {t u : DT} {pos : Pos} (h : VT Γ sc k a t) (r : VW Γ sc k (.BoolOp .And (b :: es) pos) u) : VW Γ sc k (.BoolOp .And (a :: b :: es) pos) (vAnd t u) :=
  ⟨vAnd_mono h.1 r.1, fun X W ok tk => (pw_and (h.2 X W ok tk) (r.2 X W ok tk)).impV fun _ _ _ q => vAnd_run h.1 r.1 q⟩
theorem VW.or {a b : Expr} {t u : DT} {pos : Pos} (h : VT Γ sc k a t) (r : VW Γ sc k (.BoolOp .Or (b :: es) pos) u) : VW Γ sc k (.BoolOp .Or (a :: b :: es) pos) (vOr t u) :=
  ⟨vOr_mono h.1 r.1, fun X W ok tk => (pw_or (h.2 X W ok tk) (r.2 X W ok tk)).impV fun _ _ _ q => vOr_run h.1 r.1 q⟩
/-! ### and, or, not as values: the parts are True or False -/
def vBool (t : DT) : DE := fun E c Q => t E c fun b c1 => Q (.fz (.bl b)) c1
/-- a value that must be True or False -/
def vIsB (t : DE) : DT := fun E c Q => t E c fun o c1 => ob (boB o.sh) fun b => Q b c1
def vAndV (t : DE) (u : DE) : DE := fun E c Q => t E c fun o c1 => ob (boB o.sh) fun b => if b = true then u E c1 Q else Q (.fz (.bl false)) c1
def vOrV (t : DE) (u : DE) : DE := fun E c Q => t E c fun o c1 => ob (boB o.sh) fun b => if b = true then Q (.fz (.bl true)) c1 else u E c1 Q
def vNotV (t : DE) : DE := fun E c Q => t E c fun o c1 => ob (boB o.sh) fun b => Q (.fz (.bl (!b))) c1
theorem isb {o : O} {b : Bool} (h : boB o.sh = some b) : o = .fz (.bl b) := sh_bl (boB_iff h)
theorem vAndV_mono {t u : DE} (h1 : Mono t) (h2 : Mono u) : Mono (vAndV t u) := fun E E' c Q Q' hE hQ h => h1 E E' c _ _ hE (fun o c1 q => by
  obtain ⟨b, e, q⟩ := ob_iff.mp q
  refine ob_iff.mpr ⟨b, e, ?_⟩
  cases b with
  | true => exact h2 E E' c1 _ _ hE hQ q
  | false => exact hQ _ _ q) h
theorem vOrV_mono {t u : DE} (h1 : Mono t) (h2 : Mono u) : Mono (vOrV t u) := fun E E' c Q Q' hE hQ h => h1 E E' c _ _ hE (fun o c1 q => by
  obtain ⟨b, e, q⟩ := ob_iff.mp q
  refine ob_iff.mpr ⟨b, e, ?_⟩
  cases b with
  | false => exact h2 E E' c1 _ _ hE hQ q
  | true => exact hQ _ _ q) h
theorem vNotV_mono {t : DE} (h1 : Mono t) : Mono (vNotV t) := fun E E' c Q Q' hE hQ h => h1 E E' c _ _ hE (fun o c1 q => by
  obtain ⟨b, e, q⟩ := ob_iff.mp q
  exact ob_iff.mpr ⟨b, e, hQ _ _ q⟩) h
section
variable {mg : Str → Option Value} {W : WX} {σ : L2.St} {H : Hp} {Q : VK} {u : DE}
theorem vAndV_run (h1 : Mono t) (h2 : Mono u) (h : liftE mg W (vAndV t u) σ H Q) : tAndV (liftE mg W t) (liftE mg W u) σ H Q := by
  obtain ⟨c, G, vsL, osL, sl, sp, h⟩ := h
  refine liftE.of h1 sl sp h (fun _ _ _ q => q) fun o c' v H' G' g sl' sp' q => ?_
  obtain ⟨b, e, q⟩ := ob_iff.mp q
  obtain rfl := isb e
  have rv := sp'.rp
  cases rv
  refine ⟨b, rfl, ?_⟩
  cases b with
  | true => exact liftE.of h2 sl' sp'.tail q (fun _ _ _ q => q.grow g) fun b c2 v2 H2 G2 g2 sl2 sp2 q2 => q2 v2 H2 G2 (g.trans g2) sl2 sp2
  | false => exact q _ H' G' g sl' sp'
theorem vOrV_run (h1 : Mono t) (h2 : Mono u) (h : liftE mg W (vOrV t u) σ H Q) : tOrV (liftE mg W t) (liftE mg W u) σ H Q := by
  obtain ⟨c, G, vsL, osL, sl, sp, h⟩ := h
  refine liftE.of h1 sl sp h (fun _ _ _ q => q) fun o c' v H' G' g sl' sp' q => ?_
  obtain ⟨b, e, q⟩ := ob_iff.mp q
  obtain rfl := isb e
  have rv := sp'.rp
  cases rv
  refine ⟨b, rfl, ?_⟩
  cases b with
  | false => exact liftE.of h2 sl' sp'.tail q (fun _ _ _ q => q.grow g) fun b c2 v2 H2 G2 g2 sl2 sp2 q2 => q2 v2 H2 G2 (g.trans g2) sl2 sp2
  | true => exact q _ H' G' g sl' sp'
theorem vNotV_run (h1 : Mono t) (h : liftE mg W (vNotV t) σ H Q) : tNotV (liftE mg W t) σ H Q := by
  obtain ⟨c, G, vsL, osL, sl, sp, h⟩ := h
  refine liftE.of h1 sl sp h (fun _ _ _ q => q) fun o c' v H' G' g sl' sp' q => ?_
  obtain ⟨b, e, q⟩ := ob_iff.mp q
  obtain rfl := isb e
  have rv := sp'.rp
  cases rv
  exact ⟨b, rfl, q _ H' G' g sl' (sp'.tail.cons .bl)⟩
end
theorem VE.one {op : BoolOp} {pos : Pos} (h : VE Γ sc k e t) : VE Γ sc k (.BoolOp op [e] pos) t := ⟨h.1, fun X W ok tk => pe_one (h.2 X W ok tk)⟩
theorem VE.and {a b : Expr} {t u : DE} {pos : Pos} (h : VE Γ sc k a t) (r : VE Γ sc k (.BoolOp .And (b :: es) pos) u) : VE Γ sc k (.BoolOp .And (a :: b :: es) pos) (vAndV t u) :=
  ⟨vAndV_mono h.1 r.1, fun X W ok tk => (pe_and (h.2 X W ok tk) (r.2 X W ok tk)).impV fun _ _ _ q => vAndV_run h.1 r.1 q⟩
theorem VE.or {a b : Expr} {t u : DE} {pos : Pos} (h : VE Γ sc k a t) (r : VE Γ sc k (.BoolOp .Or (b :: es) pos) u) : VE Γ sc k (.BoolOp .Or (a :: b :: es) pos) (vOrV t u) :=
  ⟨vOrV_mono h.1 r.1, fun X W ok tk => (pe_or (h.2 X W ok tk) (r.2 X W ok tk)).impV fun _ _ _ q => vOrV_run h.1 r.1 q⟩
theorem VE.not {pos : Pos} (h : VE Γ sc k e t) : VE Γ sc k (.UnaryOp .Not e pos) (vNotV t) := ⟨vNotV_mono h.1, fun X W ok tk => (pe_not (h.2 X W ok tk)).impV fun _ _ _ q => vNotV_run h.1 q⟩
/-- a if t else b -/
def vIf (t : DT) (a b : DE) : DE := fun E c Q => t E c fun d c1 => if d = true then a E c1 Q else b E c1 Q
theorem vIf_mono {t : DT} {a b : DE} (h1 : MonoT t) (h2 : Mono a) (h3 : Mono b) : Mono (vIf t a b) := fun E E' c Q Q' hE hQ h => h1 E E' c _ _ hE (fun d c1 q => by
  cases d with
  | true => exact h2 E E' c1 _ _ hE hQ q
  | false => exact h3 E E' c1 _ _ hE hQ q) h
theorem VE.ife {a b : Expr} {t : DT} {ta tb : DE} {pos : Pos} (h : VT Γ sc k e t) (ha : VE Γ sc k a ta) (hb : VE Γ sc k b tb) : VE Γ sc k (.IfExp e a b pos) (vIf t ta tb) :=
  ⟨vIf_mono h.1 ha.1 hb.1, fun X W ok tk => (pe_ifExp (h.2 X W ok tk) (ha.2 X W ok tk) (hb.2 X W ok tk)).impV fun σ H Q q => by
    obtain ⟨c, G, vsL, osL, sl, sp, q⟩ := q
    refine liftT.of h.1 sl sp q (fun _ _ _ q => q) fun d c' H' G' g sl' sp' q => ?_
    cases d with
    | true => exact liftE.of ha.1 sl' sp' q (fun _ _ _ q => q.grow g) fun b c2 v2 H2 G2 g2 sl2 sp2 q2 => q2 v2 H2 G2 (g.trans g2) sl2 sp2
    | false => exact liftE.of hb.1 sl' sp' q (fun _ _ _ q => q.grow g) fun b c2 v2 H2 G2 g2 sl2 sp2 q2 => q2 v2 H2 G2 (g.trans g2) sl2 sp2⟩
end
end VS
namespace VS
open PySem PySem.Spec PyProof.Rows L2
/-! ## calls of the text's own defs -/
def takeOps : List Opd → Cf → List O → Option (List O × Cf)
  | [], c, _ => some ([], c)
  | .sl i :: r, c, ts => match c[i]? with
    | some (.fz d) => if isBad (.fz d) then none else (takeOps r c ts).map fun p => (.fz d :: p.1, p.2)
    | some (.own t os) => (takeOps r (c.set i O.bad) ts).map fun p => (.own t os :: p.1, p.2)
    | none => none
  | .ex _ :: r, c, t :: ts => (takeOps r c ts).map fun p => (t :: p.1, p.2)
  | .ex _ :: _, _, [] => none
def putOps : List Opd → Cf → List O → Cf
  | [], c, _ => c
  | .sl i :: r, c, o :: os => match c[i]? with
    | some (.fz .bad) => putOps r (c.set i o) os
    | _ => putOps r c os
  | .ex _ :: r, c, _ :: os => putOps r c os
  | _ :: _, c, [] => c
theorem take_sep {G H : Hp} {vs : List V} : ∀ {ops : List Opd} {c c2 : Cf} {tvs ws : List V} {ts ps os : List O}, Sep G H (tvs ++ (vs ++ ws)) (ts ++ (c ++ ps)) → tvs.length = ts.length → vs.length = c.length → takeOps ops c ts = some (os, c2) →
    ∃ ws' ps', ws'.length = ps'.length ∧ Sep G H (mergeV ops vs tvs ++ (vs ++ (ws' ++ ws))) (os ++ (c2 ++ (ps' ++ ps))) ∧ (mergeV ops vs tvs).length = os.length ∧ c2.length = c.length
  | [], c, c2, tvs, ws, ts, ps, os, sp, hl, hc, h => by
    cases h
    exact ⟨[], [], rfl, dropN hl sp, rfl, rfl⟩
  | .sl i :: r, c, c2, tvs, ws, ts, ps, os, sp, hl, hc, h => by
    unfold takeOps at h
    cases e : c[i]? with
    | none => rw [e] at h; cases h
    | some o =>
      rw [e] at h
      have hi : i < c.length := (List.getElem?_eq_some_iff.mp e).1
      have hiv : vs[i]? = some vs[i] := List.getElem?_eq_getElem (by omega)
      -- the first goes to the rest's end and comes back
      have back : ∀ {c' : Cf} {os' : List O}, Sep G H (vs[i] :: (tvs ++ (vs ++ ws))) (o :: (ts ++ (c' ++ ps))) → c'.length = c.length → takeOps r c' ts = some (os', c2) →
          ∃ ws' ps', ws'.length = ps'.length ∧ Sep G H ((vs[i] :: mergeV r vs tvs) ++ (vs ++ (ws' ++ ws))) ((o :: os') ++ (c2 ++ (ps' ++ ps))) ∧ (vs[i] :: mergeV r vs tvs).length = (o :: os').length ∧ c2.length = c.length := by
        intro c' os' sp1 hc' h'
        have s1 : Sep G H ((tvs ++ vs) ++ (vs[i] :: ws)) ((ts ++ c') ++ (o :: ps)) := SepA.one (by rw [List.append_assoc, List.append_assoc]; exact sp1) (by rw [List.length_append, List.length_append, hl, hc, hc'])
        rw [List.append_assoc, List.append_assoc] at s1
        obtain ⟨ws', ps', hw, s2, hm, hc2⟩ := take_sep (ops := r) s1 hl (by rw [hc, hc']) h'
        refine ⟨ws', ps', hw, ?_, by simp [hm], by rw [hc2, hc']⟩
        have s3 : Sep G H ((mergeV r vs tvs ++ (vs ++ ws')) ++ (vs[i] :: ws)) ((os' ++ (c2 ++ ps')) ++ (o :: ps)) := by
          rw [List.append_assoc, List.append_assoc, List.append_assoc, List.append_assoc]; exact s2
        have s4 := SepA.unone s3 (by simp only [List.length_append]; rw [hm, hw, hc, hc2, hc'])
        rw [List.append_assoc, List.append_assoc, List.append_assoc, List.append_assoc] at s4
        exact s4
      have hm : mergeV (.sl i :: r) vs tvs = vs[i] :: mergeV r vs tvs := by simp only [mergeV, hiv, Option.getD_some]
      rw [hm]
      cases o with
      | fz d =>
        dsimp only at h
        split at h
        · cases h
        · obtain ⟨⟨os', c2'⟩, h', e2⟩ := Option.map_eq_some_iff.mp h
          cases e2
          refine back ?_ rfl h'
          have e3 : (ts ++ (c ++ ps))[ts.length + i]? = some (.fz d) := by
            rw [List.getElem?_append_right (by omega), Nat.add_sub_cancel_left]
            exact getElem?_app e
          obtain ⟨v, e4, _, s⟩ := sp.copy e3
          rw [← hl, List.getElem?_append_right (by omega), Nat.add_sub_cancel_left, getElem?_app hiv] at e4
          cases e4
          exact s
      | own t os0 =>
        dsimp only at h
        obtain ⟨⟨os', c2'⟩, h', e2⟩ := Option.map_eq_some_iff.mp h
        cases e2
        refine back ?_ (by simp) h'
        have e3 : (ts ++ (c ++ ps))[ts.length + i]? = some (.own t os0) := by
          rw [List.getElem?_append_right (by omega), Nat.add_sub_cancel_left]
          exact getElem?_app e
        obtain ⟨v, e4, s⟩ := sp.take e3
        rw [← hl, List.getElem?_append_right (by omega), Nat.add_sub_cancel_left, getElem?_app hiv] at e4
        cases e4
        rw [List.set_append_right _ _ (by omega), Nat.add_sub_cancel_left, set_app hi] at s
        exact s
  | .ex _ :: r, c, c2, [], ws, [], ps, os, sp, hl, hc, h => by cases h
  | .ex _ :: r, c, c2, [], ws, _ :: _, ps, os, sp, hl, hc, h => by cases hl
  | .ex _ :: r, c, c2, _ :: _, ws, [], ps, os, sp, hl, hc, h => by cases hl
  | .ex _ :: r, c, c2, tv :: tvs, ws, t :: ts, ps, os, sp, hl, hc, h => by
    unfold takeOps at h
    obtain ⟨⟨os', c2'⟩, h', e2⟩ := Option.map_eq_some_iff.mp h
    cases e2
    have hl' : tvs.length = ts.length := by simpa using hl
    have s1 : Sep G H ((tvs ++ vs) ++ (tv :: ws)) ((ts ++ c) ++ (t :: ps)) := SepA.one (by rw [List.append_assoc, List.append_assoc]; exact sp) (by rw [List.length_append, List.length_append, hl', hc])
    rw [List.append_assoc, List.append_assoc] at s1
    obtain ⟨ws', ps', hw, s2, hm, hc2⟩ := take_sep (ops := r) s1 hl' hc h'
    refine ⟨ws', ps', hw, ?_, by simp [mergeV, hm], hc2⟩
    have s3 : Sep G H ((mergeV r vs tvs ++ (vs ++ ws')) ++ (tv :: ws)) ((os' ++ (c2' ++ ps')) ++ (t :: ps)) := by
      rw [List.append_assoc, List.append_assoc, List.append_assoc, List.append_assoc]; exact s2
    have s4 := SepA.unone s3 (by simp only [List.length_append]; rw [hm, hw, hc, hc2])
    rw [List.append_assoc, List.append_assoc, List.append_assoc, List.append_assoc] at s4
    exact s4
theorem put_len : ∀ {ops : List Opd} {c : Cf} {os : List O}, (putOps ops c os).length = c.length
  | [], _, _ => rfl
  | .sl i :: r, c, [] => rfl
  | .ex _ :: r, c, [] => rfl
  | .sl i :: r, c, o :: os => by
    unfold putOps
    split
    · rw [put_len (ops := r)]; simp
    · exact put_len (ops := r)
  | .ex _ :: r, c, o :: os => by
    unfold putOps
    exact put_len (ops := r)
theorem put_sep {G H : Hp} {vs : List V} : ∀ {ops : List Opd} {c : Cf} {tvs ws : List V} {ps os : List O}, Sep G H (mergeV ops vs tvs ++ (vs ++ ws)) (os ++ (c ++ ps)) → (mergeV ops vs tvs).length = os.length → vs.length = c.length →
    Sep G H (vs ++ ws) (putOps ops c os ++ ps)
  | [], c, tvs, ws, ps, os, sp, hm, hc => by
    cases os with
    | nil => exact sp
    | cons _ _ => cases hm
  | .sl i :: r, c, tvs, ws, ps, [], sp, hm, hc => by cases hm
  | .ex _ :: r, c, [], ws, ps, [], sp, hm, hc => by cases hm
  | .ex _ :: r, c, _ :: _, ws, ps, [], sp, hm, hc => by cases hm
  | .sl i :: r, c, tvs, ws, ps, o :: os, sp, hm, hc => by
    have hm' : (mergeV r vs tvs).length = os.length := by simpa [mergeV] using hm
    unfold putOps
    split
    · rename_i e
      have hi : i < c.length := (List.getElem?_eq_some_iff.mp e).1
      have hiv : vs[i]? = some vs[i] := List.getElem?_eq_getElem (by omega)
      have hmv : mergeV (.sl i :: r) vs tvs = vs[i] :: mergeV r vs tvs := by simp only [mergeV, hiv, Option.getD_some]
      rw [hmv] at sp
      have sp : Sep G H (vs[i] :: (mergeV r vs tvs ++ (vs ++ ws))) (o :: (os ++ (c ++ ps))) := sp
      have e3 : (os ++ (c ++ ps))[os.length + i]? = some O.bad := by
        rw [List.getElem?_append_right (by omega), Nat.add_sub_cancel_left]
        exact getElem?_app e
      have e4 : (mergeV r vs tvs ++ (vs ++ ws))[os.length + i]? = some vs[i] := by
        rw [← hm', List.getElem?_append_right (by omega), Nat.add_sub_cancel_left]
        exact getElem?_app hiv
      have s := SepA.put sp e3 e4
      rw [List.set_append_right _ _ (by omega), Nat.add_sub_cancel_left, set_app hi] at s
      exact put_sep (ops := r) s hm' (by simpa using hc)
    · exact put_sep (ops := r) (SepA.tail sp) hm' hc
  | .ex _ :: r, c, [], ws, ps, o :: os, sp, hm, hc => put_sep (ops := r) (tvs := []) (SepA.tail sp) (by simpa [mergeV] using hm) hc
  | .ex _ :: r, c, tv :: tvs, ws, ps, o :: os, sp, hm, hc => put_sep (ops := r) (tvs := tvs) (SepA.tail sp) (by simpa [mergeV] using hm) hc
/-- the slots that an argument is taken from are there -/
theorem take_slots {σ : L2.St} {ops : List Opd} {c c2 : Cf} {ts os : List O} (sl : Slots σ c) (h : takeOps ops c ts = some (os, c2)) : Slots σ c2 ∧ ∀ os', Slots σ (putOps ops c2 os') := by
    have known : ∀ {ops : List Opd} {c c2 : Cf} {ts os : List O}, Slots σ c → takeOps ops c ts = some (os, c2) → Slots σ c2 ∧ ∀ i, Opd.sl i ∈ ops → ∃ v, σ[i]? = some (some v) := by
      intro ops
      induction ops with
      | nil => intro c c2 ts os sl h; cases h; exact ⟨sl, fun i hi => by cases hi⟩
      | cons op r ih =>
        intro c c2 ts os sl h
        cases op with
        | sl i =>
          unfold takeOps at h
          cases e : c[i]? with
          | none => rw [e] at h; cases h
          | some o =>
            rw [e] at h
            cases o with
            | fz d =>
              dsimp only at h
              split at h
              · cases h
              · rename_i nb
                obtain ⟨⟨os', c2'⟩, h', e2⟩ := Option.map_eq_some_iff.mp h
                cases e2
                obtain ⟨q1, q2⟩ := ih sl h'
                refine ⟨q1, fun j hj => ?_⟩
                rcases List.mem_cons.mp hj with z | z
                · cases z
                  exact sl.2 i _ e (by simpa using nb)
                · exact q2 j z
            | own t os0 =>
              dsimp only at h
              obtain ⟨⟨os', c2'⟩, h', e2⟩ := Option.map_eq_some_iff.mp h
              cases e2
              obtain ⟨q1, q2⟩ := ih (sl.bad i) h'
              refine ⟨q1, fun j hj => ?_⟩
              rcases List.mem_cons.mp hj with z | z
              · cases z
                exact sl.2 i _ e rfl
              · exact q2 j z
        | ex t =>
          cases ts with
          | nil => cases h
          | cons t' ts =>
            unfold takeOps at h
            obtain ⟨⟨os', c2'⟩, h', e2⟩ := Option.map_eq_some_iff.mp h
            cases e2
            obtain ⟨q1, q2⟩ := ih sl h'
            refine ⟨q1, fun j hj => ?_⟩
            rcases List.mem_cons.mp hj with z | z
            · cases z
            · exact q2 j z
    have puts : ∀ {ops : List Opd} {c : Cf} {os' : List O}, Slots σ c → (∀ i, Opd.sl i ∈ ops → ∃ v, σ[i]? = some (some v)) → Slots σ (putOps ops c os') := by
      intro ops
      induction ops with
      | nil => intro c os' sl _; exact sl
      | cons op r ih =>
        intro c os' sl k
        have k' : ∀ i, Opd.sl i ∈ r → ∃ v, σ[i]? = some (some v) := fun i hi => k i (List.mem_cons_of_mem _ hi)
        cases os' with
        | nil => cases op <;> exact sl
        | cons o os' =>
          cases op with
          | sl i =>
            unfold putOps
            split
            · refine ih ⟨by simpa using sl.1, fun j p hj nj => ?_⟩ k'
              by_cases e : i = j
              · subst e; exact k i (List.mem_cons_self ..)
              · rw [List.getElem?_set_ne e] at hj
                exact sl.2 j p hj nj
            · exact ih sl k'
          | ex t =>
            unfold putOps
            exact ih sl k'
    obtain ⟨q1, q2⟩ := known sl h
    exact ⟨q1, fun os' => puts q1 q2⟩
def vCall (C : Con) (dv : List D) (ops : List Opd) : DE := fun E c Q => evOps ops E c fun ts c1 => ob (takeOps ops c1 ts) fun p =>
  C (fun nm fs os' => E nm fs (putOps ops p.2 os')) (p.1 ++ dv.map O.fz) fun r os' => Q r (putOps ops p.2 os')
theorem vCall_mono {C : Con} {dv : List D} {ops : List Opd} (mC : MonoC C) (m : MonoO ops) : Mono (vCall C dv ops) := fun E E' c Q Q' hE hQ h =>
  evOps_mono m E E' c _ _ hE (fun ts c1 h1 => by
    obtain ⟨p, e1, h1⟩ := ob_iff.mp h1
    exact ob_iff.mpr ⟨p, e1, mC _ _ _ _ _ (fun n f c => hE n f _) (fun o c => hQ o _) h1⟩) h
theorem Rps.of_none {G : Hp} {vs : List V} {ds : List D} (h : Rps (fun _ => none) vs ds) : Rps G vs ds := Rps.mono (fun _ _ e => by cases e) h
theorem putOps_take {ops : List Opd} {c : Cf} {os xs : List O} : os.length = ops.length → putOps ops c (os ++ xs) = putOps ops c os := by
  induction ops generalizing c os with
  | nil => intro h; rfl
  | cons op r ih =>
    intro h
    cases os with
    | nil => cases h
    | cons o os =>
      have h' : os.length = r.length := by simpa using h
      cases op with
      | sl i =>
        rw [List.cons_append]
        unfold putOps
        split
        · exact ih h'
        · exact ih h'
      | ex t =>
        rw [List.cons_append]
        unfold putOps
        exact ih h'
theorem take_len : ∀ {ops : List Opd} {c c2 : Cf} {ts os : List O}, takeOps ops c ts = some (os, c2) → os.length = ops.length := by
  intro ops
  induction ops with
  | nil => intro c c2 ts os h; cases h; rfl
  | cons op r ih =>
    intro c c2 ts os h
    cases op with
    | sl i =>
      unfold takeOps at h
      split at h
      · split at h
        · cases h
        · obtain ⟨p, h', e⟩ := Option.map_eq_some_iff.mp h
          cases e
          rw [List.length_cons, List.length_cons, ih h']
      · obtain ⟨p, h', e⟩ := Option.map_eq_some_iff.mp h
        cases e
        rw [List.length_cons, List.length_cons, ih h']
      · cases h
    | ex t =>
      cases ts with
      | nil => cases h
      | cons t' ts =>
        unfold takeOps at h
        obtain ⟨p, h', e⟩ := Option.map_eq_some_iff.mp h
        cases e
        rw [List.length_cons, List.length_cons, ih h']
/-- the call of the promise, the arguments being reckoned -/
theorem call_sp {mg : Str → Option Value} {W : WX} {σ : L2.St} {H : Hp} {Q : VK} {C : Con} {dv : List D} {dvs : List V} {ops : List Opd} {n : Nat} (mC : MonoC C) (rd : Rps (fun _ => none) dvs dv)
    {c : Cf} {G : Hp} {vsL : List V} {osL : List O} {ts os : List O} {tvs : List V} {c2 : Cf} {E : XP} {K : DK} (sl : Slots σ c) (hl : tvs.length = ts.length) (sp : Sep G H (tvs ++ (vals σ ++ vsL)) (ts ++ (c ++ osL))) (ht : takeOps ops c ts = some (os, c2))
    (hn : (mergeV ops (vals σ) tvs ++ dvs).length = n)
    (h : C (fun nm fs os' => E nm fs (putOps ops c2 os')) (os ++ dv.map O.fz) fun r os' => K r (putOps ops c2 os'))
    (hE : ∀ n f c', E n f c' → KX mg W σ vsL osL G n f c') (hK : ∀ o c' v H' G', Same G G' → Slots σ c' → Sep G' H' (v :: (vals σ ++ vsL)) (o :: (c' ++ osL)) → K o c' → Q v H') :
    liftC mg n C (mergeV ops (vals σ) tvs ++ dvs) H Q (WE W σ) := by
  obtain ⟨ws', ps', hw, s1, hm, hc2⟩ := take_sep sp hl sl.len ht
  obtain ⟨q1, q2⟩ := take_slots sl ht
  have hol := take_len ht
  have hd : dvs.length = dv.length := rd.length
  -- the defaults beside
  have s2 : Sep G H ((mergeV ops (vals σ) tvs ++ dvs) ++ (vals σ ++ (ws' ++ vsL))) ((os ++ dv.map O.fz) ++ (c2 ++ (ps' ++ osL))) := by
    have q := s1.conss (Rps.of_none rd)
    have q' := SepA.rot (ws := dvs) (ps := dv.map O.fz) q (by rw [List.length_map]; exact hd) hm
    rw [List.append_assoc, List.append_assoc]
    exact q'
  refine ⟨hn, os ++ dv.map O.fz, G, vals σ ++ (ws' ++ vsL), c2 ++ (ps' ++ osL), by simp [hm, hd], s2, ?_⟩
  -- behind the call
  have after : ∀ {vs2 : List V} {os2 os' : List O} {G' H' : Hp}, os'.length = (os ++ dv.map O.fz).length → vs2.length = os2.length → Sep G' H' (vs2 ++ ((mergeV ops (vals σ) tvs ++ dvs) ++ (vals σ ++ (ws' ++ vsL)))) (os2 ++ (os' ++ (c2 ++ (ps' ++ osL)))) →
      Sep G' H' (vs2 ++ (vals σ ++ vsL)) (os2 ++ (putOps ops c2 os' ++ osL)) := by
    intro vs2 os2 os' G' H' hlen h2 s
    obtain ⟨oa, od, rfl, ha, hb⟩ : ∃ oa od, os' = oa ++ od ∧ oa.length = os.length ∧ od.length = dvs.length := by
      refine ⟨os'.take os.length, os'.drop os.length, (List.take_append_drop _ _).symm, ?_, ?_⟩
      · rw [List.length_take, hlen]; simp
      · rw [List.length_drop, hlen]; simp [hd]
    rw [putOps_take (by rw [ha, hol])]
    have s3 := SepA.rot (ws := vs2) (ps := os2) (vs2 := mergeV ops (vals σ) tvs ++ dvs) (os2 := oa ++ od) s h2 (by simp [hm, ha, hb])
    rw [List.append_assoc, List.append_assoc] at s3
    -- drop the defaults
    have s4 := SepA.rot (ws := mergeV ops (vals σ) tvs) (ps := oa) (vs2 := dvs) (os2 := od) s3 (by rw [hm, ha]) hb.symm
    have s5 := dropN hb.symm s4
    -- the extra ones behind
    have s6 := SepA.rot (ws := mergeV ops (vals σ) tvs) (ps := oa) (vs2 := vs2) (os2 := os2) s5 (by rw [hm, ha]) h2
    have s7 : Sep G' H' ((vs2 ++ (mergeV ops (vals σ) tvs ++ vals σ)) ++ (ws' ++ vsL)) ((os2 ++ (oa ++ c2)) ++ (ps' ++ osL)) := by
      simp only [List.append_assoc]; exact s6
    have s8 := dropN hw (SepA.rot (ws := vs2 ++ (mergeV ops (vals σ) tvs ++ vals σ)) (ps := os2 ++ (oa ++ c2)) s7 (by simp [hm, ha, h2, sl.len, hc2]) hw)
    simp only [List.append_assoc] at s8
    have s9 := SepA.rot (ws := vs2) (ps := os2) (vs2 := mergeV ops (vals σ) tvs) (os2 := oa) s8 h2 (by rw [hm, ha])
    have s10 : Sep G' H' (mergeV ops (vals σ) tvs ++ (vals σ ++ (vs2 ++ vsL))) (oa ++ (c2 ++ (os2 ++ osL))) := by
      have z : Sep G' H' ((mergeV ops (vals σ) tvs ++ vs2) ++ (vals σ ++ vsL)) ((oa ++ os2) ++ (c2 ++ osL)) := by simp only [List.append_assoc]; exact s9
      have z2 := SepA.rot (ws := vs2) (ps := os2) (vs2 := mergeV ops (vals σ) tvs ++ vals σ) (os2 := oa ++ c2) (vs := vsL) (os := osL) (by
        simp only [List.append_assoc]
        exact s8) h2 (by simp [hm, ha, sl.len, hc2])
      simp only [List.append_assoc] at z2
      exact z2
    have s11 := put_sep s10 (by rw [hm, ha]) (by rw [sl.len, hc2])
    exact SepA.rot (ws := vals σ) (ps := putOps ops c2 oa) s11 (by rw [put_len, sl.len, hc2]) h2
  refine mC _ _ _ _ _ (fun nm fs os' he => ?_) (fun r os' hk => ?_) h
  · intro cls d H' G' g hlen s xi
    exact hE nm fs _ he cls d H' G' g (q2 os') (after (vs2 := []) (os2 := []) hlen rfl s) xi
  · intro v H' G' g hlen s
    exact hK r _ v H' G' g (q2 os') (after (vs2 := [v]) (os2 := [r]) hlen rfl s) hk
theorem vCall_run {mg : Str → Option Value} {W : WX} {σ : L2.St} {H : Hp} {Q : VK} {C : Con} {dv : List D} {dvs : List V} {ops : List Opd} {n : Nat} (mC : MonoC C) (m : MonoO ops) (rd : Rps (fun _ => none) dvs dv) (hn : ops.length + dv.length = n)
    (h : liftE mg W (vCall C dv ops) σ H Q) : tas mg W ops σ H fun vs H1 => liftC mg n C (vs ++ dvs) H1 Q (WE W σ) := by
  obtain ⟨c, G, vsL, osL, sl, sp, h⟩ := h
  refine ops_run m sl sp h (fun _ _ _ q => q) fun ts c' tvs H' G' g sl' hl sp' k => ?_
  obtain ⟨⟨os, c2⟩, e1, k⟩ := ob_iff.mp k
  obtain ⟨_, _, _, _, hm, _⟩ := take_sep sp' hl sl'.len e1
  refine call_sp (K := KE σ vsL osL G Q) mC rd sl' hl sp' e1 ?_ k (fun _ _ _ q => q.grow g) fun o c3 v H2 G2 g2 sl2 sp2 q => q v H2 G2 (g.trans g2) sl2 sp2
  rw [List.length_append, hm, take_len e1, rd.length]
  exact hn
/-- a call of a def by its promise: the arguments are evaluated, then the promise is used at the caller's slots -/
def tGo (sp : Sp) (dvs : List V) (W : WX) (t : TA) : TE := fun σ H Q => t σ H fun vs H1 => sp (vs ++ dvs) H1 Q (WE W σ)
theorem go_fn {X : Cx} {W : WX} {k : Nat} {f : Addr} {fd : FuncData} {ps : List Str} {sp : Sp} {pins : List (Addr × Obj)} {σ : L2.St} {H : Hp} {s : Shared} {Q : VK} {args : Args} {us : List Value} {vs : List V} (F : FnG X.prog X.w X.K X.mg X.base k f fd ps sp) (hr : Room k X.A) (hg : X.A.guards = some []) (tk : Takes X W)
    (I : Inv X pins σ H s) (b : BindsTo s fd args (ps.zip us)) (r : Vals vs us) (h : sp vs H Q (WE W σ)) : codeAny (model X.prog X.w) X.A (.call (.ref f) args) (fun x s' => match x with
      | .ok (.ret u) => EP X pins σ Q u s'
      | .ok _ => False
      | .error e => X.xe e s') s := by
  have q := F.does X.A X.stack s H args us vs Q (WE W σ) ⟨hr, hg⟩ I.env0 b r h
  refine codeAny_mono q fun x s' hx => ?_
  match x, hx with
  | .ok (.ret u), hx => exact I.after hx
  | .ok .next, hx => exact hx
  | .ok .brk, hx => exact hx
  | .ok .cont, hx => exact hx
  | .error e, hx => exact passAt tk σ pins H s e s' I hx
theorem pe_go {X : Cx} {W : WX} {k : Nat} {f : Addr} {fd : FuncData} {ps : List Str} {sp : Sp} {dvs : List V} {ds : List Value} {x : Str} {p pos : Pos} {e : Expr} {es : List Expr} {t : TA} (F : FnG X.prog X.w X.K X.mg X.base k f fd ps sp) (hr : Room k X.A) (hg : X.A.guards = some []) (gl : Gl X x)
    (hm : X.mg x = some (.ref f)) (hk : PySem.W.keepIn X.K (.ref f) = true) (hb : Binds X.K fd ps ds) (hd : Vals dvs ds) (tk : Takes X W) (ha : PA X (e :: es) t) (pn : plainName x = true) (ns : (e :: es).all noStar = true) : PE X (.Call (.Name x p) (e :: es) [] pos) (tGo sp dvs W t) := by
  have ns' : noStar e = true ∧ es.all noStar = true := by simpa using ns
  refine ⟨fun pins s σ H Q I h => wpAny_Call_Name_kw (ld_glob I gl hm (PySem.W.callWith_K (h₀ := X.base) I.ok.mod.kin hk (thn (ha.run pos pins s σ H _ I h) fun us s1 hv => ?_) (starEach_cons ns'.1) (backTo_plain ns'.2)) (plainName_1 pn))⟩
  obtain ⟨vs, H1, I1, r, q⟩ := hv
  refine ⟨I1.kIn, wpAny_call ?_⟩
  have r2 := r.append hd
  have hl : (us ++ ds).length = ps.length := r2.length ▸ F.many _ _ _ _ q
  refine codeAny_mono (go_fn F hr hg tk I1 (hb s1 us I1.kIn hl) r2 q) fun y s' hy => ?_
  match y, hy with
  | .ok (.ret u), hy => exact hy
  | .error e, hy => exact hy
section
variable {Γ : Sg} {sc : Scope} {k : Nat} {e : Expr} {es : List Expr} {ops : List Opd}
theorem VE.call {x : Str} {p pos : Pos} {F : Fn} (g : isGl sc x = true) (hf : Γ.fns x = some F) (pn : plainName x = true) (ha : VA Γ sc k (e :: es) ops) (hs : (e :: es).all noStar = true) (hn : ops.length + F.dv.length = F.ps.length) (mC : MonoC F.C) :
    VE Γ sc k (.Call (.Name x p) (e :: es) [] pos) (vCall F.C F.dv ops) := by
  refine ⟨vCall_mono mC ha.1, fun X W ok tk => ?_⟩
  obtain ⟨_, f, fd, dvs, ds, h1, h2, h3, h4, h5, h6, _⟩ := ok.g.fn x F hf
  refine (pe_go h6 ok.room ok.gd (ok.gl x (isGl_at g)) h1 h2 h3 h4 tk (ha.2 X W ok tk) pn hs).impV fun σ H Q q => ?_
  exact vCall_run mC ha.1 h5 hn q
end
end VS
namespace VS
open PySem PySem.Spec PyProof.Rows L2
/-! ## statements -/
/-- the slots outside P stand -/
def PinS (P : List Nat) (σ σ' : L2.St) : Prop := σ'.length = σ.length ∧ ∀ i, i ∉ P → σ'[i]? = σ[i]?
theorem PinS.refl {P : List Nat} {σ : L2.St} : PinS P σ σ := ⟨rfl, fun _ _ => rfl⟩
theorem PinS.trans {P : List Nat} {σ σ1 σ2 : L2.St} (a : PinS P σ σ1) (b : PinS P σ1 σ2) : PinS P σ σ2 := ⟨b.1.trans a.1, fun i hi => (b.2 i hi).trans (a.2 i hi)⟩
theorem PinS.set {P : List Nat} {σ : L2.St} {i : Nat} {v : Option V} (h : i ∈ P) : PinS P σ (σ.set i v) := ⟨by simp, fun j hj => by
  rw [List.getElem?_set_ne]
  rintro rfl
  exact hj h⟩
theorem PinS.sub {P Q : List Nat} {σ σ' : L2.St} (h : PinS P σ σ') (s : ∀ i ∈ P, i ∈ Q) : PinS Q σ σ' := ⟨h.1, fun i hi => h.2 i fun z => hi (s i z)⟩
def KS (mg : Str → Option Value) (W : WX) (P : List Nat) (σ : L2.St) (vsL : List V) (osL : List O) (G : Hp) (D : L2.Ends) : En where
  nx := fun c' => ∀ σ' H' G', Same G G' → PinS P σ σ' → Slots σ' c' → Sep G' H' (vals σ' ++ vsL) (c' ++ osL) → D.nx σ' H'
  rt := fun o c' => ∀ v σ' H' G', Same G G' → PinS P σ σ' → Slots σ' c' → Sep G' H' (v :: (vals σ' ++ vsL)) (o :: (c' ++ osL)) → D.rt v H'
  bk := fun c' => ∀ σ' H' G', Same G G' → PinS P σ σ' → Slots σ' c' → Sep G' H' (vals σ' ++ vsL) (c' ++ osL) → D.bk σ' H'
  ct := fun c' => ∀ σ' H' G', Same G G' → PinS P σ σ' → Slots σ' c' → Sep G' H' (vals σ' ++ vsL) (c' ++ osL) → D.ct σ' H'
  ex := fun nm fs c' => ∀ σ' cls d H' G', Same G G' → PinS P σ σ' → Slots σ' c' → Sep G' H' (vals σ' ++ vsL) (c' ++ osL) → XIs mg G' H' cls d nm fs → W cls d σ' H'
def liftS (mg : Str → Option Value) (W : WX) (P : List Nat) (t : DS) : TS := fun D σ H => ∃ c G vsL osL, Slots σ c ∧ Sep G H (vals σ ++ vsL) (c ++ osL) ∧ t (KS mg W P σ vsL osL G D) c
section
variable {mg : Str → Option Value} {W : WX} {P : List Nat} {σ σ1 : L2.St} {vsL : List V} {osL : List O} {G G1 H : Hp} {D : L2.Ends} {c : Cf}
theorem KS.nx1 (h : (KS mg W P σ vsL osL G D).nx c) (g : Same G G1) (p : PinS P σ σ1) : (KS mg W P σ1 vsL osL G1 D).nx c := fun σ' H' G' g' p' sl sp => h σ' H' G' (g.trans g') (p.trans p') sl sp
theorem KS.rt1 {o : O} (h : (KS mg W P σ vsL osL G D).rt o c) (g : Same G G1) (p : PinS P σ σ1) : (KS mg W P σ1 vsL osL G1 D).rt o c := fun v σ' H' G' g' p' sl sp => h v σ' H' G' (g.trans g') (p.trans p') sl sp
theorem KS.bk1 (h : (KS mg W P σ vsL osL G D).bk c) (g : Same G G1) (p : PinS P σ σ1) : (KS mg W P σ1 vsL osL G1 D).bk c := fun σ' H' G' g' p' sl sp => h σ' H' G' (g.trans g') (p.trans p') sl sp
theorem KS.ct1 (h : (KS mg W P σ vsL osL G D).ct c) (g : Same G G1) (p : PinS P σ σ1) : (KS mg W P σ1 vsL osL G1 D).ct c := fun σ' H' G' g' p' sl sp => h σ' H' G' (g.trans g') (p.trans p') sl sp
theorem KS.ex1 {nm : Str} {fs : List (Str × VS.D)} (h : (KS mg W P σ vsL osL G D).ex nm fs c) (g : Same G G1) (p : PinS P σ σ1) : (KS mg W P σ1 vsL osL G1 D).ex nm fs c := fun σ' cls d H' G' g' p' sl sp => h σ' cls d H' G' (g.trans g') (p.trans p') sl sp
/-- an expression's exceptions within a statement -/
theorem KS.exE {nm : Str} {fs : List (Str × VS.D)} (h : (KS mg W P σ vsL osL G D).ex nm fs c) : KX mg W σ vsL osL G nm fs c := fun cls d H' G' g sl sp xi => h σ cls d H' G' g .refl sl sp xi
/-- a statement's lift from its own ends -/
theorem liftS.of {t : DS} {N : En} {D' : L2.Ends} (m : MonoS t) (sl : Slots σ c) (sp : Sep G H (vals σ ++ vsL) (c ++ osL)) (h : t N c)
    (h1 : ∀ c', N.nx c' → (KS mg W P σ vsL osL G D').nx c') (h2 : ∀ o c', N.rt o c' → (KS mg W P σ vsL osL G D').rt o c') (h3 : ∀ c', N.bk c' → (KS mg W P σ vsL osL G D').bk c') (h4 : ∀ c', N.ct c' → (KS mg W P σ vsL osL G D').ct c')
    (h5 : ∀ n f c', N.ex n f c' → (KS mg W P σ vsL osL G D').ex n f c') : liftS mg W P t D' σ H := ⟨c, G, vsL, osL, sl, sp, m _ _ _ h1 h2 h3 h4 h5 h⟩
/-- .. the same ends, grown -/
theorem liftS.same {t : DS} (m : MonoS t) (sl : Slots σ1 c) (sp : Sep G1 H (vals σ1 ++ vsL) (c ++ osL)) (g : Same G G1) (p : PinS P σ σ1) (h : t (KS mg W P σ vsL osL G D) c) : liftS mg W P t D σ1 H :=
  liftS.of m sl sp h (fun _ q => KS.nx1 q g p) (fun _ _ q => KS.rt1 q g p) (fun _ q => KS.bk1 q g p) (fun _ q => KS.ct1 q g p) (fun _ _ _ q => KS.ex1 q g p)
end
def VSt (Γ : Sg) (sc : Scope) (k : Nat) (P : List Nat) (st : Stmt) (t : DS) : Prop := MonoS t ∧ ∀ X W, OkX Γ sc k X → Takes X W → PS X st (liftS X.mg W P t)
def VSs (Γ : Sg) (sc : Scope) (k : Nat) (P : List Nat) (st : List Stmt) (t : DS) : Prop := MonoS t ∧ ∀ X W, OkX Γ sc k X → Takes X W → PSs X st (liftS X.mg W P t)
/-- fewer slots are stored to than said -/
theorem liftS.weak {mg : Str → Option Value} {W : WX} {P Q : List Nat} {t : DS} (m : MonoS t) (s : ∀ i ∈ P, i ∈ Q) {D : L2.Ends} {σ : L2.St} {H : Hp} (h : liftS mg W Q t D σ H) : liftS mg W P t D σ H := by
  obtain ⟨c, G, vsL, osL, sl, sp, h⟩ := h
  exact liftS.of m sl sp h (fun _ q σ' H' G' g p => q σ' H' G' g (p.sub s)) (fun _ _ q v σ' H' G' g p => q v σ' H' G' g (p.sub s)) (fun _ q σ' H' G' g p => q σ' H' G' g (p.sub s)) (fun _ q σ' H' G' g p => q σ' H' G' g (p.sub s))
    (fun _ _ _ q σ' cls d H' G' g p => q σ' cls d H' G' g (p.sub s))
theorem VSt.weak {Γ : Sg} {sc : Scope} {k : Nat} {P Q : List Nat} {st : Stmt} {t : DS} (h : VSt Γ sc k P st t) (s : ∀ i ∈ P, i ∈ Q) : VSt Γ sc k Q st t := ⟨h.1, fun X W ok tk => (h.2 X W ok tk).impV fun _ _ _ q => liftS.weak h.1 s q⟩
theorem VSs.weak {Γ : Sg} {sc : Scope} {k : Nat} {P Q : List Nat} {st : List Stmt} {t : DS} (h : VSs Γ sc k P st t) (s : ∀ i ∈ P, i ∈ Q) : VSs Γ sc k Q st t := ⟨h.1, fun X W ok tk => (h.2 X W ok tk).impV fun _ _ _ q => liftS.weak h.1 s q⟩
def vNext : DS := fun D c => D.nx c
@[irreducible] def vSeq (t u : DS) : DS := fun D c => t { D with nx := u D } c
theorem vSeq_at {t u : DS} {D : En} {c : Cf} : vSeq t u D c = t { D with nx := u D } c := by unfold vSeq; rfl
def vBreak : DS := fun D c => D.bk c
def vCont : DS := fun D c => D.ct c
def vNever : DS := fun _ _ => False
def vDrop (t : DE) : DS := fun D c => t D.ex c fun _ c1 => D.nx c1
def vRet (t : DE) : DS := fun D c => t D.ex c D.rt
def vRetN : DS := fun D c => D.rt (.fz .non) c
def vIfS (t : DT) (a b : DS) : DS := fun D c => t D.ex c fun d c1 => if d = true then a D c1 else b D c1
def vAsg (i : Nat) (t : DE) : DS := fun D c => t D.ex c fun o c1 => D.nx (c1.set i o)
theorem vNext_mono : MonoS vNext := fun D D' c h1 _ _ _ _ h => h1 _ h
theorem vSeq_mono {t u : DS} (m : MonoS t) (m' : MonoS u) : MonoS (vSeq t u) := fun D D' c h1 h2 h3 h4 h5 h => by
  rw [vSeq_at] at h ⊢
  exact m { D with nx := u D } { D' with nx := u D' } c (fun c q => m' D D' c h1 h2 h3 h4 h5 q) h2 h3 h4 h5 h
theorem vBreak_mono : MonoS vBreak := fun D D' c _ _ h3 _ _ h => h3 _ h
theorem vCont_mono : MonoS vCont := fun D D' c _ _ _ h4 _ h => h4 _ h
theorem vNever_mono : MonoS vNever := fun _ _ _ _ _ _ _ _ h => h
theorem vDrop_mono {t : DE} (m : Mono t) : MonoS (vDrop t) := fun D D' c h1 h2 h3 h4 h5 h => m _ _ _ _ _ h5 (fun _ c q => h1 _ q) h
theorem vRet_mono {t : DE} (m : Mono t) : MonoS (vRet t) := fun D D' c h1 h2 h3 h4 h5 h => m _ _ _ _ _ h5 h2 h
theorem vRetN_mono : MonoS vRetN := fun D D' c h1 h2 h3 h4 h5 h => h2 _ _ h
theorem vIfS_mono {t : DT} {a b : DS} (m : MonoT t) (ma : MonoS a) (mb : MonoS b) : MonoS (vIfS t a b) := fun D D' c h1 h2 h3 h4 h5 h => m _ _ _ _ _ h5 (fun d c q => by
  cases d with
  | true => exact ma _ _ _ h1 h2 h3 h4 h5 q
  | false => exact mb _ _ _ h1 h2 h3 h4 h5 q) h
theorem vAsg_mono {i : Nat} {t : DE} (m : Mono t) : MonoS (vAsg i t) := fun D D' c h1 h2 h3 h4 h5 h => m _ _ _ _ _ h5 (fun _ c q => h1 _ q) h
section
variable {Γ : Sg} {sc : Scope} {k : Nat} {P : List Nat} {st : Stmt} {sts : List Stmt} {e : Expr} {es : List Expr} {t : DE} {s u : DS} {pos : Pos}
theorem VSs.nil : VSs Γ sc k P [] vNext := ⟨vNext_mono, fun X W ok tk => pss_nil.impV fun D σ H ⟨c, G, vsL, osL, sl, sp, h⟩ => h σ H G (Same.refl _) .refl sl sp⟩
theorem VSs.cons (h : VSt Γ sc k P st s) (r : VSs Γ sc k P sts u) : VSs Γ sc k P (st :: sts) (vSeq s u) :=
  ⟨vSeq_mono h.1 r.1, fun X W ok tk => (pss_cons (h.2 X W ok tk) (r.2 X W ok tk)).impV fun D σ H ⟨c, G, vsL, osL, sl, sp, q⟩ => by
    rw [vSeq_at] at q
    refine liftS.of h.1 sl sp q (fun c' q' => ?_) (fun _ _ q => q) (fun _ q => q) (fun _ q => q) (fun _ _ _ q => q)
    intro σ' H' G' g p sl' sp'
    exact liftS.same r.1 sl' sp' g p q'⟩
theorem VSt.pass : VSt Γ sc k P (.Pass pos) vNext := ⟨vNext_mono, fun X W ok tk => ps_pass.impV fun D σ H ⟨c, G, vsL, osL, sl, sp, h⟩ => h σ H G (Same.refl _) .refl sl sp⟩
theorem VSt.brk : VSt Γ sc k P (.Break pos) vBreak := ⟨vBreak_mono, fun X W ok tk => ps_break.impV fun D σ H ⟨c, G, vsL, osL, sl, sp, h⟩ => h σ H G (Same.refl _) .refl sl sp⟩
theorem VSt.cont : VSt Γ sc k P (.Continue pos) vCont := ⟨vCont_mono, fun X W ok tk => ps_continue.impV fun D σ H ⟨c, G, vsL, osL, sl, sp, h⟩ => h σ H G (Same.refl _) .refl sl sp⟩
theorem VSt.never : VSt Γ sc k P st vNever := ⟨vNever_mono, fun X W ok tk => ps_never.impV fun D σ H ⟨c, G, vsL, osL, sl, sp, h⟩ => h⟩
theorem VSt.doc {x : Str} {j : Nat} {pos' : Pos} : VSt Γ sc k P (.Expr (.Constant (.str x) j pos) pos') vNext := ⟨vNext_mono, fun X W ok tk => ps_doc.impV fun D σ H ⟨c, G, vsL, osL, sl, sp, h⟩ => h σ H G (Same.refl _) .refl sl sp⟩
def notComp : Expr → Bool
  | .ListComp .. => false
  | .SetComp .. => false
  | .DictComp .. => false
  | _ => true
theorem swaps_no {e : Expr} {tg : Option Expr} {l : Nat} {env : Env} (h : notComp e = true) : swapsWith e tg l env = pure false := by
  cases e <;> first | rfl | cases h
theorem VSt.expr (h : VE Γ sc k e t) (n : notComp e = true) : VSt Γ sc k P (.Expr e pos) (vDrop t) :=
  ⟨vDrop_mono h.1, fun X W ok tk => (ps_expr (h.2 X W ok tk) (swaps_no n)).impV fun D σ H ⟨c, G, vsL, osL, sl, sp, q⟩ =>
    liftE.of h.1 sl sp q (fun _ _ _ q => KS.exE q) fun o c' v H' G' g sl' sp' q => q σ H' G' g .refl sl' sp'.tail⟩
theorem VSt.ret (h : VE Γ sc k e t) : VSt Γ sc k P (.Return (some e) pos) (vRet t) :=
  ⟨vRet_mono h.1, fun X W ok tk => (ps_ret (h.2 X W ok tk)).impV fun D σ H ⟨c, G, vsL, osL, sl, sp, q⟩ =>
    liftE.of h.1 sl sp q (fun _ _ _ q => KS.exE q) fun o c' v H' G' g sl' sp' q => q v σ H' G' g .refl sl' sp'⟩
theorem VSt.retN : VSt Γ sc k P (.Return none pos) vRetN :=
  ⟨vRetN_mono, fun X W ok tk => ps_retN.impV fun D σ H ⟨c, G, vsL, osL, sl, sp, q⟩ => q .non σ H G (Same.refl _) .refl sl (sp.cons .non)⟩
theorem VSt.ifs {a b : List Stmt} {c : DT} (hc : VT Γ sc k e c) (ha : VSs Γ sc k P a s) (hb : VSs Γ sc k P b u) : VSt Γ sc k P (.If e a b pos) (vIfS c s u) :=
  ⟨vIfS_mono hc.1 ha.1 hb.1, fun X W ok tk => (ps_if (hc.2 X W ok tk) (ha.2 X W ok tk) (hb.2 X W ok tk)).impV fun D σ H ⟨c, G, vsL, osL, sl, sp, q⟩ => by
    refine liftT.of hc.1 sl sp q (fun _ _ _ q => KS.exE q) fun d c' H' G' g sl' sp' q => ?_
    cases d with
    | true => exact liftS.same ha.1 sl' sp' g .refl q
    | false => exact liftS.same hb.1 sl' sp' g .refl q⟩
/-- the slot's store -/
theorem store_sep {σ : L2.St} {c : Cf} {G H : Hp} {vsL : List V} {osL : List O} {v : V} {o : O} {i : Nat} (sl : Slots σ c) (sp : Sep G H (v :: (vals σ ++ vsL)) (o :: (c ++ osL))) (hi : i < c.length) :
    Sep G H (vals (σ.set i (some v)) ++ vsL) (c.set i o ++ osL) := by
  have q := SepA.store (i := i) sp (by rw [List.length_append]; omega)
  rw [set_app (by rw [sl.len]; exact hi), set_app hi] at q
  rw [vals_set]
  exact q
theorem OkX.loc' {X : Cx} (ok : OkX Γ sc k X) {x : Str} (h : sc.names.lookup x = some .local ∨ sc.names.lookup x = some .cell) : Loc X.env.scope x ∧ (X.fn x = true ∨ X.env.scope.names.lookup x = some .local) := by
  rcases h with h | h
  · exact ⟨.inl (ok.loc x h), .inr (ok.loc x h)⟩
  · obtain ⟨h1, h2⟩ := ok.cel x h
    exact ⟨.inr h1, .inl h2⟩
theorem vAsg_run {mg : Str → Option Value} {W : WX} {P : List Nat} {i : Nat} {D : L2.Ends} {σ : L2.St} {H : Hp} {n : Nat} (m : Mono t) (hi : i < σ.length) (np : i ∈ P) (h : liftS mg W P (vAsg i t) D σ H) : tAsg (liftE mg W t) (gName i) D σ H := by
  obtain ⟨c, G, vsL, osL, sl, sp, q⟩ := h
  refine liftE.of m sl sp q (fun _ _ _ q => KS.exE q) fun o c' v H' G' g sl' sp' q => ?_
  exact q _ H' G' g (PinS.set np) sl'.store (store_sep sl' sp' (by rw [sl'.1]; exact hi))
theorem Inv.slen {X : Cx} {pins : List (Addr × Obj)} {σ : L2.St} {H : Hp} {s : Shared} (I : Inv X pins σ H s) : σ.length = X.N.length := I.len
/-- a reading may use that the slots are as many as the names -/
theorem _root_.L2.PS.impL {X : Cx} {st : Stmt} {t u : TS} (h : PS X st t) (hi : ∀ D σ H, σ.length = X.N.length → u D σ H → t D σ H) : PS X st u := ⟨fun pins s σ H D I q => h.run pins s σ H D I (hi _ _ _ I.len q)⟩
theorem VSt.asg {x : Str} {p : Pos} {i : Nat} (hx : asgOf Γ sc x = some i) (hP : i ∈ P) (h : VE Γ sc k e t) (n : notComp e = true) : VSt Γ sc k P (.Assign [.Name x p] e pos) (vAsg i t) := by
  obtain ⟨h1, h3⟩ := asgOf_at hx
  refine ⟨vAsg_mono h.1, fun X W ok tk => ?_⟩
  obtain ⟨q1, q2⟩ := ok.loc' h3
  refine (ps_set (i := i) ok.nd (by rw [ok.N]; exact h1) q1 (h.2 X W ok tk) (swaps_no n) q2).impL fun D σ H hl q => ?_
  exact vAsg_run (n := 0) h.1 (by rw [hl, ok.N]; exact (List.getElem?_eq_some_iff.mp h1).1) hP q
/-! ### two or three names at once -/
def setAll : Cf → List Nat → List O → Cf
  | c, i :: is, o :: os => setAll (c.set i o) is os
  | c, _, _ => c
def vPar (is : List Nat) (ops : List Opd) : DS := fun D c => evOps ops D.ex c fun os c1 => D.nx (setAll c1 is os)
theorem vPar_mono {is : List Nat} {ops : List Opd} (m : MonoO ops) : MonoS (vPar is ops) := fun D D' c h1 h2 h3 h4 h5 h => evOps_mono m _ _ _ _ _ h5 (fun _ c q => h1 _ q) h
def isEx : Opd → Bool
  | .ex _ => true
  | .sl _ => false
theorem mergeV_ex : ∀ {ops : List Opd} {vs tvs : List V}, ops.all isEx = true → tvs.length = ops.length → mergeV ops vs tvs = tvs
  | [], vs, [], _, _ => rfl
  | [], vs, _ :: _, _, h => by cases h
  | .ex t :: r, vs, [], _, h => by cases h
  | .ex t :: r, vs, tv :: tvs, h, hl => by
    rw [mergeV, mergeV_ex (ops := r) (by rw [List.all_cons, Bool.and_eq_true] at h; exact h.2) (by simpa using hl)]
  | .sl i :: r, vs, tvs, h, hl => by simp [isEx] at h
/-- how many have been reckoned -/
theorem evOps_len : ∀ {ops : List Opd} {E : XP} {c : Cf} {K : List O → Cf → Prop}, ops.all isEx = true → MonoO ops → evOps ops E c K → evOps ops E c fun os c1 => os.length = ops.length ∧ K os c1
  | [], E, c, K, _, _, h => ⟨rfl, h⟩
  | .sl i :: r, E, c, K, a, _, _ => by simp [isEx] at a
  | .ex t :: r, E, c, K, a, m, h => m.1 E E c _ _ (fun _ _ _ q => q) (fun o c1 q => by
      have q2 := evOps_len (ops := r) (by rw [List.all_cons, Bool.and_eq_true] at a; exact a.2) m.2 q
      exact evOps_mono m.2 _ _ _ _ _ (fun _ _ _ q => q) (fun os c2 ⟨z1, z2⟩ => ⟨by simp [z1], z2⟩) q2) h
theorem setAll_sep {G H : Hp} {vsL : List V} {osL : List O} {P : List Nat} : ∀ {is : List Nat} {xs : List V} {os : List O} {σ : L2.St} {c : Cf}, xs.length = os.length → is.length = os.length → (∀ i ∈ is, i < σ.length ∧ i ∈ P) → Slots σ c → Sep G H (xs ++ (vals σ ++ vsL)) (os ++ (c ++ osL)) →
    Slots ((is.zip xs).foldl (fun s p => s.set p.1 (some p.2)) σ) (setAll c is os) ∧ PinS P σ ((is.zip xs).foldl (fun s p => s.set p.1 (some p.2)) σ) ∧ Sep G H (vals ((is.zip xs).foldl (fun s p => s.set p.1 (some p.2)) σ) ++ vsL) (setAll c is os ++ osL)
  | [], [], [], σ, c, _, _, _, sl, sp => ⟨sl, .refl, sp⟩
  | [], _ :: _, [], _, _, h, _, _, _, _ => by cases h
  | [], _, _ :: _, _, _, _, h, _, _, _ => by cases h
  | _ :: _, _, [], _, _, _, h, _, _, _ => by cases h
  | _ :: _, [], _ :: _, _, _, h, _, _, _, _ => by cases h
  | i :: is, x :: xs, o :: os, σ, c, hx, hi, hP, sl, sp => by
    have hx' : xs.length = os.length := by simpa using hx
    -- the first to the place behind the others
    have s1 := SepA.one (vs2 := xs) (os2 := os) sp hx'
    have s2 := SepA.rot (ws := xs) (ps := os) (vs2 := [x]) (os2 := [o]) s1 hx' rfl
    have h0 := hP i (List.mem_cons_self ..)
    have s3 : Sep G H (xs ++ (x :: (vals σ ++ vsL))) (os ++ (o :: (c ++ osL))) := s1
    have s4 : Sep G H (xs ++ (vals (σ.set i (some x)) ++ vsL)) (os ++ (c.set i o ++ osL)) := by
      have q := SepA.store (i := os.length + i) (SepA.unone s3 hx') (by simp only [List.length_append]; rw [sl.1]; omega)
      rw [← hx', List.set_append_right _ _ (by omega), Nat.add_sub_cancel_left, set_app (by rw [sl.len, sl.1]; exact h0.1), hx', List.set_append_right _ _ (by omega), Nat.add_sub_cancel_left, set_app (by rw [sl.1]; exact h0.1)] at q
      rw [vals_set]
      exact q
    obtain ⟨q1, q2, q3⟩ := setAll_sep (P := P) (is := is) hx' (by simpa using hi) (fun j hj => by
      rw [List.length_set]; exact hP j (List.mem_cons_of_mem _ hj)) (sl.store (i := i) (o := o) (v := x)) s4
    exact ⟨q1, (PinS.set h0.2).trans q2, q3⟩
theorem vPar_run {mg : Str → Option Value} {W : WX} {P : List Nat} {is : List Nat} {ops : List Opd} {D : L2.Ends} {σ : L2.St} {H : Hp} (m : MonoO ops) (a : ops.all isEx = true) (hl : is.length = ops.length) (hP : ∀ i ∈ is, i < σ.length ∧ i ∈ P)
    (h : liftS mg W P (vPar is ops) D σ H) : tas mg W ops σ H fun vs H1 => vs.length = is.length ∧ D.nx ((is.zip vs).foldl (fun s p => s.set p.1 (some p.2)) σ) H1 := by
  obtain ⟨c, G, vsL, osL, sl, sp, q⟩ := h
  refine ops_run m sl sp (evOps_len a m q) (fun _ _ _ q => KS.exE q) fun ts c' tvs H' G' g sl' ht sp' ⟨hlen, k⟩ => ?_
  rw [mergeV_ex a (by rw [ht, hlen])]
  obtain ⟨q1, q2, q3⟩ := setAll_sep (P := P) (is := is) ht (by rw [hl, hlen]) hP sl' sp'
  exact ⟨by rw [ht, hlen, hl], k _ H' G' g q2 q1 q3⟩
/-- the model stores these names from the right, the pair is never looked at -/
structure ParOk (vs : List Expr) : Prop where
  st : vs.all noStar = true
  f : vs.all (foldedForSure 8) = false
  c : vs.all (constantsAlone 8) = false
theorem noStar_any {vs : List Expr} (h : vs.all noStar = true) : (vs.any fun | .Starred .. => true | _ => false) = false := by
  induction vs with
  | nil => rfl
  | cons e es ih =>
    rw [List.all_cons, Bool.and_eq_true] at h
    rw [List.any_cons, ih h.2, Bool.or_false]
    cases e <;> first | rfl | cases h.1
theorem swapped2 {env : Env} {x y : Str} {px py pt pt2 : Pos} {kt k2 : Nat} {a b : Expr} (kx : env.kindOf x = some .local) (ky : env.kindOf y = some .local) (hb : env.blockKind = .function) (hxy : (x == y) = false) (hl : (py.line == px.line) = true) (p : ParOk [a, b]) :
    swappedStores [.Tuple [.Name x px, .Name y py] kt pt] (.Tuple [a, b] k2 pt2) env = pure (some [x, y]) := by
  have h1 := noStar_any p.st
  have h2 := p.f
  have h3 := p.c
  have hl' : (py.line == (Expr.Name x px).pos.line) = true := hl
  have hl0 : (px.line == (Expr.Name x px).pos.line) = true := by show (px.line == px.line) = true; exact beq_self_eq_true _
  have e : ([x, y] : List Str).eraseDups.length = 2 := by
    have : (y == x) = false := by
      cases q : y == x with
      | false => rfl
      | true =>
        have z : y = x := by simpa using q
        rw [z] at hxy
        simp at hxy
    simp [List.eraseDups, List.eraseDupsBy, List.eraseDupsBy.loop, this]
  unfold swappedStores
  simp only [List.length_cons, List.length_nil, List.head?_cons, Option.map_some, Option.getD_some, List.filterMap_cons, List.filterMap_nil, kx, ky, hb, hl', hl0, beq_self_eq_true, Bool.and_self, if_true, h2, h3, e]
  rw [if_neg (show ¬ ((!(true || 0 + 1 + 1 == 3) || 0 + 1 + 1 != 0 + 1 + 1 || ScopeKind.function != ScopeKind.function) = true) by decide)]
  exact (if_neg (fun h => Bool.noConfusion (h1.symm.trans h))).trans rfl
theorem swapped3 {env : Env} {x y z : Str} {px py pz pt pt2 : Pos} {kt k2 : Nat} {a b c : Expr} (kx : env.kindOf x = some .local) (ky : env.kindOf y = some .local) (kz : env.kindOf z = some .local) (hb : env.blockKind = .function)
    (hd : ([x, y, z] : List Str).eraseDups.length = 3) (hl : (py.line == px.line) = true) (hl2 : (pz.line == px.line) = true) (p : ParOk [a, b, c]) :
    swappedStores [.Tuple [.Name x px, .Name y py, .Name z pz] kt pt] (.Tuple [a, b, c] k2 pt2) env = pure (some [x, y, z]) := by
  have h1 := noStar_any p.st
  have h2 := p.f
  have h3 := p.c
  have hl' : (py.line == (Expr.Name x px).pos.line) = true := hl
  have hl2' : (pz.line == (Expr.Name x px).pos.line) = true := hl2
  have hl0 : (px.line == (Expr.Name x px).pos.line) = true := by show (px.line == px.line) = true; exact beq_self_eq_true _
  unfold swappedStores
  simp only [List.length_cons, List.length_nil, List.head?_cons, Option.map_some, Option.getD_some, List.filterMap_cons, List.filterMap_nil, kx, ky, kz, hb, hl', hl2', hl0, beq_self_eq_true, Bool.and_self, if_true, h2, h3, hd]
  rw [if_neg (show ¬ ((!(0 + 1 + 1 + 1 == 2 || true) || 0 + 1 + 1 + 1 != 0 + 1 + 1 + 1 || ScopeKind.function != ScopeKind.function) = true) by decide)]
  exact (if_neg (fun h => Bool.noConfusion (h1.symm.trans h))).trans rfl
theorem VSt.par2 {x y : Str} {a b : Expr} {i j : Nat} {oa ob' : Opd} {px py pt : Pos} {kt k2 : Nat} {pt2 : Pos} (hP : ∀ l ∈ [i, j], l ∈ P) (hx : asgOf Γ sc x = some i) (hy : asgOf Γ sc y = some j) (lx : sc.names.lookup x = some .local) (ly : sc.names.lookup y = some .local) (hij : i ≠ j)
    (ha : VA Γ sc k [a, b] [oa, ob']) (ex : [oa, ob'].all isEx = true) (hxy : (x == y) = false) (hl : (py.line == px.line) = true) (po : ParOk [a, b]) : VSt Γ sc k P (.Assign [.Tuple [.Name x px, .Name y py] kt pt] (.Tuple [a, b] k2 pt2) pos) (vPar [i, j] [oa, ob']) := by
  obtain ⟨h1, _⟩ := asgOf_at hx
  obtain ⟨g1, _⟩ := asgOf_at hy
  refine ⟨vPar_mono ha.1, fun X W ok tk => ⟨fun pins s σ H D I q => ?_⟩⟩
  have hw : swappedStores [.Tuple [.Name x px, .Name y py] kt pt] (.Tuple [a, b] k2 pt2) X.env = pure (some [x, y]) := swapped2 (ok.loc x lx) (ok.loc y ly) (by unfold Env.blockKind; rw [I.ok.kind]; rfl) hxy hl po
  refine (ps_par (i := i) (j := j) ok.calm ok.nd (by rw [ok.N]; exact h1) (by rw [ok.N]; exact g1) hij (ok.loc x lx) (ok.loc y ly) (ha.2 X W ok tk) hw).run pins s σ H D I ?_
  have hlen := I.len
  have hlt : ∀ l ∈ [i, j], l < σ.length ∧ l ∈ P := by
    intro l hl
    simp only [List.mem_cons, List.not_mem_nil, or_false] at hl
    rw [hlen, ok.N]
    rcases hl with rfl | rfl
    · exact ⟨(List.getElem?_eq_some_iff.mp h1).1, hP _ (by simp)⟩
    · exact ⟨(List.getElem?_eq_some_iff.mp g1).1, hP _ (by simp)⟩
  have q2 := vPar_run ha.1 ex rfl hlt q
  have e : (fun vs H1 => vs.length = [i, j].length ∧ D.nx (([i, j].zip vs).foldl (fun s p => s.set p.1 (some p.2)) σ) H1) = (fun (vs : List V) H1 => ∃ v w, vs = [v, w] ∧ D.nx ((σ.set i (some v)).set j (some w)) H1) := by
    funext vs H1
    refine propext ⟨fun ⟨z1, z2⟩ => ?_, fun ⟨v, w, e, z⟩ => ?_⟩
    · match vs, z1 with
      | [v, w], _ => exact ⟨v, w, rfl, z2⟩
    · subst e
      exact ⟨rfl, z⟩
  rw [e] at q2
  exact q2
theorem VSt.par3 {x y z : Str} {a b c : Expr} {i j l : Nat} {oa ob' oc : Opd} {px py pz pt : Pos} {kt k2 : Nat} {pt2 : Pos} (hP : ∀ m ∈ [i, j, l], m ∈ P) (hx : asgOf Γ sc x = some i) (hy : asgOf Γ sc y = some j) (hz : asgOf Γ sc z = some l) (lx : sc.names.lookup x = some .local) (ly : sc.names.lookup y = some .local) (lz : sc.names.lookup z = some .local)
    (hij : i ≠ j) (hil : i ≠ l) (hjl : j ≠ l) (ha : VA Γ sc k [a, b, c] [oa, ob', oc]) (ex : [oa, ob', oc].all isEx = true) (hd : ([x, y, z] : List Str).eraseDups.length = 3) (hl : (py.line == px.line) = true) (hl2 : (pz.line == px.line) = true) (po : ParOk [a, b, c]) :
    VSt Γ sc k P (.Assign [.Tuple [.Name x px, .Name y py, .Name z pz] kt pt] (.Tuple [a, b, c] k2 pt2) pos) (vPar [i, j, l] [oa, ob', oc]) := by
  obtain ⟨h1, _⟩ := asgOf_at hx
  obtain ⟨g1, _⟩ := asgOf_at hy
  obtain ⟨f1, _⟩ := asgOf_at hz
  refine ⟨vPar_mono ha.1, fun X W ok tk => ⟨fun pins s σ H D I q => ?_⟩⟩
  have hw := swapped3 (kt := kt) (pt := pt) (k2 := k2) (pt2 := pt2) (ok.loc x lx) (ok.loc y ly) (ok.loc z lz) (show X.env.blockKind = .function by unfold Env.blockKind; rw [I.ok.kind]; rfl) hd hl hl2 po
  refine (ps_par3 (i := i) (j := j) (l := l) ok.calm ok.nd (by rw [ok.N]; exact h1) (by rw [ok.N]; exact g1) (by rw [ok.N]; exact f1) hij hil hjl (ok.loc x lx) (ok.loc y ly) (ok.loc z lz) (ha.2 X W ok tk) hw).run pins s σ H D I ?_
  have hlen := I.len
  have hlt : ∀ m ∈ [i, j, l], m < σ.length ∧ m ∈ P := by
    intro m hm
    simp only [List.mem_cons, List.not_mem_nil, or_false] at hm
    rw [hlen, ok.N]
    rcases hm with rfl | rfl | rfl
    · exact ⟨(List.getElem?_eq_some_iff.mp h1).1, hP _ (by simp)⟩
    · exact ⟨(List.getElem?_eq_some_iff.mp g1).1, hP _ (by simp)⟩
    · exact ⟨(List.getElem?_eq_some_iff.mp f1).1, hP _ (by simp)⟩
  have q2 := vPar_run ha.1 ex rfl hlt q
  have e : (fun vs H1 => vs.length = [i, j, l].length ∧ D.nx (([i, j, l].zip vs).foldl (fun s p => s.set p.1 (some p.2)) σ) H1) = (fun (vs : List V) H1 => ∃ u v w, vs = [u, v, w] ∧ D.nx (((σ.set i (some u)).set j (some v)).set l (some w)) H1) := by
    funext vs H1
    refine propext ⟨fun ⟨z1, z2⟩ => ?_, fun ⟨u, v, w, e, z⟩ => ?_⟩
    · match vs, z1 with
      | [u, v, w], _ => exact ⟨u, v, w, rfl, z2⟩
    · subst e
      exact ⟨rfl, z⟩
  rw [e] at q2
  exact q2
end
end VS
namespace VS
open PySem PySem.Spec PyProof.Rows L2
/-! ## targets -/
abbrev DG := O → Cf → (Cf → Prop) → Prop
def MonoG (g : DG) : Prop := ∀ (o : O) (c : Cf) (Q Q' : Cf → Prop), (∀ c, Q c → Q' c) → g o c Q → g o c Q'
def KG (P : List Nat) (σ : L2.St) (vsL : List V) (osL : List O) (G : Hp) (Q : L2.St → Hp → Prop) : Cf → Prop := fun c' =>
  ∀ σ' H' G', Same G G' → PinS P σ σ' → σ'.length = σ.length → Slots σ' c' → Sep G' H' (vals σ' ++ vsL) (c' ++ osL) → Q σ' H'
def liftG (P : List Nat) (g : DG) : TG := fun v σ H Q => ∃ o c G vsL osL, Slots σ c ∧ Sep G H (v :: (vals σ ++ vsL)) (o :: (c ++ osL)) ∧ g o c (KG P σ vsL osL G Q)
def VG (Γ : Sg) (sc : Scope) (k : Nat) (P : List Nat) (tg : Expr) (g : DG) : Prop := MonoG g ∧ ∀ X, OkX Γ sc k X → PG X tg (liftG P g)
theorem _root_.L2.PG.impL {X : Cx} {tg : Expr} {t u : TG} (h : PG X tg t) (hi : ∀ v σ H Q, σ.length = X.N.length → u v σ H Q → t v σ H Q) : PG X tg u := ⟨fun pins s σ H v u Q I r q => h.run pins s σ H v u Q I r (hi _ _ _ _ I.len q)⟩
def gN (i : Nat) : DG := fun o c k => k (c.set i o)
theorem gN_mono {i : Nat} : MonoG (gN i) := fun o c Q Q' h q => h _ q
section
variable {Γ : Sg} {sc : Scope} {k : Nat} {P : List Nat}
theorem VG.name {x : Str} {p : Pos} {i : Nat} (hx : asgOf Γ sc x = some i) (hP : i ∈ P) : VG Γ sc k P (.Name x p) (gN i) := by
  obtain ⟨h1, h3⟩ := asgOf_at hx
  refine ⟨gN_mono, fun X ok => ?_⟩
  obtain ⟨q1, q2⟩ := ok.loc' h3
  refine (pg_name (i := i) ok.nd (by rw [ok.N]; exact h1) q1 q2).impL fun v σ H Q hl q => ?_
  obtain ⟨o, c, G, vsL, osL, sl, sp, q⟩ := q
  exact q _ H G (Same.refl _) (PinS.set hP) (by simp) sl.store (store_sep sl sp (by rw [sl.1, hl, ok.N]; exact (List.getElem?_eq_some_iff.mp h1).1))
/-- the parts of a tuple, in order -/
abbrev DGs := List O → Cf → (Cf → Prop) → Prop
def gsNil : DGs := fun os c k => os = [] ∧ k c
def gsCons (g : DG) (r : DGs) : DGs := fun os c k => match os with
  | o :: os => g o c fun c1 => r os c1 k
  | [] => False
def gT (n : Nat) (r : DGs) : DG := fun o c k => match o with
  | .fz (.nd .tup ds) => ds.length = n ∧ r (ds.map O.fz) c k
  | .own .tup os => os.length = n ∧ r os c k
  | .fz (.nd .lst ds) => ds.length = n ∧ r (ds.map O.fz) c k
  | .own .lst os => os.length = n ∧ r os c k
  | _ => False
def MonoGs (g : DGs) : Prop := ∀ (o : List O) (c : Cf) (Q Q' : Cf → Prop), (∀ c, Q c → Q' c) → g o c Q → g o c Q'
def liftGs (P : List Nat) (g : DGs) : TGs := fun vs σ H Q => ∃ os c G vsL osL, vs.length = os.length ∧ Slots σ c ∧ Sep G H (vs ++ (vals σ ++ vsL)) (os ++ (c ++ osL)) ∧ g os c (KG P σ vsL osL G Q)
def VGs (Γ : Sg) (sc : Scope) (k : Nat) (P : List Nat) (tgs : List Expr) (n : Nat) (g : DGs) : Prop := MonoGs g ∧ tgs.length = n ∧ ∀ X, OkX Γ sc k X → PGs X tgs (liftGs P g)
theorem _root_.L2.PGs.impV {X : Cx} {tg : List Expr} {t u : TGs} (h : PGs X tg t) (hi : ∀ v σ H Q, u v σ H Q → t v σ H Q) : PGs X tg u := ⟨fun pins s σ H v u Q I r q => h.run pins s σ H v u Q I r (hi _ _ _ _ q)⟩
theorem VGs.nil : VGs Γ sc k P [] 0 gsNil := by
  refine ⟨fun o c Q Q' h q => ⟨q.1, h _ q.2⟩, rfl, fun X ok => pgs_nil.impV fun vs σ H Q ⟨os, c, G, vsL, osL, hl, sl, sp, q1, q2⟩ => ?_⟩
  subst q1
  have e : vs = [] := List.eq_nil_of_length_eq_zero hl
  subst e
  exact ⟨rfl, q2 σ H G (Same.refl _) .refl rfl sl sp⟩
/-- a target that the model takes one by one -/
def tgPlain : Expr → Bool
  | .Name .. => true
  | .Tuple .. => true
  | .Subscript .. => true
  | .Attribute .. => true
  | _ => false
theorem assignEach_cons {e : Expr} {es : List Expr} {env : Env} (h : tgPlain e = true) : assignEach (e :: es) env = (false, assign e env) :: assignEach es env := by
  cases e <;> first | rfl | cases h
theorem VGs.cons {e : Expr} {es : List Expr} {n : Nat} {g : DG} {r : DGs} (h : VG Γ sc k P e g) (hr : VGs Γ sc k P es n r) (p : tgPlain e = true) : VGs Γ sc k P (e :: es) (n + 1) (gsCons g r) := by
  refine ⟨fun os c Q Q' hq q => ?_, by rw [List.length_cons, hr.2.1], fun X ok => (pgs_cons (h.2 X ok) (hr.2.2 X ok) (by rw [assignEach_cons p]; rfl)).impV fun vs σ H Q ⟨os, c, G, vsL, osL, hl, sl, sp, q⟩ => ?_⟩
  · cases os with
    | nil => exact q
    | cons o os => exact h.1 _ _ _ _ (fun c1 q1 => hr.1 _ _ _ _ hq q1) q
  · cases os with
    | nil => exact False.elim q
    | cons o os =>
      cases vs with
      | nil => cases hl
      | cons v vs =>
        have hl' : vs.length = os.length := by simpa using hl
        refine ⟨v, vs, rfl, o, c, G, vs ++ vsL, os ++ osL, sl, ?_, ?_⟩
        · have s1 := SepA.rot (ws := vs) (ps := os) (vs2 := vals σ) (os2 := c) (SepA.tail sp) hl' sl.len
          have s2 := SepA.rot (ws := [v] ++ vs) (ps := [o] ++ os) (vs2 := vals σ) (os2 := c) sp (by simp [hl']) sl.len
          have s3 := SepA.unone (vs2 := vals σ) (os2 := c) (v := v) (o := o) (vs := vs ++ vsL) (os := os ++ osL) (by simpa using s2) sl.len
          exact s3
        · refine h.1 _ _ _ _ (fun c1 q1 => ?_) q
          intro σ1 H1 G1 g1 p1 l1 sl1 sp1
          refine ⟨os, c1, G1, vsL, osL, hl', sl1, SepA.rot (ws := vals σ1) (ps := c1) (vs2 := vs) (os2 := os) sp1 sl1.len hl', ?_⟩
          refine hr.1 _ _ _ _ (fun c2 q2 => ?_) q1
          exact fun σ2 H2 G2 g2 p2 l2 sl2 sp2 => q2 σ2 H2 G2 (g1.trans g2) (p1.trans p2) (l2.trans l1) sl2 sp2
theorem assignEach_len {env : Env} : ∀ {es : List Expr}, es.all tgPlain = true → (assignEach es env).length = es.length ∧ (assignEach es env).findIdx? (·.1) = none
  | [], _ => ⟨rfl, rfl⟩
  | e :: es, h => by
    rw [List.all_cons, Bool.and_eq_true] at h
    rw [assignEach_cons h.1]
    obtain ⟨h1, h2⟩ := assignEach_len (env := env) h.2
    refine ⟨by rw [List.length_cons, List.length_cons, h1], ?_⟩
    rw [List.findIdx?_cons, h2]
    rfl
theorem _root_.L2.PG.orG {X : Cx} {tg : Expr} {t u : TG} (h1 : PG X tg t) (h2 : PG X tg u) : PG X tg (fun v σ H Q => t v σ H Q ∨ u v σ H Q) := ⟨fun pins s σ H v w Q I r hw => hw.elim (h1.run pins s σ H v w Q I r) (h2.run pins s σ H v w Q I r)⟩
/-- a place that was kept is let go -/
theorem SepA.forget {A B : List Addr} {G H : Hp} {vs : List V} {os : List O} (s : SepA (B ++ A) G H vs os) : SepA A G H vs os := by
  obtain ⟨F, h, nd, hG, hA, g⟩ := s
  refine ⟨F, h, ?_, fun a ha => hG a ?_, fun a ha => hA a (List.mem_append_right _ ha), g⟩
  · rw [List.append_assoc] at nd
    exact (List.nodup_append.mp nd).2.1
  · rw [List.append_assoc]
    exact List.mem_append_right _ ha
theorem VG.tup {es : List Expr} {n kk : Nat} {pos : Pos} {r : DGs} (h : VGs Γ sc k P es n r) (p : es.all tgPlain = true) : VG Γ sc k P (.Tuple es kk pos) (gT n r) := by
  refine ⟨fun o c Q Q' hq q => ?_, fun X ok => ((pg_tup (n := n) ok.calm (h.2.2 X ok) (by rw [(assignEach_len p).1, h.2.1]) (assignEach_len p).2).orG (pg_lst (n := n) ok.calm (h.2.2 X ok) (by rw [(assignEach_len p).1, h.2.1]) (assignEach_len p).2)).impL fun v σ H Q _ q => ?_⟩
  · unfold gT at q ⊢
    split at q
    · exact ⟨q.1, h.1 _ _ _ _ hq q.2⟩
    · exact ⟨q.1, h.1 _ _ _ _ hq q.2⟩
    · exact ⟨q.1, h.1 _ _ _ _ hq q.2⟩
    · exact ⟨q.1, h.1 _ _ _ _ hq q.2⟩
    · exact q
  · obtain ⟨o, c, G, vsL, osL, sl, sp, q⟩ := q
    unfold gT at q
    split at q
    · rename_i ds
      have rv := sp.rp
      cases rv with
      | nd ha sh r =>
        rename_i a ob vs
        obtain rfl := sh.ex rfl
        refine .inl ⟨a, vs, rfl, .inl (.inl (sp.same.ex ha id)), by rw [r.length]; exact q.1, _, c, G, vsL, osL, by rw [List.length_map]; exact r.length, sl, sp.tail.conss r, q.2⟩
    · rename_i os
      obtain ⟨a, ob, ws, e, ha, sh, hl, s2⟩ := sp.open_
      cases sh
      exact .inl ⟨a, ws, e, .inl (.inl ha), by rw [hl]; exact q.1, os, c, G, vsL, osL, hl, sl, s2, q.2⟩
    · rename_i ds
      have rv := sp.rp
      cases rv with
      | nd ha sh r =>
        rename_i a ob vs
        obtain rfl := sh.ex rfl
        refine .inr ⟨a, vs, rfl, .inl (.inl (sp.same.ex ha id)), by rw [r.length]; exact q.1, _, c, G, vsL, osL, by rw [List.length_map]; exact r.length, sl, sp.tail.conss r, q.2⟩
    · rename_i os
      obtain ⟨a, ob, ws, e, ha, sh, hl, s2⟩ := sp.open_
      cases sh
      exact .inr ⟨a, ws, e, .inl (.inl ha), by rw [hl]; exact q.1, os, c, G, vsL, osL, hl, sl, s2.forget, q.2⟩
    · exact q.elim
end
/-! ## what is walked -/
/-- the turns of an iterator give the items, while the operands' values are as they were -/
def ItD (G0 : Hp) (J : It) (vs : List V) (os : List O) (items : List D) : Prop := ∀ (i : Nat) (G H : Hp) (F : List Addr), Same G0 G → Same G H → Ows G H vs os F →
  (∀ d, items[i]? = some d → J.go i H ∧ ∀ x H', J.yld i H x H' → ∃ G', NewS G H G' H' x (.fz d)) ∧ (i = items.length → J.stop i H)
abbrev Itf := List O → Option (List D)
/-- what is walked is there, maybe locked -/
def LockS (G H G' H' : Hp) : Prop := Same G G' ∧ ∀ A vs os, SepA A G H vs os → SepA A G' H' vs os
def PiR (r : List V → Hp → (It → Hp → Prop) → Prop) (itf : Itf) : Prop := ∀ (G H : Hp) (vs : List V) (os : List O) (F : List Addr) (items : List D) (R : It → Hp → Prop), Same G H → Ows G H vs os F → itf os = some items → (∀ J H' G', LockS G H G' H' → ItD G' J vs os items → R J H') → r vs H R
/-- tg walks iter: its operands, its items -/
def VI (Γ : Sg) (sc : Scope) (k : Nat) (tg iter : Expr) (ops : List Opd) (itf : Itf) : Prop := MonoO ops ∧ ∀ X W, OkX Γ sc k X → Takes X W → ∃ wi r, PI X tg iter wi ∧ PiR r itf ∧ ∀ σ H R, (tas X.mg W ops σ H fun vs H1 => r vs H1 R) → wi σ H R
/-- an owned thing that is walked stays as it is -/
def keepOps (ops : List Opd) (c1 : Cf) (c : Cf) : Prop := ∀ i, Opd.sl i ∈ ops → ∀ t os, c1[i]? = some (.own t os) → c[i]? = some (.own t os)
def vForL (kp : Cf → Prop) (g : DG) (body : DS) : List D → DS
  | [], D, c => kp c ∧ D.nx c
  | d :: ds, D, c => kp c ∧ g (.fz d) c fun c1 => body { D with nx := vForL kp g body ds D, ct := vForL kp g body ds D, bk := D.nx } c1
def vFor (ops : List Opd) (itf : Itf) (g : DG) (body : DS) : DS := fun D c => evOps ops D.ex c fun ts c1 => ob (opsO ops c1 ts) fun ds => ob (itf ds) fun items => vForL (keepOps ops c1) g body items D c1
theorem vForL_mono {kp : Cf → Prop} {g : DG} {body : DS} (mg : MonoG g) (mb : MonoS body) : ∀ items, MonoS (vForL kp g body items)
  | [], D, D', c, h1, h2, h3, h4, h5, h => ⟨h.1, h1 _ h.2⟩
  | d :: ds, D, D', c, h1, h2, h3, h4, h5, h => ⟨h.1, mg _ _ _ _ (fun c1 q => mb { D with nx := _, ct := _, bk := D.nx } { D' with nx := _, ct := _, bk := D'.nx } c1
      (fun c2 q => vForL_mono mg mb ds D D' c2 h1 h2 h3 h4 h5 q) h2 (fun c2 q => h1 _ q) (fun c2 q => vForL_mono mg mb ds D D' c2 h1 h2 h3 h4 h5 q) h5 q) h.2⟩
theorem vFor_mono {ops : List Opd} {itf : Itf} {g : DG} {body : DS} (m : MonoO ops) (mg : MonoG g) (mb : MonoS body) : MonoS (vFor ops itf g body) := fun D D' c h1 h2 h3 h4 h5 h => evOps_mono m _ _ _ _ _ h5 (fun ts c1 q => by
  obtain ⟨ds, e1, q⟩ := ob_iff.mp q
  obtain ⟨items, e2, q⟩ := ob_iff.mp q
  exact ob_iff.mpr ⟨ds, e1, ob_iff.mpr ⟨items, e2, vForL_mono mg mb items _ _ _ h1 h2 h3 h4 h5 q⟩⟩) h
/-- what a frozen slot held is known for good -/
def FzOps (G : Hp) (ops : List Opd) (c1 : Cf) (vs : List V) : Prop := ∀ i, Opd.sl i ∈ ops → ∀ d, c1[i]? = some (.fz d) → ∃ v, vs[i]? = some v ∧ Rp G v d
/-- the operands' readings from the frozen slots, the kept ones and the temporaries -/
theorem ows_keep {G H : Hp} {ws : List V} {ps : List O} : ∀ {ops : List Opd} {vs0 vs : List V} {c1 c : Cf} {tvs : List V} {ts os : List O}, Sep G H (tvs ++ (vs ++ ws)) (ts ++ (c ++ ps)) → tvs.length = ts.length → vs.length = c.length → opsO ops c1 ts = some os →
    FzOps G ops c1 vs0 → keepOps ops c1 c → (∀ i, Opd.sl i ∈ ops → ∀ t os, c1[i]? = some (.own t os) → vs[i]? = vs0[i]?) → ∃ F, Ows G H (mergeV ops vs0 tvs) os F
  | [], vs0, vs, c1, c, tvs, ts, os, sp, hl, hc, h, hf, hk, hv => by cases h; exact ⟨_, .nil⟩
  | .sl i :: r, vs0, vs, c1, c, tvs, ts, os, sp, hl, hc, h, hf, hk, hv => by
    obtain ⟨o, ho, h⟩ := Option.bind_eq_some_iff.mp h
    obtain ⟨os', hr, rfl⟩ := Option.map_eq_some_iff.mp h
    obtain ⟨F5, rest⟩ := ows_keep (ops := r) (vs0 := vs0) sp hl hc hr (fun j hj => hf j (List.mem_cons_of_mem _ hj)) (fun j hj => hk j (List.mem_cons_of_mem _ hj)) (fun j hj => hv j (List.mem_cons_of_mem _ hj))
    cases o with
    | fz d' =>
      obtain ⟨v, e1, e2⟩ := hf i (List.mem_cons_self ..) _ ho
      refine ⟨[] ++ F5, .cons (v := (vs0[i]?.getD .non)) ?_ rest⟩
      rw [e1]
      exact .fz e2
    | own t os =>
      have e := hk i (List.mem_cons_self ..) t os ho
      obtain ⟨F, h0, nd, hG, hA, g⟩ := sp
      obtain ⟨F1, F2, _, q1, q2⟩ := h0.split hl
      obtain ⟨F3, F4, _, q3, q4⟩ := q2.split hc
      obtain ⟨v, G1, G2, e1, e2, _⟩ := q3.take e
      rw [hv i (List.mem_cons_self ..) t os ho] at e1
      refine ⟨G1 ++ F5, .cons (v := (vs0[i]?.getD .non)) ?_ rest⟩
      rw [e1]
      exact e2
  | .ex _ :: r, vs0, vs, c1, c, [], [], os, sp, hl, hc, h, hf, hk, hv => by cases h
  | .ex _ :: r, vs0, vs, c1, c, [], _ :: _, os, sp, hl, hc, h, hf, hk, hv => by cases hl
  | .ex _ :: r, vs0, vs, c1, c, _ :: _, [], os, sp, hl, hc, h, hf, hk, hv => by cases hl
  | .ex _ :: r, vs0, vs, c1, c, tv :: tvs, t :: ts, os, sp, hl, hc, h, hf, hk, hv => by
    obtain ⟨os', hr, rfl⟩ := Option.map_eq_some_iff.mp h
    obtain ⟨F5, q⟩ := ows_keep (ops := r) (vs0 := vs0) (SepA.tail sp) (by simpa using hl) hc hr (fun j hj => hf j (List.mem_cons_of_mem _ hj)) (fun j hj => hk j (List.mem_cons_of_mem _ hj)) (fun j hj => hv j (List.mem_cons_of_mem _ hj))
    obtain ⟨F, h0, nd, hG, hA, g⟩ := sp
    cases h0 with
    | cons a b => exact ⟨_, .cons a q⟩
/-- no slot of an operand that is owned is stored to -/
def noSt (ops : List Opd) (P : List Nat) : Bool := ops.all fun o => match o with
  | .sl i => !(P.contains i)
  | .ex _ => true
theorem noSt_at {ops : List Opd} {P : List Nat} (h : noSt ops P = true) {i : Nat} (hi : Opd.sl i ∈ ops) : i ∉ P := fun z => by
  have q := List.all_eq_true.mp h _ hi
  simp at q
  exact q z
theorem fzOps_of {G H : Hp} {vs ws tvs : List V} {c1 : Cf} {ts ps : List O} {ops : List Opd} (sp : Sep G H (tvs ++ (vs ++ ws)) (ts ++ (c1 ++ ps))) (hl : tvs.length = ts.length) (hc : vs.length = c1.length) : FzOps G ops c1 vs := fun i _ d e => by
  have s := dropN hl sp
  obtain ⟨v, h1, h2, _⟩ := s.copy (getElem?_app e)
  have hi : i < vs.length := by rw [hc]; exact (List.getElem?_eq_some_iff.mp e).1
  rw [List.getElem?_append_left hi] at h1
  exact ⟨v, h1, h2⟩
theorem vFor_run {mg : Str → Option Value} {W : WX} {P : List Nat} {D : L2.Ends} {σ : L2.St} {H : Hp} {ops : List Opd} {itf : Itf} {g : DG} {body : DS} {r : List V → Hp → (It → Hp → Prop) → Prop} {wi : TI} (m : MonoO ops) (mg' : MonoG g) (mb : MonoS body) (pr : PiR r itf) (ns : noSt ops P = true)
    (hw : ∀ σ H R, (tas mg W ops σ H fun vs H1 => r vs H1 R) → wi σ H R) (h : liftS mg W P (vFor ops itf g body) D σ H) : tFor wi (liftG P g) (liftS mg W P body) D σ H := by
  obtain ⟨c, G, vsL, osL, sl, sp, h⟩ := h
  refine hw σ H _ ?_
  refine ops_run m sl sp h (fun _ _ _ q => KS.exE q) fun ts c1 tvs H1 G1 g1 sl1 hl sp1 k => ?_
  obtain ⟨ds, e1, k⟩ := ob_iff.mp k
  obtain ⟨items, e2, k⟩ := ob_iff.mp k
  obtain ⟨F0, ow0⟩ := ows_ops sp1 hl sl1.len e1
  have fz1 := fzOps_of (ops := ops) sp1 hl sl1.len
  refine pr G1 H1 _ ds F0 items _ sp1.same ow0 e2 fun J H1' G1' lk hJ => ?_
  have sp1 := lk.2 _ _ _ sp1
  have fz1 : FzOps G1' ops c1 (vals σ) := fun j hj d e => let ⟨v, q1, q2⟩ := fz1 j hj d e; ⟨v, q1, q2.mono lk.1⟩
  have g1 := g1.trans lk.1
  generalize H1' = H1 at *
  generalize G1' = G1 at *
  refine ⟨fun i n σ' H' => i + n = items.length ∧ PinS P σ σ' ∧ ∃ c' G', Same G1 G' ∧ Slots σ' c' ∧ Sep G' H' (tvs ++ (vals σ' ++ vsL)) (ts ++ (c' ++ osL)) ∧ vForL (keepOps ops c1) g body (items.drop i) (KS mg W P σ vsL osL G D) c',
    ⟨items.length, by omega, .refl, c1, G1, Same.refl _, sl1, sp1, k⟩, ?_⟩
  rintro i n σ2 H2 ⟨en, p2, c2, G2, g2, sl2, sp2, k2⟩
  have hvals : ∀ i, Opd.sl i ∈ ops → ∀ t os, c1[i]? = some (.own t os) → (vals σ2)[i]? = (vals σ)[i]? := fun j hj t os _ => by
    unfold vals
    rw [List.getElem?_map, List.getElem?_map, p2.2 j (noSt_at ns hj)]
  by_cases hi : i < items.length
  · have hd : items.drop i = items[i] :: items.drop (i + 1) := List.drop_eq_getElem_cons hi
    rw [hd] at k2
    obtain ⟨kp, k2⟩ := k2
    obtain ⟨F2, sw⟩ := ows_keep (ops := ops) (vs0 := vals σ) sp2 hl sl2.len e1 (fun j hj d e => let ⟨v, q1, q2⟩ := fz1 j hj d e; ⟨v, q1, q2.mono g2⟩) kp hvals
    obtain ⟨go, st⟩ := (hJ i G2 H2 F2 g2 sp2.same sw).1 items[i] (List.getElem?_eq_getElem hi)
    refine .inr ⟨go, fun σ3 H3 => PinS P σ σ3 ∧ ∃ c' G', Same G1 G' ∧ Slots σ3 c' ∧ Sep G' H3 (tvs ++ (vals σ3 ++ vsL)) (ts ++ (c' ++ osL)) ∧ vForL (keepOps ops c1) g body (items.drop (i + 1)) (KS mg W P σ vsL osL G D) c',
      fun σ3 H3 ⟨q1, c', G', q2, q3, q4, q5⟩ => ⟨n - 1, by omega, by omega, q1, c', G', q2, q3, q4, q5⟩, fun x H3 hy => ?_⟩
    obtain ⟨G3, nw⟩ := st x H3 hy
    have sp3 := nw.2 _ _ _ sp2
    -- the temporaries go into the frame
    have sp3' : Sep G3 H3 (x :: (vals σ2 ++ (tvs ++ vsL))) (.fz items[i] :: (c2 ++ (ts ++ osL))) := by
      have q := SepA.rot (ws := [x] ++ tvs) (ps := [.fz items[i]] ++ ts) (vs2 := vals σ2) (os2 := c2) (by simpa using sp3) (by simp [hl]) sl2.len
      have q2 := SepA.unone (v := x) (o := .fz items[i]) (vs2 := vals σ2) (os2 := c2) (vs := tvs ++ vsL) (os := ts ++ osL) (by simpa using q) sl2.len
      exact q2
    refine ⟨.fz items[i], c2, G3, tvs ++ vsL, ts ++ osL, sl2, sp3', ?_⟩
    refine mg' _ _ _ _ (fun c3 q3 => ?_) k2
    intro σ4 H4 G4 g4 p4 l4 sl4 sp4
    have back : ∀ {σ' : L2.St} {c' : Cf} {G' H' : Hp}, Slots σ' c' → Sep G' H' (vals σ' ++ (tvs ++ vsL)) (c' ++ (ts ++ osL)) → Sep G' H' (tvs ++ (vals σ' ++ vsL)) (ts ++ (c' ++ osL)) := fun {σ' c' G' H'} s q => SepA.rot (ws := vals σ') (ps := c') q s.len hl
    have drop : ∀ {σ' : L2.St} {c' : Cf} {G' H' : Hp}, Slots σ' c' → Sep G' H' (vals σ' ++ (tvs ++ vsL)) (c' ++ (ts ++ osL)) → Sep G' H' (vals σ' ++ vsL) (c' ++ osL) := fun {σ' c' G' H'} s q => dropN hl (back s q)
    refine ⟨c3, G4, tvs ++ vsL, ts ++ osL, sl4, sp4, mb _ _ _ ?_ ?_ ?_ ?_ ?_ q3⟩
    · exact fun c5 q1 σ5 H5 G5 g5 p5 sl5 sp5 => ⟨p2.trans (p4.trans p5), c5, G5, g2.trans (nw.1.trans (g4.trans g5)), sl5, back sl5 sp5, q1⟩
    · exact fun o c5 q v σ5 H5 G5 g5 p5 sl5 sp5 => q v σ5 H5 G5 (g1.trans (g2.trans (nw.1.trans (g4.trans g5)))) (p2.trans (p4.trans p5)) sl5 (by
        have z := SepA.rot (ws := [v] ++ vals σ5) (ps := [o] ++ c5) (vs2 := tvs) (os2 := ts) (vs := vsL) (os := osL) (by simpa using sp5) (by simp [sl5.len]) hl
        have z2 := dropN hl z
        simpa using z2)
    · exact fun c5 q σ5 H5 G5 g5 p5 sl5 sp5 => q σ5 H5 G5 (g1.trans (g2.trans (nw.1.trans (g4.trans g5)))) (p2.trans (p4.trans p5)) sl5 (drop sl5 sp5)
    · exact fun c5 q1 σ5 H5 G5 g5 p5 sl5 sp5 => ⟨p2.trans (p4.trans p5), c5, G5, g2.trans (nw.1.trans (g4.trans g5)), sl5, back sl5 sp5, q1⟩
    · exact fun nm fs c5 q σ5 cls d H5 G5 g5 p5 sl5 sp5 xi => q σ5 cls d H5 G5 (g1.trans (g2.trans (nw.1.trans (g4.trans g5)))) (p2.trans (p4.trans p5)) sl5 (drop sl5 sp5) xi
  · have hd : items.drop i = [] := List.drop_eq_nil_of_le (by omega)
    rw [hd] at k2
    obtain ⟨kp, k2⟩ := k2
    obtain ⟨F2, sw⟩ := ows_keep (ops := ops) (vs0 := vals σ) sp2 hl sl2.len e1 (fun j hj d e => let ⟨v, q1, q2⟩ := fz1 j hj d e; ⟨v, q1, q2.mono g2⟩) kp hvals
    exact .inl ⟨(hJ i G2 H2 F2 g2 sp2.same sw).2 (by omega), k2 σ2 H2 G2 (g1.trans g2) p2 sl2 (dropN hl sp2)⟩
theorem VSt.for_ {Γ : Sg} {sc : Scope} {k : Nat} {P : List Nat} {tg iter : Expr} {body : List Stmt} {pos : Pos} {ops : List Opd} {itf : Itf} {g : DG} {b : DS} (hi : VI Γ sc k tg iter ops itf) (hg : VG Γ sc k P tg g) (hb : VSs Γ sc k P body b) (ns : noSt ops P = true)
    (hs : ∀ (env : Env) x, foldedSetIterable iter env x = pure x) : VSt Γ sc k P (.For tg iter body [] pos) (vFor ops itf g b) := by
  refine ⟨vFor_mono hi.1 hg.1 hb.1, fun X W ok tk => ?_⟩
  obtain ⟨wi, r, h1, h2, h3⟩ := hi.2 X W ok tk
  exact (ps_for ok.pass ok.calm h1 (hg.2 X ok) (hb.2 X W ok tk) (hs _)).impV fun D σ H q => vFor_run hi.1 hg.1 hb.1 h2 ns h3 q
end VS
namespace VS
open PySem PySem.Spec PyProof.Rows L2
/-! ## while -/
def vWhile (cnd : DT) (body : DS) : DS := fun D c => ∃ I : Nat → Cf → Prop, (∃ m, I m c) ∧ ∀ m c, I m c → cnd D.ex c fun b c1 => if b = true then body { D with nx := fun c2 => ∃ m', m' < m ∧ I m' c2, ct := fun c2 => ∃ m', m' < m ∧ I m' c2, bk := D.nx } c1 else D.nx c1
theorem vWhile_mono {cnd : DT} {body : DS} (mc : MonoT cnd) (mb : MonoS body) : MonoS (vWhile cnd body) := fun D D' c h1 h2 h3 h4 h5 ⟨I, h0, h⟩ => ⟨I, h0, fun m c hI => mc _ _ _ _ _ h5 (fun b c1 q => by
  cases b with
  | true => exact mb { D with nx := _, ct := _, bk := D.nx } { D' with nx := _, ct := _, bk := D'.nx } c1 (fun _ z => z) h2 (fun c z => h1 c z) (fun _ z => z) h5 q
  | false => exact h1 _ q) (h m c hI)⟩
theorem vWhile_run {mg : Str → Option Value} {W : WX} {P : List Nat} {D : L2.Ends} {σ : L2.St} {H : Hp} {cnd : DT} {body : DS} (mc : MonoT cnd) (mb : MonoS body) (h : liftS mg W P (vWhile cnd body) D σ H) : tWhile (liftT mg W cnd) (liftS mg W P body) D σ H := by
  obtain ⟨c, G, vsL, osL, sl, sp, I, ⟨m0, i0⟩, h⟩ := h
  refine ⟨fun m σ' H' => PinS P σ σ' ∧ ∃ c' G', Same G G' ∧ Slots σ' c' ∧ Sep G' H' (vals σ' ++ vsL) (c' ++ osL) ∧ I m c', ⟨m0, .refl, c, G, Same.refl _, sl, sp, i0⟩, ?_⟩
  rintro m σ1 H1 ⟨p1, c1, G1, g1, sl1, sp1, i1⟩
  refine liftT.of mc sl1 sp1 (h m c1 i1) (fun n f c' q cls d H' G' g s z xi => q σ1 cls d H' G' (g1.trans g) p1 s z xi) fun b c2 H2 G2 g2 sl2 sp2 q => ?_
  cases b with
  | true =>
    refine ⟨fun σ' H' => ∃ m', m' < m ∧ PinS P σ σ' ∧ ∃ c' G', Same G G' ∧ Slots σ' c' ∧ Sep G' H' (vals σ' ++ vsL) (c' ++ osL) ∧ I m' c', fun σ' H' ⟨m', hm, q⟩ => ⟨m', hm, q⟩, ?_⟩
    refine liftS.of (D' := { D with nx := _, ct := _, bk := D.nx }) mb sl2 sp2 q ?_ ?_ ?_ ?_ ?_
    · exact fun c3 ⟨m', hm, i3⟩ σ3 H3 G3 g3 p3 sl3 sp3 => ⟨m', hm, p1.trans p3, c3, G3, g1.trans (g2.trans g3), sl3, sp3, i3⟩
    · exact fun o c3 q v σ3 H3 G3 g3 p3 => q v σ3 H3 G3 (g1.trans (g2.trans g3)) (p1.trans p3)
    · exact fun c3 q σ3 H3 G3 g3 p3 => q σ3 H3 G3 (g1.trans (g2.trans g3)) (p1.trans p3)
    · exact fun c3 ⟨m', hm, i3⟩ σ3 H3 G3 g3 p3 sl3 sp3 => ⟨m', hm, p1.trans p3, c3, G3, g1.trans (g2.trans g3), sl3, sp3, i3⟩
    · exact fun nm fs c3 q σ3 cls d H3 G3 g3 p3 => q σ3 cls d H3 G3 (g1.trans (g2.trans g3)) (p1.trans p3)
  | false => exact q σ1 H2 G2 (g1.trans g2) p1 sl2 sp2
theorem VSt.while_ {Γ : Sg} {sc : Scope} {k : Nat} {P : List Nat} {c : Expr} {body : List Stmt} {pos : Pos} {t : DT} {b : DS} (hc : VT Γ sc k c t) (hb : VSs Γ sc k P body b) : VSt Γ sc k P (.While c body [] pos) (vWhile t b) :=
  ⟨vWhile_mono hc.1 hb.1, fun X W ok tk => (ps_while ok.pass (hc.2 X W ok tk) (hb.2 X W ok tk)).impV fun D σ H q => vWhile_run hc.1 hb.1 q⟩
/-! ## a def -/
def finArgs (n : Nat) (P : List Nat) (os : List O) (c : Cf) : List O := (List.range n).map fun i => if P.contains i then os.getD i O.bad else c.getD i O.bad
def fnEnds (n : Nat) (P : List Nat) (os : List O) (E : XP) (Q : O → List O → Prop) : En where
  nx := fun c => Q (.fz .non) (finArgs n P os c)
  rt := fun o c => Q o (finArgs n P os c)
  bk := fun _ => False
  ct := fun _ => False
  ex := fun nm fs c => E nm fs (finArgs n P os c)
def startC (m : Nat) (os : List O) : Cf := os ++ List.replicate (m - os.length) O.bad
/-- the body keeps the contract -/
def Keeps (m n : Nat) (P : List Nat) (t : DS) (C : Con) : Prop := ∀ E os Q, os.length = n → C E os Q → (∀ i, i < n → P.contains i = true → ∃ d, os[i]? = some (.fz d)) ∧ t (fnEnds n P os E Q) (startC m os)
theorem finArgs_len {n : Nat} {P : List Nat} {os : List O} {c : Cf} : (finArgs n P os c).length = n := by simp [finArgs]
theorem Ows.bads {G H : Hp} : ∀ (n : Nat), Ows G H (List.replicate n V.non) (List.replicate n O.bad) []
  | 0 => .nil
  | n + 1 => by rw [List.replicate_succ, List.replicate_succ]; exact .cons (F1 := []) (.fz .bad) (Ows.bads n)
theorem SepA.bads {A : List Addr} {G H : Hp} {vs : List V} {os : List O} (n : Nat) (s : SepA A G H vs os) : SepA A G H (List.replicate n V.non ++ vs) (List.replicate n O.bad ++ os) := by
  obtain ⟨F, h, r⟩ := s
  exact ⟨F, by simpa using (Ows.bads n).append h, r⟩
/-- the parameters' slots, put back: those stored to are the frozen ones they were -/
theorem fin_ows {G G' H : Hp} {vs : List V} {os : List O} {P : List Nat} (hl : vs.length = os.length) (hP : ∀ i, i < os.length → P.contains i = true → ∃ d v, os[i]? = some (.fz d) ∧ vs[i]? = some v ∧ Rp G v d) (g : Same G G') :
    ∀ (n : Nat) {ws : List V} {cs : Cf} {F : List Addr}, Ows G' H ws cs F → n ≤ os.length → n ≤ ws.length → (∀ i, i < n → P.contains i = false → ws[i]? = vs[i]?) →
      ∃ F', Ows G' H (vs.take n) ((List.range n).map fun i => if P.contains i then os.getD i O.bad else cs.getD i O.bad) F' ∧ F'.Sublist F := by
  intro n ws cs F h hn hw heq
  -- from the left
  have key : ∀ (n k : Nat) {ws : List V} {cs : Cf} {F : List Addr}, Ows G' H ws cs F → k + n ≤ os.length → n ≤ ws.length → (∀ i, i < n → P.contains (k + i) = false → ws[i]? = vs[k + i]?) →
      ∃ F', Ows G' H ((vs.drop k).take n) ((List.range n).map fun i => if P.contains (k + i) then os.getD (k + i) O.bad else cs.getD i O.bad) F' ∧ F'.Sublist F := by
    intro n
    induction n with
    | zero => intro k ws cs F h _ _ _; exact ⟨[], by simpa using Ows.nil, List.nil_sublist _⟩
    | succ n ih =>
      intro k ws cs F h hn hw heq
      cases h with
      | nil => simp at hw
      | @cons v o ws cs F1 F2 a r =>
        have hk : k < vs.length := by omega
        obtain ⟨F', q1, q2⟩ := ih (k + 1) r (by omega) (by simpa using hw) (fun i hi hp => by
          have := heq (i + 1) (by omega) (by rw [← Nat.add_assoc, Nat.add_right_comm]; exact hp)
          rw [List.getElem?_cons_succ] at this
          rw [this]
          congr 1
          omega)
        have e1 : (vs.drop k).take (n + 1) = vs[k] :: (vs.drop (k + 1)).take n := by rw [List.drop_eq_getElem_cons hk, List.take_succ_cons]
        have e2 : ((List.range (n + 1)).map fun i => if P.contains (k + i) then os.getD (k + i) O.bad else (o :: cs).getD i O.bad) =
            (if P.contains k then os.getD k O.bad else o) :: ((List.range n).map fun i => if P.contains (k + 1 + i) then os.getD (k + 1 + i) O.bad else cs.getD i O.bad) := by
          rw [List.range_succ_eq_map, List.map_cons, List.map_map]
          congr 1
          refine List.map_congr_left fun i _ => ?_
          have : k + (i + 1) = k + 1 + i := by omega
          simp only [Function.comp, this, Nat.succ_eq_add_one, List.getD_cons_succ]
        rw [e1, e2]
        by_cases hp : P.contains k = true
        · rw [if_pos hp]
          obtain ⟨d, v', h1, h2, h3⟩ := hP k (by omega) hp
          rw [List.getElem?_eq_getElem hk] at h2
          cases h2
          rw [List.getD_eq_getElem?_getD, h1, Option.getD_some]
          exact ⟨[] ++ F', .cons (.fz (h3.mono g)) q1, by simpa using q2.trans (List.sublist_append_right _ _)⟩
        · rw [if_neg hp]
          have e := heq 0 (by omega) (by simpa using hp)
          rw [List.getElem?_cons_zero, Nat.add_zero, List.getElem?_eq_getElem hk] at e
          rw [← Option.some.inj e]
          exact ⟨F1 ++ F', .cons a q1, List.Sublist.append_left q2 _⟩
  have := key n 0 h (by omega) hw (by simpa using heq)
  simpa using this
theorem fn_lift {mg : Str → Option Value} {N : List Str} {n : Nat} {P : List Nat} {t : DS} {C : Con} (m : MonoS t) (hn : n ≤ N.length) (hk : Keeps N.length n P t C) {vs : List V} {H : Hp} {Q : VK} {E : XK} (h : liftC mg n C vs H Q E) :
    liftS mg (fun cls d _ H => E cls d H) P t { nx := fun _ H' => Q .non H', rt := Q } (L2.start N vs) H := by
  obtain ⟨hv, os, G, vsL, osL, hl, sp, h⟩ := h
  obtain ⟨hP, ht⟩ := hk _ os _ (by omega) h
  have hvals : vals (L2.start N vs) = vs ++ List.replicate (N.length - vs.length) V.non := by
    unfold vals L2.start
    rw [List.map_append, List.map_map, List.map_replicate]
    congr 1
    exact List.map_id _
  have hstart : (L2.start N vs).length = N.length := by unfold L2.start; simp; omega
  have sl : Slots (L2.start N vs) (startC N.length os) := by
    refine ⟨by rw [hstart]; unfold startC; simp; omega, fun i o hi nb => ?_⟩
    by_cases h1 : i < os.length
    · refine ⟨vs[i], ?_⟩
      unfold L2.start
      rw [List.getElem?_append_left (by simp; omega), List.getElem?_map, List.getElem?_eq_getElem (by omega)]
      rfl
    · unfold startC at hi
      rw [List.getElem?_append_right (by omega), List.getElem?_replicate] at hi
      split at hi
      · cases hi; cases nb
      · cases hi
  have sp' : Sep G H (vals (L2.start N vs) ++ vsL) (startC N.length os ++ osL) := by
    rw [hvals, show startC N.length os = os ++ List.replicate (N.length - vs.length) O.bad by unfold startC; rw [hl], List.append_assoc, List.append_assoc]
    exact SepA.rot (ws := List.replicate (N.length - vs.length) V.non) (ps := List.replicate (N.length - vs.length) O.bad) (sp.bads _) (by simp) hl
  have hRp : ∀ i, i < os.length → P.contains i = true → ∃ d v, os[i]? = some (.fz d) ∧ vs[i]? = some v ∧ Rp G v d := fun i hi hp => by
    obtain ⟨d, e⟩ := hP i (by omega) hp
    obtain ⟨v, h1, h2, _⟩ := sp.copy (getElem?_app e)
    rw [List.getElem?_append_left (by omega)] at h1
    exact ⟨d, v, e, h1, h2⟩
  -- back to the arguments
  have back : ∀ {σ' : L2.St} {c' : Cf} {G' H' : Hp} {xs : List V} {ps : List O}, Same G G' → PinS P (L2.start N vs) σ' → Slots σ' c' → xs.length = ps.length → σ'.length = N.length → Sep G' H' (xs ++ (vals σ' ++ vsL)) (ps ++ (c' ++ osL)) →
      Sep G' H' (xs ++ (vs ++ vsL)) (ps ++ (finArgs n P os c' ++ osL)) := by
    intro σ' c' G' H' xs ps g p sl' hx hσ s
    obtain ⟨F, h0, nd, hG, hA, gs⟩ := s
    obtain ⟨F1, F2, rfl, q1, q2⟩ := h0.split hx
    obtain ⟨F3, F4, rfl, q3, q4⟩ := q2.split sl'.len
    obtain ⟨F', q5, q6⟩ := fin_ows (P := P) hl hRp g n q3 (by omega) (by rw [sl'.len, sl'.1, hσ]; exact hn) (fun i hi hp => by
      have e := p.2 i (by simpa using hp)
      unfold vals
      rw [List.getElem?_map, e]
      unfold L2.start
      rw [List.getElem?_append_left (by simp; omega), List.getElem?_map, List.getElem?_eq_getElem (by omega)]
      rfl)
    rw [show vs.take n = vs from List.take_of_length_le (by omega)] at q5
    refine SepA.of_sub (F := F1 ++ (F3 ++ F4)) (F' := F1 ++ (F' ++ F4)) ?_ (q1.append (q5.append q4)) nd hG hA gs
    exact List.Sublist.append_left (List.Sublist.append_right q6 _) _
  refine ⟨startC N.length os, G, vsL, osL, sl, sp', m _ _ _ ?_ ?_ ?_ ?_ ?_ ht⟩
  · exact fun c' q σ' H' G' g p sl' s => q .non H' G' g (by rw [finArgs_len]; omega) ((back (xs := []) (ps := []) g p sl' rfl (p.1.trans hstart) s).cons .non)
  · exact fun o c' q v σ' H' G' g p sl' s => q v H' G' g (by rw [finArgs_len]; omega) (back (xs := [v]) (ps := [o]) g p sl' rfl (p.1.trans hstart) s)
  · exact fun c' q => q.elim
  · exact fun c' q => q.elim
  · exact fun nm fs c' q σ' cls d H' G' g p sl' s xi => q cls d H' G' g (by rw [finArgs_len]; omega) (back (xs := []) (ps := []) g p sl' rfl (p.1.trans hstart) s) xi
/-- a def as it stands: dV its defaults (none, or a tuple) -/
structure FunX (K : PySem.W.Frag) (x qual : Str) (st : Stmt) (dV : Value) (f : Addr) (fd : FuncData) : Prop where
  ex : ∃ (oc : Value) (od : Option Addr) (kV doc pm : Value) (an : Option Addr) (cdv ct : Value) (osl : Array (Option Value)),
    fd = PySem.W.fnOf x qual (defArgs st) (defBody st) (defScope st) dV kV doc pm an cdv ct ∧ K.lookup f = some ⟨oc, od, .func fd, osl⟩ ∧ PySem.W.codeIn K cdv qual = true
  kp : PySem.W.keepIn K (.ref f) = true
section
variable {K : PySem.W.Frag} {x qual : Str} {st : Stmt} {dV : Value} {f : Addr} {fd : FuncData} {ps : List Str}
theorem funx_mk {oc : Value} {od an : Option Addr} {osl : Array (Option Value)} {kV doc pm cdv ct : Value} (l : K.lookup f = some ⟨oc, od, .func (PySem.W.fnOf x qual (defArgs st) (defBody st) (defScope st) dV kV doc pm an cdv ct), osl⟩)
    (c : PySem.W.codeIn K cdv qual = true) (k : PySem.W.keepIn K (.ref f) = true) : FunX K x qual st dV f (PySem.W.fnOf x qual (defArgs st) (defBody st) (defScope st) dV kV doc pm an cdv ct) := ⟨⟨oc, od, kV, doc, pm, an, cdv, ct, osl, rfl, l, c⟩, k⟩
theorem FunX.binds (F : FunX K x qual st .none f fd)
    (h : ∀ (kV doc pm : Value) (an : Option Addr) (cdv ct : Value) (us : List Value), us.length = ps.length → bindArgs (PySem.W.fnOf x qual (defArgs st) (defBody st) (defScope st) .none kV doc pm an cdv ct) ⟨us, []⟩ = pure (ps.zip us)) : Binds K fd ps [] := by
  obtain ⟨oc, od, kV, doc, pm, an, cdv, ct, osl, rfl, lk, hcd⟩ := F.ex
  exact .all (h kV doc pm an cdv ct)
/-- n values are written, the defaults behind the first j fill up -/
theorem FunX.bindsD {T : Addr} {o : Obj} {its : List Value} {m : Nat} (F : FunX K x qual st (.ref T) f fd) (n j : Nat) (lT : K.lookup T = some o) (oT : o.data = .seq its.toArray m) (hn : n + (its.length - j) = ps.length)
    (h : ∀ (T : Addr) (kV doc pm : Value) (an : Option Addr) (cdv ct : Value) (us : List Value), us.length = n →
      ∃ k, bindArgs (PySem.W.fnOf x qual (defArgs st) (defBody st) (defScope st) (.ref T) kV doc pm an cdv ct) ⟨us, []⟩ = seqItems? (.ref T) >>= k ∧ k (some its.toArray) = pure (ps.zip (us ++ its.drop j))) : Binds K fd ps (its.drop j) := by
  obtain ⟨oc, od, kV, doc, pm, an, cdv, ct, osl, rfl, lk, hcd⟩ := F.ex
  refine fun s us X hlen => ?_
  have l2 : us.length = n := by
    rw [List.length_append, List.length_drop] at hlen
    omega
  obtain ⟨k, e1, e2⟩ := h T kV doc pm an cdv ct us l2
  refine fun M A Q E q => (?_ : PySem.W.Looks M s.heap _ _).here q
  rw [e1]
  exact fun A Q E s kp q => wpAny_bind (wpAny_seqItems (kp _ _ (X _ _ lT)) oT ((PySem.W.Looks.of_pure e2) A Q E s kp q))
end
/-- a def of the text by its body's reading -/
theorem fn_body {P : Program} {w : World} {K : PySem.W.Frag} {mg : Str → Option Value} {base : Heap} {x qual : Str} {st : Stmt} {f : Addr} {fd : FuncData} {N ps : List Str} {k : Nat} {sp : Sp} {dV : Value} (F : FunX K x qual st dV f fd) (S : FnScope N ps (defScope st)) (many : ∀ vs H Q E, sp vs H Q E → vs.length = ps.length)
    (hb : ∀ (cdv : Value) (A : Around) (outer : List Env) (s : Shared) (H : Hp) (vs : List V) (Q : VK) (E : XK), Room k (A.deeper (envOfC qual (defScope st) s.heap.objs.size f cdv)) → A.guards = some [] → sp vs H Q E →
      ∃ t, PSs (cxOf (L2.CX P w) P w K mg base N qual (defScope st) f cdv A outer s H E) (defBody st) t ∧ t { nx := fun _ H' => Q .non H', rt := Q } (L2.start N vs) H) : FnG P w K mg base (k + 1) f fd ps sp := by
  obtain ⟨oc, od, kV, doc, pm, an, cdv, ct, osl, rfl, lk, cd⟩ := F.ex
  refine ⟨many, fun A outer s H args us vs Q E ⟨hr, hg⟩ e0 bnd rv hsp => ?_⟩
  have old : ∀ b o, base.get? b = some o → s.heap.get? b = some o := fun b o e => (e0.bs b o e).1
  have kin : K.In s.heap := e0.mod.kin.keeps old
  have kinds : ∀ y ∈ ps.zip us, (defScope st).names.lookup y.1 = some .local ∨ ((defScope st).names.lookup y.1 = some .cell ∧ ((cellsFrom (s.heap.objs.size + 1) (defScope st).names []).lookup y.1).isSome = true) := fun y hy =>
    (S.par y.1 (List.of_mem_zip (show (y.1, y.2) ∈ ps.zip us from hy)).1).imp id fun q => ⟨q, PySem.W.cellsFrom_some _ _ _ (.inl q)⟩
  refine codeAny_call_function hr.depth (kin _ _ lk) rfl S.co S.gen rfl (PySem.W.codeRec_of kin cd) (bnd _ _ _ _ (wpAny_newFunctionEnv_cells S.kind kinds fun env he s1 hin => ?_))
  subst he
  obtain ⟨t, ht, hq⟩ := hb cdv A outer s H vs Q E (hr.deeper _) hg hsp
  have I := inv_start (CX := L2.CX P w) (E := E) S hr.hd e0 (many _ _ _ _ hsp) rv hin
  refine ⟨(e0.mod.nolimit.keeps old).keeps hin.toInCall.keep, codeAny_func (wpAny_mono (ht.run [] s1 _ H _ I hq) (fun fl s' hs => ?_) fun _ _ z => z)⟩
  cases fl with
  | next => obtain ⟨σ', H', J, q⟩ := hs; exact ⟨.non, H', J.os, J.bare, J.base, J.hok, rfl, q⟩
  | ret u => obtain ⟨v, σ', H', J, rr, q⟩ := hs; exact ⟨v, H', J.os, J.bare, J.base, J.hok, rr, q⟩
  | brk => obtain ⟨_, _, _, q⟩ := hs; exact q.elim
  | cont => obtain ⟨_, _, _, q⟩ := hs; exact q.elim
/-- THE RULE: a def of the text whose body keeps its contract -/
theorem fn_ok {Γ : Sg} {P : Program} {w : World} {K : PySem.W.Frag} {mg : Str → Option Value} {base : Heap} {x qual : Str} {st : Stmt} {f : Addr} {fd : FuncData} {ps : List Str} {k : Nat} {Wr : List Nat} {t : DS} {C : Con} {dV : Value} (F : FunX K x qual st dV f fd) (S : FnScope Γ.N ps (defScope st))
    (g : GOk Γ P w K mg base k) (hb : VSs Γ (defScope st) k Wr (defBody st) t) (hk : Keeps Γ.N.length ps.length Wr t C) : FnG P w K mg base (k + 1) f fd ps (liftC mg ps.length C) := by
  have hn : ps.length ≤ Γ.N.length := by have := congrArg List.length S.pre; rw [List.length_take] at this; omega
  refine fn_body F S (fun vs H Q E h => h.1) fun cdv A outer s H vs Q E hr hg h => ?_
  refine ⟨_, hb.2 (cxOf (L2.CX P w) P w K mg base Γ.N qual (defScope st) f cdv A outer s H E) (fun cls d _ H => E cls d H) ?_ ?_, fn_lift hb.1 hn hk h⟩
  · exact ⟨rfl, S.nd, S.kind, fun x h => h, fun x h => .inr h, fun x h => h, fun x h => h, fun x h => ⟨h, rfl⟩, rfl, hr, hg, passes_of rfl, g⟩
  · exact takes_of rfl rfl rfl rfl
end VS
namespace VS
open PySem PySem.Spec PyProof.Rows L2 PySem.Calls
/-! ## two dicts whose keys are tuples: the same keys, the same values -/
section
variable {prog : Program} {w : World} {K : Type} [DecidableEq K] {knd : HeapKind prog w K} {A : Around} {E : Value → Shared → Prop} {s : Shared}
theorem samePairs_heap {nm : String} {a b : Addr} {xa xb : List (K × Addr × Value)} {Q : Bool → Shared → Prop} (ha : (a == sysModules) = false) (hb : (b == sysModules) = false)
    (hu : knd.room A) (da : s.heap.DictOfH knd a xa) (db : s.heap.DictOfH knd b xb) (vals : ∀ x ∈ xa, ∀ p, atKey xb x.1 = some p → SeqAt.EqP prog w A s x.2.2 p.2 true)
    (h : Q (xa.length == xb.length && xa.all fun x => (atKey xb x.1).isSome) s) : wpAny (model prog w) A (Builtin.Dict.samePairs nm a b) Q E s := by
  obtain ⟨oa, es, ep, hoa, _, hda, hea, hisa, hna⟩ := da
  obtain ⟨ob, es', ep', hob, _, hdb, heb, hisb, hnb⟩ := db
  have hla : es.size = xa.length := size_of_entries hea
  have hlb : es'.size = xb.length := size_of_entries heb
  unfold Builtin.Dict.samePairs Builtin.Dict.showsAll
  rw [if_neg (show ¬ (a == sysModules) = true by rw [ha]; exact Bool.false_ne_true), if_neg (show ¬ (b == sysModules) = true by rw [hb]; exact Bool.false_ne_true)]
  refine wpAny_bind (wpAny_pure (wpAny_bind (wpAny_pure ?_)))
  refine wpAny_bind (wpAny_dictEntries hoa hda ?_)
  dsimp only
  refine wpAny_bind (wpAny_dictEntries hob hdb ?_)
  by_cases hsz : es.size = es'.size
  case neg =>
    rw [if_pos (by simpa using hsz)]
    have hbf : (xa.length == xb.length) = false := by
      rw [hla, hlb] at hsz
      simpa using hsz
    rw [hbf, Bool.false_and] at h
    exact wpAny_bind (wpAny_rule (wpAny_pure h))
  case pos =>
    have hbt : (xa.length == xb.length) = true := by
      rw [hla, hlb] at hsz
      simpa using hsz
    rw [hbt, Bool.true_and] at h
    rw [if_neg (by rw [hsz]; simp)]
    refine wpAny_bind (wpAny_dictEpoch hoa hda ?_)
    refine wpAny_bind ?_
    rw [Std.Legacy.Range.forIn_eq_forIn_range']
    simp only [Std.Legacy.Range.size, Nat.sub_zero, Nat.add_sub_cancel, Nat.div_one]
    refine wpAny_forIn_list _
      (fun rest q s' => s' = s ∧ q = (none, ()) ∧ ∃ i, rest = List.range' i (es.size - i) ∧ i ≤ es.size ∧ (xa.all fun x => (atKey xb x.1).isSome) = (xa.drop i).all fun x => (atKey xb x.1).isSome)
      _ ?_ ?_ _ _ ⟨rfl, rfl, 0, by simp, Nat.zero_le _, rfl⟩
    · rintro x rest q s' ⟨rfl, rfl, i, hr, hi, hpre⟩
      have hlt : i < es.size := by
        rcases Nat.lt_or_ge i es.size with h | h
        · exact h
        · rw [Nat.sub_eq_zero_of_le h] at hr; simp at hr
      obtain ⟨rfl, hrest⟩ : x = i ∧ rest = List.range' (i + 1) (es.size - (i + 1)) := by
        have e : es.size - i = (es.size - (i + 1)) + 1 := by omega
        rw [e, List.range'_succ] at hr
        injection hr with h1 h2
        exact ⟨h1, h2⟩
      have hlt' : x < xa.length := by rw [← hla]; exact hlt
      obtain ⟨k, c, v, hkv⟩ : ∃ k c v, xa[x] = (k, c, v) := ⟨_, _, _, rfl⟩
      have hget : xa[x]? = some (k, c, v) := by rw [List.getElem?_eq_getElem hlt', hkv]
      have hmem : (k, c, v) ∈ xa := by rw [← hkv]; exact List.getElem_mem hlt'
      have hdrop : xa.drop x = (k, c, v) :: xa.drop (x + 1) := by rw [← hkv]; exact List.drop_eq_getElem_cons hlt'
      rw [hdrop, List.all_cons] at hpre
      refine wpAny_bind (wpAny_dictEntries hoa hda ?_)
      rw [entry_at hea x, hget]
      show wpAny _ _ (holding [Value.ref c, v] _ >>= _) _ _ _
      refine wpAny_bind (wpAny_holding (wpAny_bind (wpAny_dictFind_heap hu (hisa _ hmem) hob hdb heb hisb hnb ?_ ?_)))
      · intro hno
        have hn : atKey xb k = none := atKey_none_of_get hno
        rw [hn, Option.isSome_none, Bool.false_and] at hpre
        rw [hpre] at h
        refine wpAny_pure ?_
        show wpAny _ _ (if (!false) = true then _ else _) _ _ _
        rw [if_pos (by decide)]
        exact wpAny_pure (wpAny_pure h)
      · intro j p hj
        have hs : atKey xb k = some p := atKey_of_get hnb hj
        rw [hs, Option.isSome_some, Bool.true_and] at hpre
        refine wpAny_bind (wpAny_dictEntries hob hdb ?_)
        rw [entry_at heb j, hj]
        refine wpAny_holding (vals _ hmem p hs _ _ ?_)
        show wpAny _ _ (if (!true) = true then _ else _) _ _ _
        rw [if_neg (by decide)]
        refine wpAny_bind (wpAny_dictEpoch hoa hda ?_)
        rw [if_neg (by simp)]
        exact wpAny_pure ⟨rfl, rfl, x + 1, hrest, hlt, hpre⟩
    · rintro q s' ⟨rfl, rfl, i, hr, hi, hpre⟩
      have hin : i = es.size := by
        rcases Nat.lt_or_ge i es.size with h | h
        · have e : es.size - i = (es.size - (i + 1)) + 1 := by omega
          rw [e, List.range'_succ] at hr; exact nomatch hr
        · exact Nat.le_antisymm hi h
      refine wpAny_pure ?_
      rw [hin, hla, List.drop_length, List.all_nil] at hpre
      rw [hpre] at h
      exact h
theorem rc_dictsH {op : CmpOp} {a b : Addr} {xa xb : List (K × Addr × Value)} (ha : (a == sysModules) = false) (hb : (b == sysModules) = false)
    (hu : knd.room A.in1) (hU : A.units < cLine) (da : s.heap.DictOfH knd a xa) (db : s.heap.DictOfH knd b xb) (vals : ∀ x ∈ xa, ∀ p, atKey xb x.1 = some p → SeqAt.EqP prog w A.in1 s x.2.2 p.2 true)
    (E Q : Value → Shared → Prop) (h : Q (.bool (xa.length == xb.length && xa.all fun x => (atKey xb x.1).isSome)) s) : wpAny (model prog w) A (richCompare .Eq (.ref a) (.ref b)) Q E s := by
  refine wpAny_richCompare_same_room (op := .Eq) da.typeIs db.typeIs PySem.F.slot_dict_eq (wpAny_call_entry PySem.F.slot_dict_eq da.typeIs PySem.F.entry_dict_eq ?_ (PySem.F.args_dict_eq_2 _ _)) hU
  show wpAny _ _ (Builtin.Dict.dictSlotArgs "__eq__" ⟨[.ref a, .ref b], []⟩ >>= _) _ _ s
  refine wpAny_bind ?_
  unfold Builtin.Dict.dictSlotArgs
  refine wpAny_bind (wpAny_notOrdered_dict da.typeIs ?_)
  show wpAny _ _ (pure (Value.ref a, Value.ref b)) _ _ s
  refine wpAny_pure ?_
  refine wpAny_bind (wpAny_isInstance (T := "dict") db.typeIs PySem.F.sub_dict_dict ?_)
  simp only [Bool.not_true, Bool.false_eq_true, if_false]
  refine wpAny_bind (wpAny_pure (wpAny_bind (wpAny_pure ?_)))
  refine wpAny_bind (samePairs_heap ha hb hu da db vals ?_)
  refine wpAny_pure ⟨_, rfl, ?_, ?_⟩
  · exact fun x => nomatch x
  · simpa using h
end
/-- the keys of two dicts of tuples are the same ones, all values True -/
def sameKeys {α : Type} [DecidableEq α] (ks ls : List α) : Bool := (ks.length == ls.length) && ks.all fun k => decide (k ∈ ls)
def rEqT : R2 := fun x y H Q => ∃ a b ks ls, x = .ref a ∧ y = .ref b ∧ Rd H a (.dT ks) ∧ Rd H b (.dT ls) ∧ (∀ p ∈ ks, p.2 = .bl true) ∧ (∀ p ∈ ls, p.2 = .bl true) ∧ Q (.bl (sameKeys (ks.map (·.1)) (ls.map (·.1)))) H
theorem kt_keys {H : Hp} {kvs : List (List Key × V)} {xs : List (List Key × Addr × Value)} (r : L2.KT H kvs xs) : xs.map (·.1) = kvs.map (·.1) := by
  induction r with
  | nil => rfl
  | cons h _ ih => rw [List.map_cons, List.map_cons, ih, h.1]
theorem kt_vals {H : Hp} {kvs : List (List Key × V)} {xs : List (List Key × Addr × Value)} (r : L2.KT H kvs xs) (h : ∀ p ∈ kvs, p.2 = .bl true) : ∀ x ∈ xs, RelV (.bl true) x.2.2 := by
  induction r with
  | nil => intro x hx; cases hx
  | @cons p q ps qs hh _ ih =>
    intro x hx
    rcases List.mem_cons.mp hx with rfl | hx
    · have := hh.2.2
      rw [h p (by simp)] at this
      exact this
    · exact ih (fun p' hp => h p' (by simp [hp])) x hx
theorem atKey_isSome {K : Type} [DecidableEq K] {xs : List (K × Addr × Value)} {k : K} : (atKey xs k).isSome = decide (k ∈ xs.map (·.1)) := by
  unfold atKey
  rw [Option.isSome_map, Bool.eq_iff_iff, List.find?_isSome]
  simp
theorem atKey_mem {K : Type} [DecidableEq K] {xs : List (K × Addr × Value)} {k : K} {p : Addr × Value} (h : atKey xs k = some p) : ∃ x ∈ xs, x.2 = p := by
  unfold atKey at h
  obtain ⟨x, hx, e⟩ := Option.map_eq_some_iff.mp h
  exact ⟨x, List.mem_of_find?_eq_some hx, e⟩
theorem op_eqT {X : Cx} (hu : X.A.units + 64 < cLine) : OpR X (compareOp .Eq) rEqT := by
  rintro pins s σ H x y v u Q I rx ry ⟨a, b, ks, ls, rfl, rfl, h1, h2, v1, v2, q⟩
  cases (show v = Value.ref a from rx)
  cases (show u = Value.ref b from ry)
  obtain ⟨_, ya, xa, ra, da⟩ := dt_rd I.hok h1
  obtain ⟨_, yb, xb, rb, db⟩ := dt_rd I.hok h2
  refine rc_dictsH (op := .Eq) (knd := tupleKind (mixKind X.prog X.w)) (A := X.A) ya yb (show X.A.units + 1 < cLine by omega) (by omega) da db (fun x hx p hp => ?_) _ _ ?_
  · obtain ⟨z, hz, e⟩ := atKey_mem hp
    have e1 := kt_vals ra v1 x hx
    have e2 := kt_vals rb v2 z hz
    rw [e] at e2
    exact (eqAt_same e1 e2 rfl).eqP
  · refine ⟨.bl _, H, I, rfl, ?_⟩
    have e : (xa.length == xb.length && xa.all fun x => (atKey xb x.1).isSome) = sameKeys (ks.map (·.1)) (ls.map (·.1)) := by
      rw [sameKeys, ← kt_keys ra, ← kt_keys rb]
      simp only [atKey_isSome, List.length_map, List.all_map]
      rfl
    rw [e]
    exact q
theorem rd_of_dT {H : Hp} {a : Addr} {ks : List (List Key)} {vs : List V} {o : HO} (ha : H a = some o) (sh : ShapeF (.dT ks) vs o) : ks.length = vs.length ∧ Rd H a (.dT (ks.zip vs)) := by
  obtain ⟨h, hd⟩ := sh.dT
  refine ⟨h, ?_⟩
  rcases hd with rfl | ⟨ob, rfl⟩
  · exact .inl ha
  · exact .inr ⟨_, ha⟩
def isTr : D → Bool
  | .bl true => true
  | _ => false
def eqTd : D → D → Option Bool
  | .nd (.dT ks) vs, .nd (.dT ls) ws => if vs.all isTr = true ∧ ws.all isTr = true then some (sameKeys ks ls) else none
  | _, _ => none
def eqTq (os : List O) : Option Bool := match os with
  | [a, b] => eqTd a.view b.view
  | _ => none
theorem eqTd_at {d e : D} {b : Bool} (h : eqTd d e = some b) : ∃ ks vs ls ws, d = .nd (.dT ks) vs ∧ e = .nd (.dT ls) ws ∧ vs.all isTr = true ∧ ws.all isTr = true ∧ b = sameKeys ks ls := by
  unfold eqTd at h
  split at h
  · split at h
    · rename_i z
      cases h
      exact ⟨_, _, _, _, rfl, rfl, z.1, z.2, rfl⟩
    · cases h
  · cases h
theorem isTr_at {d : D} (h : isTr d = true) : d = .bl true := by
  unfold isTr at h
  split at h
  · rfl
  · cases h
theorem trues {H : Hp} : ∀ {vs : List V} {ds : List D}, Rps H vs ds → ds.all isTr = true → ∀ v ∈ vs, v = .bl true
  | _, _, .nil, _, v, hv => by cases hv
  | _, _, .cons (d := d) a r, h, v, hv => by
    rw [List.all_cons, Bool.and_eq_true] at h
    have e := isTr_at h.1
    rcases List.mem_cons.mp hv with rfl | hv
    · rw [e] at a
      cases a
      rfl
    · exact trues r h.2 v hv
theorem dT_at {H : Hp} {v : V} {ks : List (List Key)} {ds : List D} (h : Rp H v (.nd (.dT ks) ds)) (ht : ds.all isTr = true) : ∃ a kvs, v = .ref a ∧ Rd H a (.dT kvs) ∧ (∀ p ∈ kvs, p.2 = .bl true) ∧ kvs.map (·.1) = ks := by
  cases h with
  | nd ha sh r =>
    obtain ⟨hl, hd⟩ := rd_of_dT ha sh
    refine ⟨_, _, rfl, hd, fun p hp => trues r ht _ (List.of_mem_zip hp).2, ?_⟩
    exact List.map_fst_zip (Nat.le_of_eq hl)
end VS
namespace VS
open PySem PySem.Spec PyProof.Rows L2
/-! ## operators on data -/
def orB (a b : Bf) : Bf := fun ds => match a ds with
  | some o => some o
  | none => b ds
theorem PureR.or {r r' : List V → Hp → VK → Prop} {a b : Bf} (h : PureR r a) (h' : PureR r' b) : PureR (fun vs H Q => r vs H Q ∨ r' vs H Q) (orB a b) := fun G H vs ds o Q g s e q => by
  unfold orB at e
  split at e
  · rename_i o' e'
    cases e
    exact .inl (h G H vs ds _ Q g s e' q)
  · exact .inr (h' G H vs ds o Q g s e q)
theorem OpR.or {X : Cx} {f : Value → Value → Sem Value} {r r' : R2} (h : OpR X f r) (h' : OpR X f r') : OpR X f (fun x y H Q => r x y H Q ∨ r' x y H Q) := fun pins s σ H x y v u Q I rx ry q =>
  q.elim (h pins s σ H x y v u Q I rx ry) (h' pins s σ H x y v u Q I rx ry)
theorem OpP.or {f : Value → Value → Sem Value} {a b : Bf} (h : OpP f a) (h' : OpP f b) : OpP f (orB a b) := fun X c u u' => by
  obtain ⟨r, h1, h2⟩ := h X c u u'
  obtain ⟨r', h1', h2'⟩ := h' X c u u'
  refine ⟨_, h1.or h1', fun G H vs ds o Q g s e q => ?_⟩
  rcases (h2.or h2') G H vs ds o Q g s e q with ⟨x, y, z1, z2⟩ | ⟨x, y, z1, z2⟩
  · exact ⟨x, y, z1, .inl z2⟩
  · exact ⟨x, y, z1, .inr z2⟩
/-- two ints -/
def bfII (C : Int → Int → Bool) (g : Int → Int → D) : Bf := fun ds => match ds with
  | [.int i, .int j] => if C i j = true then some (.fz (g i j)) else none
  | _ => none
theorem sws2 {G H : Hp} {vs : List V} {d e : D} (s : Sws G H vs [d, e]) : ∃ x y, vs = [x, y] ∧ Sw G H x d ∧ Sw G H y e := by
  cases s with
  | cons a r => cases r with
    | cons b r => cases r; exact ⟨_, _, rfl, a, b⟩
theorem sws1 {G H : Hp} {vs : List V} {d : D} (s : Sws G H vs [d]) : ∃ x, vs = [x] ∧ Sw G H x d := by
  cases s with
  | cons a r => cases r; exact ⟨_, rfl, a⟩
theorem sw_int {G H : Hp} {v : V} {i : Int} (s : Sw G H v (.int i)) : v = .int i := by cases s; rfl
theorem sw_str {G H : Hp} {v : V} {i : Str} (s : Sw G H v (.str i)) : v = .str i := by cases s; rfl
theorem sw_bl {G H : Hp} {v : V} {i : Bool} (s : Sw G H v (.bl i)) : v = .bl i := by cases s; rfl
theorem sw_non {G H : Hp} {v : V} (s : Sw G H v .non) : v = .non := by cases s; rfl
theorem sw_val {G H : Hp} {v u : V} (s : Sw G H v (.val u)) : v = u := by cases s; rfl
theorem sw_lst {G H : Hp} {v : V} {ds : List D} (s : Sw G H v (.nd .lst ds)) : ∃ a vs, v = .ref a ∧ H a = some (.lst vs) ∧ Rps G vs ds := by
  obtain ⟨a, o, vs, e, h, sh, r⟩ := s
  obtain rfl := sh.ex rfl
  exact ⟨a, vs, e, h, r⟩
theorem sw_tup {G H : Hp} {v : V} {ds : List D} (s : Sw G H v (.nd .tup ds)) : ∃ a vs, v = .ref a ∧ H a = some (.tup vs) ∧ Rps G vs ds := by
  obtain ⟨a, o, vs, e, h, sh, r⟩ := s
  obtain rfl := sh.ex rfl
  exact ⟨a, vs, e, h, r⟩
theorem OpP.ii {f : Value → Value → Sem Value} {C : Int → Int → Prop} {C' : Int → Int → Bool} {g : Int → Int → V} {gd : Int → Int → D} (h : ∀ X, OpR X f (rI C g)) (hc : ∀ i j, C' i j = true → C i j) (hg : ∀ G i j, Rp G (g i j) (gd i j)) : OpP f (bfII C' gd) := fun X c u u' => by
  refine ⟨_, h X, fun G H vs ds o Q gs s e q => ?_⟩
  unfold bfII at e
  split at e
  · rename_i i j
    split at e
    · rename_i hC
      cases e
      obtain ⟨x, y, rfl, hx, hy⟩ := sws2 s
      refine ⟨x, y, rfl, i, j, sw_int hx, sw_int hy, hc i j hC, q _ _ _ (.old (hg _ _ _))⟩
    · cases e
  · cases e
theorem rI_of {f : Value → Value → Sem Value} {g : Int → Int → V} (h : ∀ X, OpR X f (rI0 g)) : ∀ X, OpR X f (rI (fun _ _ => True) g) := fun X pins s σ H x y v u Q I rx ry ⟨i, j, e1, e2, _, q⟩ => h X pins s σ H x y v u Q I rx ry ⟨i, j, e1, e2, q⟩
def tt2 : Int → Int → Bool := fun _ _ => true
theorem addI_ok : OpP (binaryOp .Add) (bfII tt2 fun i j => .int (i + j)) := OpP.ii (rI_of fun _ => op_add) (fun _ _ _ => trivial) (fun _ _ _ => .int)
theorem subI_ok : OpP (binaryOp .Sub) (bfII tt2 fun i j => .int (i - j)) := OpP.ii (rI_of fun _ => op_sub) (fun _ _ _ => trivial) (fun _ _ _ => .int)
/-- a bound that is stuck at once where i is open -/
def smallB (n : Nat) (i : Int) : Bool := Nat.ble i.natAbs n
theorem smallB_iff {n : Nat} {i : Int} : smallB n i = true ↔ -(n : Int) ≤ i ∧ i ≤ n := by
  unfold smallB
  rw [Nat.ble_eq]
  omega
def mulC (i j : Int) : Bool := smallB 18446744073709551615 i || smallB 18446744073709551615 j
theorem mulI_ok : OpP (binaryOp .Mult) (bfII mulC fun i j => .int (i * j)) := OpP.ii (fun _ => op_mul) (fun i j h => by
  unfold mulC at h
  simp only [Bool.or_eq_true, smallB_iff] at h
  exact h.imp (fun q => by omega) (fun q => by omega)) (fun _ _ _ => .int)
def divC (_ j : Int) : Bool := decide (j ≠ 0 ∧ j.natAbs < 1073741824)
theorem divI_ok : OpP (binaryOp .FloorDiv) (bfII divC fun i j => .int (i.fdiv j)) := OpP.ii (fun _ => op_fdivN) (fun i j h => of_decide_eq_true (p := j ≠ 0 ∧ j.natAbs < 1073741824) h) (fun _ _ _ => .int)
def modC (_ j : Int) : Bool := decide (j ≠ 0)
theorem modI_ok : OpP (binaryOp .Mod) (bfII modC fun i j => .int (i.fmod j)) := OpP.ii (fun _ => op_modN) (fun i j h => of_decide_eq_true h) (fun _ _ _ => .int)
def powC (i j : Int) : Bool := decide (0 ≤ j ∧ j ≤ 1000000 ∧ i.natAbs < 18446744073709551616)
theorem powI_ok : OpP (binaryOp .Pow) (bfII powC fun i j => .int (i ^ j.toNat)) := OpP.ii (fun _ => op_pow) (fun i j h => of_decide_eq_true (p := 0 ≤ j ∧ j ≤ 1000000 ∧ i.natAbs < 18446744073709551616) h) (fun _ _ _ => .int)
theorem ltI_ok : OpP (compareOp .Lt) (bfII tt2 fun i j => .bl (decide (i < j))) := OpP.ii (rI_of fun _ => op_lt) (fun _ _ _ => trivial) (fun _ _ _ => .bl)
theorem leI_ok : OpP (compareOp .LtE) (bfII tt2 fun i j => .bl (decide (i ≤ j))) := OpP.ii (rI_of fun _ => op_le) (fun _ _ _ => trivial) (fun _ _ _ => .bl)
theorem gtI_ok : OpP (compareOp .Gt) (bfII tt2 fun i j => .bl (decide (j < i))) := OpP.ii (rI_of fun _ => op_gt) (fun _ _ _ => trivial) (fun _ _ _ => .bl)
theorem geI_ok : OpP (compareOp .GtE) (bfII tt2 fun i j => .bl (decide (j ≤ i))) := OpP.ii (rI_of fun _ => op_ge) (fun _ _ _ => trivial) (fun _ _ _ => .bl)
/-- two texts -/
def bfSS (C : Str → Str → Bool) (g : Str → Str → D) : Bf := fun ds => match ds with
  | [.str i, .str j] => if C i j = true then some (.fz (g i j)) else none
  | _ => none
theorem OpP.ss {f : Value → Value → Sem Value} {C' : Str → Str → Bool} {g : Str → Str → V} {gd : Str → Str → D} (h : ∀ X, OpR X f (fun x y H Q => ∃ i j, x = .str i ∧ y = .str j ∧ C' i j = true ∧ Q (g i j) H)) (hg : ∀ G i j, Rp G (g i j) (gd i j)) : OpP f (bfSS C' gd) := fun X c u u' => by
  refine ⟨_, h X, fun G H vs ds o Q gs s e q => ?_⟩
  unfold bfSS at e
  split at e
  · rename_i i j
    split at e
    · rename_i hC
      cases e
      obtain ⟨x, y, rfl, hx, hy⟩ := sws2 s
      exact ⟨x, y, rfl, i, j, sw_str hx, sw_str hy, hC, q _ _ _ (.old (hg _ _ _))⟩
    · cases e
  · cases e
def tts : Str → Str → Bool := fun _ _ => true
theorem rS_of {f : Value → Value → Sem Value} {g : Str → Str → V} (h : ∀ X, OpR X f (fun x y H Q => ∃ i j, x = .str i ∧ y = .str j ∧ Q (g i j) H)) : ∀ X, OpR X f (fun x y H Q => ∃ i j, x = .str i ∧ y = .str j ∧ tts i j = true ∧ Q (g i j) H) :=
  fun X pins s σ H x y v u Q I rx ry ⟨i, j, e1, e2, _, q⟩ => h X pins s σ H x y v u Q I rx ry ⟨i, j, e1, e2, q⟩
def addSC (i j : Str) : Bool := decide (i.length + j.length ≤ sizeLine)
theorem addS_ok : OpP (binaryOp .Add) (bfSS addSC fun i j => .str (i ++ j)) := OpP.ss (fun X pins s σ H x y v u Q I rx ry ⟨i, j, e1, e2, hz, q⟩ => op_add_str pins s σ H x y v u Q I rx ry ⟨i, j, e1, e2, of_decide_eq_true hz, q⟩) (fun _ _ _ => .str)
theorem ltS_ok : OpP (compareOp .Lt) (bfSS tts fun i j => .bl (decide (i.cps.toList < j.cps.toList))) := OpP.ss (rS_of fun _ => op_lt_str) (fun _ _ _ => .bl)
theorem leS_ok : OpP (compareOp .LtE) (bfSS tts fun i j => .bl (!decide (j.cps.toList < i.cps.toList))) := OpP.ss (rS_of fun _ => op_le_str) (fun _ _ _ => .bl)
theorem gtS_ok : OpP (compareOp .Gt) (bfSS tts fun i j => .bl (decide (j.cps.toList < i.cps.toList))) := OpP.ss (rS_of fun _ => op_gt_str) (fun _ _ _ => .bl)
theorem geS_ok : OpP (compareOp .GtE) (bfSS tts fun i j => .bl (!decide (i.cps.toList < j.cps.toList))) := OpP.ss (rS_of fun _ => op_ge_str) (fun _ _ _ => .bl)
theorem inS_ok : OpP (compareOp .In) (bfSS tts fun i j => .bl (!(Builtin.Str.occurrences j i 0 j.length 1).isEmpty)) := OpP.ss (rS_of fun _ => op_in_str) (fun _ _ _ => .bl)
theorem ninS_ok : OpP (compareOp .NotIn) (bfSS tts fun i j => .bl (!(!(Builtin.Str.occurrences j i 0 j.length 1).isEmpty))) := OpP.ss (rS_of fun _ => L2.op_notIn_str) (fun _ _ _ => .bl)
/-- lists, tuples put together -/
def bfCat : Bf := fun ds => match ds with
  | [.nd .lst a, .nd .lst b] => if a.length + b.length ≤ sizeLine then some (.own .lst ((a ++ b).map O.fz)) else none
  | [.nd .tup a, .nd .tup b] => if a.length + b.length ≤ sizeLine then some (.fz (.nd .tup (a ++ b))) else none
  | _ => none
theorem Rps.append {G : Hp} : ∀ {vs ws : List V} {ds es : List D}, Rps G vs ds → Rps G ws es → Rps G (vs ++ ws) (ds ++ es)
  | _, _, _, _, .nil, h => h
  | _, _, _, _, .cons a r, h => .cons a (Rps.append r h)
theorem Rps.nil_iff {G : Hp} {vs : List V} {ds : List D} (h : Rps G vs ds) : vs = [] ↔ ds = [] := by cases h <;> simp
theorem cat_ok : OpP (binaryOp .Add) bfCat := fun X c u u' => by
  refine ⟨_, (op_cat (X := X)).or op_catA, fun G H vs ds o Q gs s e q => ?_⟩
  unfold bfCat at e
  split at e
  · rename_i a b
    split at e
    · rename_i hz
      cases e
      obtain ⟨x, y, rfl, hx, hy⟩ := sws2 s
      obtain ⟨l, xs, rfl, h1, r1⟩ := sw_lst hx
      obtain ⟨m, ys, rfl, h2, r2⟩ := sw_lst hy
      refine ⟨_, _, rfl, .inl ⟨l, m, xs, ys, rfl, rfl, h1, h2, by rw [r1.length, r2.length]; exact hz, fun p hp => q _ _ _ (.made hp (r1.append r2) rfl rfl)⟩⟩
    · cases e
  · rename_i a b
    split at e
    · rename_i hz
      cases e
      obtain ⟨x, y, rfl, hx, hy⟩ := sws2 s
      have hx0 := hx
      have hy0 := hy
      obtain ⟨l, xs, rfl, h1, r1⟩ := sw_tup hx
      obtain ⟨m, ys, rfl, h2, r2⟩ := sw_tup hy
      -- a tuple that stands is frozen as it stands
      have old : ∀ {a : Addr} {xs : List V} {ds : List D}, H a = some (.tup xs) → Rps G xs ds → NewS G H (ext G H []) H (.ref a) (.fz (.nd .tup ds)) := fun {a xs ds} h r =>
        ⟨ext_same, fun A vs os s => s.more.cons (.nd (ext_at gs h (.inr trivial)) (.inl rfl) (r.mono ext_same))⟩
      refine ⟨_, _, rfl, .inr ⟨l, m, xs, ys, rfl, rfl, .inl (.inl h1), .inl (.inl h2), by rw [r1.length, r2.length]; exact hz, fun e1 => ?_, fun e1 e2 => ?_, fun e1 e2 p hp => ?_⟩⟩
      · have : a = [] := r1.nil_iff.mp e1
        subst this
        exact q _ _ _ (old h2 r2)
      · have : b = [] := r2.nil_iff.mp e2
        subst this
        rw [List.append_nil] at q
        exact q _ _ _ (old h1 r1)
      · obtain ⟨G', nw⟩ := NewS.tup gs hp (r1.append r2)
        exact q _ _ _ nw
    · cases e
  · cases e
def bfAdd : Bf := orB (bfII tt2 fun i j => .int (i + j)) (orB (bfSS addSC fun i j => .str (i ++ j)) bfCat)
theorem add_ok : OpP (binaryOp .Add) bfAdd := addI_ok.or (addS_ok.or cat_ok)
/-- a list, a tuple so many times -/
def bfRep : Bf := fun ds => match ds with
  | [.nd .lst a, .int k] => if smallB 9223372036854775807 k = true ∧ a.length * k.toNat ≤ sizeLine then some (.own .lst ((List.replicate k.toNat a).flatten.map O.fz)) else none
  | _ => none
theorem Rps.rep {G : Hp} {vs : List V} {ds : List D} (h : Rps G vs ds) : ∀ n : Nat, Rps G (List.replicate n vs).flatten (List.replicate n ds).flatten
  | 0 => .nil
  | n + 1 => by rw [List.replicate_succ, List.replicate_succ, List.flatten_cons, List.flatten_cons]; exact h.append (Rps.rep h n)
theorem rep_ok : OpP (binaryOp .Mult) bfRep := fun X c u u' => by
  refine ⟨_, op_rep (X := X), fun G H vs ds o Q gs s e q => ?_⟩
  unfold bfRep at e
  split at e
  · rename_i a k
    split at e
    · rename_i hz
      cases e
      obtain ⟨x, y, rfl, hx, hy⟩ := sws2 s
      obtain ⟨l, xs, rfl, h1, r1⟩ := sw_lst hx
      exact ⟨_, _, rfl, l, k, xs, rfl, sw_int hy, h1, (by have := smallB_iff.mp hz.1; omega), (by have := smallB_iff.mp hz.1; omega), by rw [r1.length]; exact hz.2, fun p hp => q _ _ _ (.made hp (r1.rep _) rfl rfl)⟩
    · cases e
  · cases e
/-- a tuple once is the tuple itself -/
theorem tup_mul1 (l : Addr) (items : Array Value) (n : Nat) (dd : Option Addr) (sl : Array (Option Value)) (u : Tok) :
    Meets (Builtin.«tuple.__mul__» ⟨[.ref l, .int 1 u], []⟩) (fun _ R s => s.heap.get? l = some { cls := .type "tuple", dict := dd, data := .seq items n, slots := sl } ∧ R (.ok (.ret (.ref l))) s) :=
  .of_wp fun prog w A R s h => by
    obtain ⟨hp, g, d, tk, os⟩ := s
    obtain ⟨hl, h⟩ := h
    have f1 := AutoSeq1.idx_int
    wp_walk using wpAny_loadPart' hl
    exact ⟨_, rfl, h⟩
theorem op_repT1 {X : Cx} : OpR X (binaryOp .Mult) (fun x y H Q => ∃ l xs, x = .ref l ∧ y = .int 1 ∧ SqT X.K H l xs ∧ Q (.ref l) H) := by
  rintro pins s σ H x y v u Q I rx ry ⟨l, xs, rfl, rfl, hT, q⟩
  cases rx
  obtain ⟨t, rfl⟩ := ry
  obtain ⟨its, r, ⟨⟨cls, dd, data, sl⟩, ho, hc, n, hd⟩, _⟩ := I.tuple hT
  simp only at hc hd
  subst hc hd
  exact wpAny_binaryOp_repeat_ref (T := "tuple") (U := "int") (by decide) ⟨_, ho, rfl⟩ (fun s' => typeIs_int s' 1 t) noFill_tuple_mul F.fills_int_mul F.slot_int_rmul repeat_tuple F.slot_int_index.lookup
    (call_meets F.slot_int_rmul (typeIs_int s 1 t) F.entry_int_rmul (F.args_int_rmul_2 _ _) (int_rmul_tuple 1 t l its.toArray n dd sl)
      ⟨ho, rfl, ⟨_, ho, rfl⟩, call_meets F.slot_tuple_mul ⟨_, ho, rfl⟩ F.entry_tuple_mul (F.args_tuple_mul_2 _ _) (tup_mul1 l its.toArray n dd sl t) ⟨ho, .ref l, H, I, rfl, q⟩⟩)
def bfRepT1 : Bf := fun ds => match ds with
  | [.nd .tup a, .int k] => if k = 1 then some (.fz (.nd .tup a)) else none
  | _ => none
def bfRepT : Bf := fun ds => match ds with
  | [.nd .tup a, .int k] => if a ≠ [] ∧ 2 ≤ k ∧ k ≤ 1000 ∧ a.length ≤ 1000 then some (.fz (.nd .tup (List.replicate k.toNat a).flatten)) else none
  | _ => none
theorem rept1_ok : OpP (binaryOp .Mult) bfRepT1 := fun X c u u' => by
  refine ⟨_, op_repT1 (X := X), fun G H vs ds o Q gs s e q => ?_⟩
  unfold bfRepT1 at e
  split at e
  · split at e
    · rename_i hz
      cases e
      subst hz
      obtain ⟨x, y, rfl, hx, hy⟩ := sws2 s
      obtain ⟨l, xs, rfl, h1, r1⟩ := sw_tup hx
      exact ⟨_, _, rfl, l, xs, rfl, sw_int hy, .inl (.inl h1), q _ _ _ ⟨ext_same, fun A vs os s => s.more.cons (.nd (ext_at gs h1 (.inr trivial)) (.inl rfl) (r1.mono ext_same))⟩⟩
    · cases e
  · cases e
theorem rept_ok : OpP (binaryOp .Mult) bfRepT := fun X c u u' => by
  refine ⟨_, op_repT (X := X), fun G H vs ds o Q gs s e q => ?_⟩
  unfold bfRepT at e
  split at e
  · rename_i a k
    split at e
    · rename_i hz
      cases e
      obtain ⟨x, y, rfl, hx, hy⟩ := sws2 s
      obtain ⟨l, xs, rfl, h1, r1⟩ := sw_tup hx
      refine ⟨_, _, rfl, l, k, xs, rfl, sw_int hy, .inl (.inl h1), (fun z => hz.1 ?_), hz.2.1, hz.2.2.1, by rw [r1.length]; exact hz.2.2.2, fun p hp => ?_⟩
      · exact (Rps.nil_iff r1).mp z
      · obtain ⟨G', nw⟩ := NewS.tup gs hp (r1.rep k.toNat)
        exact q _ _ _ nw
    · cases e
  · cases e
def bfMul : Bf := orB (bfII mulC fun i j => .int (i * j)) (orB bfRep (orB bfRepT1 bfRepT))
theorem mul_ok : OpP (binaryOp .Mult) bfMul := mulI_ok.or (rep_ok.or (rept1_ok.or rept_ok))
def bfLt : Bf := orB (bfII tt2 fun i j => .bl (decide (i < j))) (bfSS tts fun i j => .bl (decide (i.cps.toList < j.cps.toList)))
def bfLe : Bf := orB (bfII tt2 fun i j => .bl (decide (i ≤ j))) (bfSS tts fun i j => .bl (!decide (j.cps.toList < i.cps.toList)))
def bfGt : Bf := orB (bfII tt2 fun i j => .bl (decide (j < i))) (bfSS tts fun i j => .bl (decide (j.cps.toList < i.cps.toList)))
def bfGe : Bf := orB (bfII tt2 fun i j => .bl (decide (j ≤ i))) (bfSS tts fun i j => .bl (!decide (i.cps.toList < j.cps.toList)))
theorem lt_ok : OpP (compareOp .Lt) bfLt := ltI_ok.or ltS_ok
theorem le_ok : OpP (compareOp .LtE) bfLe := leI_ok.or leS_ok
theorem gt_ok : OpP (compareOp .Gt) bfGt := gtI_ok.or gtS_ok
theorem ge_ok : OpP (compareOp .GtE) bfGe := geI_ok.or geS_ok
/-! ### == of data -/
mutual
def toPD : D → Option PyData
  | .non => some .none
  | .bl b => some (.bool b)
  | .int i => some (.int i)
  | .str x => some (.str x)
  | .nd .lst ds => (toPDs ds).map .list
  | .nd (.scr _) ds => (toPDs ds).map .list
  | .nd .tup ds => (toPDs ds).map .tuple
  | _ => none
def toPDs : List D → Option (List PyData)
  | [] => some []
  | d :: ds => (toPD d).bind fun p => (toPDs ds).map (p :: ·)
end
mutual
theorem Rp.dp {K : PySem.W.Frag} {G H : Hp} (g : Same G H) : ∀ {v : V} {d : D} {p : PyData}, Rp G v d → toPD d = some p → Dp K H v p
  | _, .bad, _, _, h => by cases h
  | _, .val _, _, _, h => by cases h
  | _, .non, _, .non, h => by cases h; exact .non
  | _, .bl _, _, .bl, h => by cases h; exact .bl _
  | _, .int _, _, .int, h => by cases h; exact .int _
  | _, .str _, _, .str, h => by cases h; exact .str _
  | _, .nd t ds, _, .nd ha sh r, h => by
    cases t with
    | lst =>
      obtain ⟨ps, hp, rfl⟩ := Option.map_eq_some_iff.mp h
      obtain rfl := sh.ex rfl
      exact .lst (.inl (.inl (g.ex ha id))) (Rps.dp g r hp)
    | scr ob =>
      obtain ⟨ps, hp, rfl⟩ := Option.map_eq_some_iff.mp h
      obtain rfl := sh.ex rfl
      exact .lst (.inl (.inr ⟨_, g.ex ha id⟩)) (Rps.dp g r hp)
    | tup =>
      obtain ⟨ps, hp, rfl⟩ := Option.map_eq_some_iff.mp h
      obtain rfl := sh.ex rfl
      exact .tup (.inl (.inl (g.ex ha id))) (Rps.dp g r hp)
    | _ => cases h
theorem Rps.dp {K : PySem.W.Frag} {G H : Hp} (g : Same G H) : ∀ {vs : List V} {ds : List D} {ps : List PyData}, Rps G vs ds → toPDs ds = some ps → DpAll K H vs ps
  | _, [], _, .nil, h => by cases h; exact .nil
  | _, d :: ds, _, .cons a r, h => by
    obtain ⟨p, h1, h⟩ := Option.bind_eq_some_iff.mp h
    obtain ⟨ps, h2, rfl⟩ := Option.map_eq_some_iff.mp h
    exact .cons (Rp.dp g a h1) (Rps.dp g r h2)
end
theorem Sw.dp {K : PySem.W.Frag} {G H : Hp} {v : V} {d : D} {p : PyData} (g : Same G H) (s : Sw G H v d) (h : toPD d = some p) : Dp K H v p := by
  cases d with
  | nd t ds =>
    obtain ⟨a, o, vs, rfl, ha, sh, r⟩ := s
    cases t with
    | lst =>
      obtain ⟨ps, hp, rfl⟩ := Option.map_eq_some_iff.mp h
      obtain rfl := sh.ex rfl
      exact .lst (.inl (.inl ha)) (Rps.dp g r hp)
    | scr ob =>
      obtain ⟨ps, hp, rfl⟩ := Option.map_eq_some_iff.mp h
      obtain rfl := sh.ex rfl
      exact .lst (.inl (.inr ⟨_, ha⟩)) (Rps.dp g r hp)
    | tup =>
      obtain ⟨ps, hp, rfl⟩ := Option.map_eq_some_iff.mp h
      obtain rfl := sh.ex rfl
      exact .tup (.inl (.inl ha)) (Rps.dp g r hp)
    | _ => cases h
  | _ => exact Rp.dp g s h
def shPD (d : D) : Option PyData := (toPD d).bind fun p => if SeqAt.shaped p = true then some p else none
theorem shPD_at {d : D} {p : PyData} (h : shPD d = some p) : toPD d = some p ∧ SeqAt.shaped p = true := by
  obtain ⟨q, h1, h⟩ := Option.bind_eq_some_iff.mp h
  split at h
  · cases h
    exact ⟨h1, by assumption⟩
  · cases h
/-- == looks at all of both, owned or not -/
def bfEqN (f : Bool → Bool) : BfO := fun os => match os with
  | [.fz (.str i), .fz (.str j)] => some (.fz (.bl (f (decide (i = j)))))
  | [a, b] => (shPD a.view).bind fun p => (shPD b.view).map fun q => .fz (.bl (f (PyData.eqv p q)))
  | _ => none
theorem rps2 {G : Hp} {vs : List V} {d e : D} (s : Rps G vs [d, e]) : ∃ x y, vs = [x, y] ∧ Rp G x d ∧ Rp G y e := by
  cases s with
  | cons a r => cases r with
    | cons b r => cases r; exact ⟨_, _, rfl, a, b⟩
theorem rps1 {G : Hp} {vs : List V} {d : D} (s : Rps G vs [d]) : ∃ x, vs = [x] ∧ Rp G x d := by
  cases s with
  | cons a r => cases r; exact ⟨_, rfl, a⟩
theorem eq_at {K : PySem.W.Frag} {G H : Hp} {vs : List V} {os : List O} {F : List Addr} {o : O} {f : Bool → Bool} (gs : Same G H) (s : Ows G H vs os F) (e : bfEqN f os = some o) : (∃ i j, vs = [.str i, .str j] ∧ o = .fz (.bl (f (decide (i = j))))) ∨ ∃ x y d d', vs = [x, y] ∧ Dp K H x d ∧ Dp K H y d' ∧ SeqAt.shaped d = true ∧ SeqAt.shaped d' = true ∧ o = .fz (.bl (f (PyData.eqv d d'))) := by
  unfold bfEqN at e
  split at e
  · rename_i i j
    cases e
    obtain ⟨x, y, rfl, hx, hy⟩ := rps2 (s.all gs)
    cases hx
    cases hy
    exact .inl ⟨i, j, rfl, rfl⟩
  · rename_i a b
    obtain ⟨p, h1, e⟩ := Option.bind_eq_some_iff.mp e
    obtain ⟨q', h2, rfl⟩ := Option.map_eq_some_iff.mp e
    obtain ⟨x, y, rfl, hx, hy⟩ := rps2 (s.all gs)
    exact .inr ⟨x, y, p, q', rfl, hx.dp (Same.refl _) (shPD_at h1).1, hy.dp (Same.refl _) (shPD_at h2).1, (shPD_at h1).2, (shPD_at h2).2, rfl⟩
  · cases e
def bfEq : BfO := fun os => match eqTq os with
  | some b => some (.fz (.bl b))
  | none => bfEqN id os
def bfNe : BfO := bfEqN (!·)
theorem eq_ok : OpO (compareOp .Eq) bfEq := fun X c u => ⟨_, ((op_eqD (X := X) (by omega)).or op_eq).or (op_eqT (by omega)), fun G H vs os F o Q gs s e q => by
  unfold bfEq at e
  split at e
  · rename_i b hb
    cases e
    unfold eqTq at hb
    split at hb
    · obtain ⟨ks, ds, ls, es, e1, e2, h1, h2, rfl⟩ := eqTd_at hb
      obtain ⟨x, y, rfl, hx, hy⟩ := rps2 (s.all gs)
      rw [e1] at hx
      rw [e2] at hy
      obtain ⟨a, kvs, rfl, r1, v1, k1⟩ := dT_at hx h1
      obtain ⟨c, lvs, rfl, r2, v2, k2⟩ := dT_at hy h2
      exact ⟨_, _, rfl, .inr ⟨a, c, kvs, lvs, rfl, rfl, r1, r2, v1, v2, q _ _ _ (by rw [k1, k2]; exact .old .bl)⟩⟩
    · cases hb
  · rcases eq_at (K := X.K) gs s e with ⟨i, j, rfl, rfl⟩ | ⟨x, y, d, d', rfl, h1, h2, h3, h4, rfl⟩
    · exact ⟨_, _, rfl, .inl (.inr ⟨rfl, q _ _ _ (by
        have z : decide (V.str i = V.str j) = decide (i = j) := by simp
        rw [z]
        exact .old .bl)⟩)⟩
    · exact ⟨x, y, rfl, .inl (.inl ⟨d, d', h1, h2, h3, h4, q _ _ _ (.old .bl)⟩)⟩⟩
theorem ne_ok : OpO (compareOp .NotEq) bfNe := fun X c u => ⟨_, (op_neD (X := X) (by omega)).or op_ne, fun G H vs os F o Q gs s e q => by
  rcases eq_at (K := X.K) gs s e with ⟨i, j, rfl, rfl⟩ | ⟨x, y, d, d', rfl, h1, h2, h3, h4, rfl⟩
  · exact ⟨_, _, rfl, .inr ⟨rfl, q _ _ _ (by
      have z : decide (V.str i = V.str j) = decide (i = j) := by simp
      rw [z]
      exact .old .bl)⟩⟩
  · exact ⟨x, y, rfl, .inl ⟨d, d', h1, h2, h3, h4, q _ _ _ (.old .bl)⟩⟩⟩
/-- is None -/
def bfIsN (f : Bool → Bool) : Bf := fun ds => match ds with
  | [d, .non] => match d with
    | .non => some (.fz (.bl (f true)))
    | .bl _ => some (.fz (.bl (f false)))
    | .int _ => some (.fz (.bl (f false)))
    | .str _ => some (.fz (.bl (f false)))
    | .nd _ _ => some (.fz (.bl (f false)))
    | _ => none
  | [.bl a, .bl b] => some (.fz (.bl (f (a == b))))
  | _ => none
theorem isn_at {G H : Hp} {vs : List V} {ds : List D} {o : O} {f : Bool → Bool} (s : Sws G H vs ds) (e : bfIsN f ds = some o) : (∃ x, vs = [x, .non] ∧ o = .fz (.bl (f (decide (x = .non))))) ∨ ∃ a b, vs = [.bl a, .bl b] ∧ o = .fz (.bl (f (decide (a = b)))) := by
  unfold bfIsN at e
  split at e
  · rename_i d
    obtain ⟨x, y, rfl, hx, hy⟩ := sws2 s
    obtain rfl := sw_non hy
    split at e
    · cases e; obtain rfl := sw_non hx; exact .inl ⟨_, rfl, by simp⟩
    · cases e; obtain rfl := sw_bl hx; exact .inl ⟨_, rfl, by simp⟩
    · cases e; obtain rfl := sw_int hx; exact .inl ⟨_, rfl, by simp⟩
    · cases e; obtain rfl := sw_str hx; exact .inl ⟨_, rfl, by simp⟩
    · cases e; obtain ⟨a, _, _, rfl, _⟩ := hx; exact .inl ⟨_, rfl, by simp⟩
    · cases e
  · rename_i a b
    obtain ⟨x, y, rfl, hx, hy⟩ := sws2 s
    obtain rfl := sw_bl hx
    obtain rfl := sw_bl hy
    cases e
    refine .inr ⟨a, b, rfl, ?_⟩
    rw [Bool.beq_eq_decide_eq]
  · cases e
theorem is_ok : OpP (compareOp .Is) (bfIsN id) := fun X c u u' => ⟨_, (op_isN (X := X)).or op_isBl, fun G H vs ds o Q gs s e q => by
  rcases isn_at s e with ⟨x, rfl, rfl⟩ | ⟨a, b, rfl, rfl⟩
  · exact ⟨x, _, rfl, .inl ⟨rfl, q _ _ _ (.old .bl)⟩⟩
  · exact ⟨_, _, rfl, .inr ⟨a, b, rfl, rfl, q _ _ _ (.old .bl)⟩⟩⟩
theorem isnot_ok : OpP (compareOp .IsNot) (bfIsN (!·)) := fun X c u u' => ⟨_, (op_notN (X := X)).or op_notBl, fun G H vs ds o Q gs s e q => by
  rcases isn_at s e with ⟨x, rfl, rfl⟩ | ⟨a, b, rfl, rfl⟩
  · exact ⟨x, _, rfl, .inl ⟨rfl, q _ _ _ (.old .bl)⟩⟩
  · exact ⟨_, _, rfl, .inr ⟨a, b, rfl, rfl, q _ _ _ (.old .bl)⟩⟩⟩
end VS
namespace VS
open PySem PySem.Spec PyProof.Rows L2
/-! ## dicts as pairs -/
/-- what stands at a key -/
def getK {κ α : Type} [DecidableEq κ] (kvs : List (κ × α)) (k : κ) : Option α := (kvs.find? fun kv => decide (kv.1 = k)).map (·.2)
def keyOf : D → Option Key
  | .int i => some (.inl i)
  | .str x => some (.inr x)
  | _ => none
def keysOf : List D → Option (List Key)
  | [] => some []
  | d :: ds => (keyOf d).bind fun k => (keysOf ds).map (k :: ·)
def tkeyOf : D → Option (List Key)
  | .nd .tup ds => keysOf ds
  | _ => none
theorem keyOf_v {G : Hp} {v : V} {d : D} {k : Key} (r : Rp G v d) (h : keyOf d = some k) : v = kV k := by
  cases d <;> first | (cases h; cases r; rfl) | cases h
theorem keysOf_v {G : Hp} : ∀ {vs : List V} {ds : List D} {ks : List Key}, Rps G vs ds → keysOf ds = some ks → vs = ks.map kV
  | _, _, _, .nil, h => by cases h; rfl
  | _, _, _, .cons a r, h => by
    obtain ⟨k, h1, h⟩ := Option.bind_eq_some_iff.mp h
    obtain ⟨ks, h2, rfl⟩ := Option.map_eq_some_iff.mp h
    rw [keyOf_v a h1, keysOf_v r h2]
    rfl
theorem sw_key {G H : Hp} {v : V} {d : D} {k : Key} (s : Sw G H v d) (h : keyOf d = some k) : v = kV k := by
  cases d <;> first | (cases h; cases s; rfl) | cases h
theorem sw_tkey {G H : Hp} {v : V} {d : D} {k : List Key} (s : Sw G H v d) (h : tkeyOf d = some k) : ∃ b, v = .ref b ∧ H b = some (.tup (k.map kV)) := by
  unfold tkeyOf at h
  split at h
  · obtain ⟨a, vs, rfl, ha, r⟩ := sw_tup s
    rw [keysOf_v r h] at ha
    exact ⟨a, rfl, ha⟩
  · cases h
theorem valV_zip {κ : Type} [DecidableEq κ] {G : Hp} (k : κ) : ∀ {ks : List κ} {vs : List V} {ds : List D}, Rps G vs ds → ks.length = vs.length →
    (valV (ks.zip vs) k).isSome = (getK (ks.zip ds) k).isSome ∧ ∀ d, getK (ks.zip ds) k = some d → ∃ v, valV (ks.zip vs) k = some v ∧ Rp G v d
  | [], _, _, _, _ => ⟨by simp [valV, getK], fun d h => by simp [getK] at h⟩
  | _ :: _, _, _, .nil, h => by cases h
  | j :: ks, _, _, .cons (v := v) (d := d') (ds := ds') a r, h => by
    obtain ⟨h1, h2⟩ := valV_zip k (ks := ks) r (by simpa using h)
    simp only [List.zip_cons_cons]
    by_cases e : j = k
    · rw [valV_pos (p := (j, v)) e]
      have : getK ((j, d') :: ks.zip ds') k = some d' := by simp [getK, List.find?_cons, e]
      rw [this]
      exact ⟨rfl, fun d hd => by cases hd; exact ⟨v, rfl, a⟩⟩
    · rw [valV_neg (p := (j, v)) e]
      have : ∀ xs : List (κ × D), getK ((j, d') :: xs) k = getK xs k := fun xs => by simp [getK, List.find?_cons, e]
      rw [this]
      exact ⟨h1, h2⟩
/-- what a dict holds: ints and texts, or tuples of them, as keys -/
def dlook : Tag → List D → D → Option (Option D)
  | .dK ks, ds, d => (keyOf d).map fun k => getK (ks.zip ds) k
  | .dT ks, ds, d => (tkeyOf d).map fun k => getK (ks.zip ds) k
  | _, _, _ => none
theorem dlook_at {G H : Hp} {x y : V} {t : Tag} {ds : List D} {d : D} {r : Option D} (sx : Sw G H x (.nd t ds)) (sy : Sw G H y d) (h : dlook t ds d = some r) :
    ∃ a o, x = .ref a ∧ DGet H a y o ∧ o.isSome = r.isSome ∧ ∀ e, r = some e → ∃ v, o = some v ∧ Rp G v e := by
  obtain ⟨a, ob, vs, rfl, ha, sh, rr⟩ := sx
  cases t with
  | dK ks =>
    obtain ⟨hl, hd⟩ := sh.dK
    obtain ⟨k, hk, rfl⟩ := Option.map_eq_some_iff.mp h
    obtain ⟨h1, h2⟩ := valV_zip k rr hl
    refine ⟨a, _, rfl, .inl ⟨_, k, ?_, sw_key sy hk, rfl⟩, h1, h2⟩
    rcases hd with rfl | ⟨ob, rfl⟩
    · exact .inl ha
    · exact .inr ⟨_, ha⟩
  | dT ks =>
    obtain ⟨hl, hd⟩ := sh.dT
    obtain ⟨k, hk, rfl⟩ := Option.map_eq_some_iff.mp h
    obtain ⟨b, rfl, hb⟩ := sw_tkey sy hk
    obtain ⟨h1, h2⟩ := valV_zip k rr hl
    refine ⟨a, _, rfl, .inr ⟨_, k, b, ?_, rfl, hb, rfl⟩, h1, h2⟩
    rcases hd with rfl | ⟨ob, rfl⟩
    · exact .inl ha
    · exact .inr ⟨_, ha⟩
  | _ => cases h
/-! ### in, not in -/
def flatD : D → Bool
  | .non => true
  | .bl _ => true
  | .int _ => true
  | .str _ => true
  | _ => false
def eqFl : D → D → Bool
  | .non, .non => true
  | .bl a, .bl b => a == b
  | .bl a, .int b => (if a then 1 else 0) == b
  | .int a, .bl b => a == (if b then 1 else 0)
  | .int a, .int b => a == b
  | .str a, .str b => a == b
  | _, _ => false
def bfIn (f : Bool → Bool) : Bf := fun ds => match ds with
  | [.str i, .str j] => some (.fz (.bl (f (!(Builtin.Str.occurrences j i 0 j.length 1).isEmpty))))
  | [d, .nd t xs] => match t with
    | .lst => (shPD d).bind fun p => (shPD (.nd .lst xs)).bind fun q => match q with
      | .list qs => some (.fz (.bl (f (qs.any fun z => PyData.eqv z p))))
      | _ => none
    | .tup => if flatD d && xs.all flatD then some (.fz (.bl (f (xs.any fun y => eqFl y d)))) else none
    | t => (dlook t xs d).map fun r => .fz (.bl (f r.isSome))
  | _ => none
theorem rpv_flat {G : Hp} {v : V} {d : D} (r : Rp G v d) (h : flatD d = true) : flatV v = true := by
  cases r <;> first | rfl | cases h
theorem rp_flat {G : Hp} : ∀ {vs : List V} {ds : List D}, Rps G vs ds → ds.all flatD = true → vs.all flatV = true
  | _, _, .nil, _ => rfl
  | _, _, .cons a r, h => by
    rw [List.all_cons, Bool.and_eq_true] at h ⊢
    exact ⟨rpv_flat a h.1, rp_flat r h.2⟩
theorem eqFl_v {G : Hp} {v w : V} {d e : D} (r : Rp G v d) (s : Rp G w e) (hd : flatD d = true) (he : flatD e = true) : eqV v w = eqFl d e := by
  cases r <;> first | (cases hd; done) | (cases s <;> first | (cases he; done) | rfl)
theorem inV_fl {G : Hp} {w : V} {e : D} (s : Rp G w e) (he : flatD e = true) : ∀ {vs : List V} {ds : List D}, Rps G vs ds → ds.all flatD = true → inV w vs = ds.any fun y => eqFl y e
  | _, _, .nil, _ => rfl
  | _, _, .cons a r, h => by
    rw [List.all_cons, Bool.and_eq_true] at h
    unfold inV
    rw [List.any_cons, List.any_cons, eqFl_v a s h.1 he]
    congr 1
    exact inV_fl s he r h.2
theorem sw_fl {G H : Hp} {v : V} {d : D} (s : Sw G H v d) (h : flatD d = true) : Rp G v d := by
  cases d <;> first | exact s | cases h
theorem d_inR {X : Cx} (hu : X.A.units + 1 < cLine) : OpR X (compareOp .In) (fun x y H Q => ∃ a o, y = .ref a ∧ DGet H a x o ∧ Q (.bl o.isSome) H) := fun pins s σ H x y v u Q I rx ry ⟨a, o, e, g, q⟩ => by
  subst e
  obtain rfl : u = Value.ref a := ry
  exact d_in hu I g rx fun s' I' => ⟨.bl _, H, I', rfl, q⟩
theorem d_ninR {X : Cx} (hu : X.A.units + 1 < cLine) : OpR X (compareOp .NotIn) (fun x y H Q => ∃ a o, y = .ref a ∧ DGet H a x o ∧ Q (.bl (!o.isSome)) H) := fun pins s σ H x y v u Q I rx ry ⟨a, o, e, g, q⟩ => by
  subst e
  obtain rfl : u = Value.ref a := ry
  exact d_notIn hu I g rx fun s' I' => ⟨.bl _, H, I', rfl, q⟩
def rSI (f : Bool → Bool) : R2 := fun x y H Q => ∃ i j, x = .str i ∧ y = .str j ∧ Q (.bl (f (!(Builtin.Str.occurrences j i 0 j.length 1).isEmpty))) H
def rDI (f : Bool → Bool) : R2 := fun x y H Q => ∃ a o, y = .ref a ∧ DGet H a x o ∧ Q (.bl (f o.isSome)) H
def rLI (K : PySem.W.Frag) (f : Bool → Bool) : R2 := fun x y H Q => ∃ d ds, Dp K H x d ∧ Dp K H y (.list ds) ∧ SeqAt.shaped d = true ∧ SeqAt.shaped (.list ds) = true ∧ Q (.bl (f (ds.any fun z => PyData.eqv z d))) H
def rTI (K : PySem.W.Frag) (f : Bool → Bool) : R2 := fun x y H Q => ∃ p xs, y = .ref p ∧ (SqL K H p xs ∨ SqT K H p xs) ∧ flatV x = true ∧ xs.all flatV = true ∧ Q (.bl (f (inV x xs))) H
theorem bfIn_at {K : PySem.W.Frag} {G H : Hp} {vs : List V} {ds : List D} {o : O} {Q : VK} {f : Bool → Bool} (gs : Same G H) (s : Sws G H vs ds) (e : bfIn f ds = some o) (q : ∀ v H' G', NewS G H G' H' v o → Q v H') :
    ∃ x y, vs = [x, y] ∧ (rSI f x y H Q ∨ rDI f x y H Q ∨ rLI K f x y H Q ∨ rTI K f x y H Q) := by
  unfold bfIn at e
  split at e
  · obtain ⟨x, y, rfl, hx, hy⟩ := sws2 s
    cases e
    exact ⟨x, y, rfl, .inl ⟨_, _, sw_str hx, sw_str hy, q _ _ _ (.old .bl)⟩⟩
  · rename_i d t xs
    obtain ⟨x, y, rfl, hx, hy⟩ := sws2 s
    refine ⟨x, y, rfl, ?_⟩
    split at e
    · obtain ⟨p, h1, e⟩ := Option.bind_eq_some_iff.mp e
      obtain ⟨q', h2, e⟩ := Option.bind_eq_some_iff.mp e
      split at e
      · cases e
        exact .inr (.inr (.inl ⟨p, _, hx.dp gs (shPD_at h1).1, hy.dp gs (shPD_at h2).1, (shPD_at h1).2, (shPD_at h2).2, q _ _ _ (.old .bl)⟩))
      · cases e
    · split at e
      · rename_i hf
        rw [Bool.and_eq_true] at hf
        cases e
        obtain ⟨a, vs, rfl, ha, r⟩ := sw_tup hy
        have rx := sw_fl hx hf.1
        refine .inr (.inr (.inr ⟨a, vs, rfl, .inr (.inl (.inl ha)), rpv_flat rx hf.1, rp_flat r hf.2, ?_⟩))
        rw [inV_fl rx hf.1 r hf.2]
        exact q _ _ _ (.old .bl)
      · cases e
    · obtain ⟨r, h1, rfl⟩ := Option.map_eq_some_iff.mp e
      obtain ⟨a, o, rfl, g, h2, _⟩ := dlook_at hy hx h1
      refine .inr (.inl ⟨a, o, rfl, g, ?_⟩)
      rw [h2]
      exact q _ _ _ (.old .bl)
  · cases e
theorem or4 {X : Cx} {f : Value → Value → Sem Value} {a b c d : R2} (h1 : OpR X f a) (h2 : OpR X f b) (h3 : OpR X f c) (h4 : OpR X f d) : OpR X f (fun x y H Q => a x y H Q ∨ b x y H Q ∨ c x y H Q ∨ d x y H Q) :=
  h1.or (h2.or (h3.or h4))
theorem in_ok : OpO (compareOp .In) (bfD (bfIn id)) := fun X c u => ⟨_, or4 (a := rSI id) (b := rDI id) (c := rLI X.K id) (d := rTI X.K id) op_in_str (d_inR (by omega)) (op_inD (by omega)) op_in_seq, PureR.up fun G H vs ds o Q gs s e q => bfIn_at gs s e q⟩
theorem nin_ok : OpO (compareOp .NotIn) (bfD (bfIn (!·))) := fun X c u => ⟨_, or4 (a := rSI (!·)) (b := rDI (!·)) (c := rLI X.K (!·)) (d := rTI X.K (!·)) L2.op_notIn_str (d_ninR (by omega)) (op_notInD (by omega)) op_notIn_seq, PureR.up fun G H vs ds o Q gs s e q => bfIn_at gs s e q⟩
/-! ### subscripts -/
def isSlice : Expr → Bool
  | .Slice .. => true
  | _ => false
def bfIx : Bf := fun ds => match ds with
  | [.nd .lst xs, .int i] => (atI xs i).map .fz
  | [.nd .tup xs, .int i] => (atI xs i).map .fz
  | [.nd (.scr _) xs, .int i] => (atI xs i).map .fz
  | [.str z, .int i] => if z.length ≤ sizeLine then (atI z.cps.toList i).map fun c => .fz (.str ⟨#[c]⟩) else none
  | [.nd t xs, d] => (dlook t xs d).bind fun r => r.map .fz
  | _ => none
theorem rps_at {G : Hp} : ∀ {vs : List V} {ds : List D}, Rps G vs ds → ∀ {j : Nat} {d : D}, ds[j]? = some d → ∃ v, vs[j]? = some v ∧ Rp G v d
  | _, _, .nil, j, d, h => by simp at h
  | _, _, .cons a r, 0, d, h => by simp at h; subst h; exact ⟨_, rfl, a⟩
  | _, _, .cons a r, j + 1, d, h => by
    obtain ⟨v, h1, h2⟩ := rps_at r (j := j) (by simpa using h)
    exact ⟨v, by simpa using h1, h2⟩
theorem rps_atI {G : Hp} {vs : List V} {ds : List D} (r : Rps G vs ds) {i : Int} {d : D} (h : atI ds i = some d) : ∃ v, atI vs i = some v ∧ Rp G v d := by
  unfold atI at h ⊢
  rw [r.length]
  obtain ⟨j, h1, h2⟩ := Option.bind_eq_some_iff.mp h
  obtain ⟨v, h3, h4⟩ := rps_at r h2
  exact ⟨v, by rw [h1, Option.bind_some, h3], h4⟩
theorem ix_dict {X : Cx} (hu : X.A.units + 1 < cLine) : IxR X (fun x y H Q => ∃ a v, x = .ref a ∧ DGet H a y (some v) ∧ Q v H) := by
  intro value slice pins s σ H x y v u Q I rx ry h hs
  obtain ⟨a, w', rfl, g, q⟩ := h
  obtain rfl : v = Value.ref a := rx
  unfold subscriptTail
  have hT := dict_typeIs I g
  refine wpAny_bind ?_
  rw [getitemInPython_of_ne hT.not_modules]
  refine wpAny_bind (wpAny_specialOf hT PySem.F.slot_dict_getitem.lookup ?_)
  have fin : wpAny (model X.prog X.w) X.A (subscripted slice false (.ref a) u) (fun r s₃ => wpAny (model X.prog X.w) X.A (letTemporaryGo value (.ref a) r >>= fun _ => pure r) (EP X pins σ Q) X.xe s₃) X.xe s := by
    rw [hs]
    exact wpAny_operating (d_getItem hu I g ry fun w2 s' I' rw' => wpAny_bind (wpAny_letTemporaryGo (wpAny_pure ⟨w', H, I', rw', q⟩)))
  first
    | exact wpAny_pure (wpAny_bind fin)
    | exact wpAny_bind (wpAny_pure (wpAny_bind fin))
    | exact wpAny_bind fin
def rIxD : R2 := fun x y H Q => ∃ a v, x = .ref a ∧ DGet H a y (some v) ∧ Q v H
theorem bfIx_at {K : PySem.W.Frag} {G H : Hp} {vs : List V} {ds : List D} {o : O} {Q : VK} (gs : Same G H) (s : Sws G H vs ds) (e : bfIx ds = some o) (q : ∀ v H' G', NewS G H G' H' v o → Q v H') : ∃ x y, vs = [x, y] ∧ (rIx K x y H Q ∨ rIxD x y H Q) := by
  unfold bfIx at e
  split at e
  · rename_i xs i
    obtain ⟨x, y, rfl, hx, hy⟩ := sws2 s
    obtain ⟨d, hd, rfl⟩ := Option.map_eq_some_iff.mp e
    obtain ⟨a, vs, rfl, ha, r⟩ := sw_lst hx
    obtain ⟨v, h1, h2⟩ := rps_atI r hd
    exact ⟨_, y, rfl, .inl (.inl ⟨a, vs, i, v, rfl, sw_int hy, .inl (.inl ha), h1, q _ _ _ (.old h2)⟩)⟩
  · rename_i xs i
    obtain ⟨x, y, rfl, hx, hy⟩ := sws2 s
    obtain ⟨d, hd, rfl⟩ := Option.map_eq_some_iff.mp e
    obtain ⟨a, vs, rfl, ha, r⟩ := sw_tup hx
    obtain ⟨v, h1, h2⟩ := rps_atI r hd
    exact ⟨_, y, rfl, .inl (.inr (.inl ⟨a, vs, i, v, rfl, sw_int hy, .inl (.inl ha), h1, q _ _ _ (.old h2)⟩))⟩
  · rename_i ob xs i
    obtain ⟨x, y, rfl, hx, hy⟩ := sws2 s
    obtain ⟨d, hd, rfl⟩ := Option.map_eq_some_iff.mp e
    obtain ⟨a, o, vs, rfl, ha, sh, r⟩ := hx
    obtain rfl := sh.ex rfl
    obtain ⟨v, h1, h2⟩ := rps_atI r hd
    exact ⟨_, y, rfl, .inl (.inl ⟨a, vs, i, v, rfl, sw_int hy, .inl (.inr ⟨_, ha⟩), h1, q _ _ _ (.old h2)⟩)⟩
  · rename_i z i
    obtain ⟨x, y, rfl, hx, hy⟩ := sws2 s
    split at e
    · rename_i hz
      obtain ⟨c, hc, rfl⟩ := Option.map_eq_some_iff.mp e
      exact ⟨x, y, rfl, .inl (.inr (.inr ⟨z, i, c, sw_str hx, sw_int hy, hz, hc, q _ _ _ (.old .str)⟩))⟩
    · cases e
  · rename_i t xs d _ _ _
    obtain ⟨x, y, rfl, hx, hy⟩ := sws2 s
    obtain ⟨r, h1, e⟩ := Option.bind_eq_some_iff.mp e
    obtain ⟨d', h2, rfl⟩ := Option.map_eq_some_iff.mp e
    obtain ⟨a, o', rfl, g, _, h3⟩ := dlook_at hx hy h1
    obtain ⟨v, rfl, h4⟩ := h3 d' h2
    exact ⟨_, y, rfl, .inr ⟨a, v, rfl, g, q _ _ _ (.old h4)⟩⟩
  · cases e
theorem NoSl_of {b : Expr} (h : isSlice b = false) : ∀ o i, subscripted b false o i = operate [o, i] (getItem o i) := by
  cases b <;> first | (intro o i; rfl) | cases h
theorem VE.ix {Γ : Sg} {sc : Scope} {k : Nat} {a b : Expr} {oa ob' : Opd} {pos : Pos} (ha : VO Γ sc k a oa) (hb : VO Γ sc k b ob') (n : isSlice b = false) : VE Γ sc k (.Subscript a b pos) (vPure [oa, ob'] (bfD bfIx)) := by
  have m := MonoO.cons2 ha.1 hb.1
  refine ⟨vPure_mono m, fun X W ok tk => ?_⟩
  refine (pe_ix (ix_seq.or (ix_dict (by have := room65 ok.room; omega))) (ha.2 X W ok tk) (hb.2 X W ok tk) (NoSl_of n)).impV fun σ H Q h => ?_
  exact unpair (vPure_run m (PureR.up fun G H vs ds o Q gs s e q => bfIx_at gs s e q) h)
/-! ### slices -/
def cutD (xs : List D) (lo hi : Option Int) : List D := (xs.drop (HT.sIx xs.length 0 lo)).take (HT.sIx xs.length xs.length hi - HT.sIx xs.length 0 lo)
def cutR (d : D) (lo hi : Option Int) : Option O := match d with
  | .nd .lst xs => some (.own .lst ((cutD xs lo hi).map O.fz))
  | .nd .tup xs => some (.fz (.nd .tup (cutD xs lo hi)))
  | .str z => if z.length ≤ sizeLine then some (.fz (.str (cutS z lo hi))) else none
  | _ => none
theorem Rps.drop {G : Hp} : ∀ {vs : List V} {ds : List D} (n : Nat), Rps G vs ds → Rps G (vs.drop n) (ds.drop n)
  | _, _, 0, r => r
  | _, _, _ + 1, .nil => .nil
  | _, _, n + 1, .cons _ r => Rps.drop n r
theorem Rps.take {G : Hp} : ∀ {vs : List V} {ds : List D} (n : Nat), Rps G vs ds → Rps G (vs.take n) (ds.take n)
  | _, _, 0, _ => .nil
  | _, _, _ + 1, .nil => .nil
  | _, _, n + 1, .cons a r => .cons a (Rps.take n r)
theorem Rps.cut {G : Hp} {vs : List V} {ds : List D} (r : Rps G vs ds) (lo hi : Option Int) : Rps G (cutV vs lo hi) (cutD ds lo hi) := by
  unfold cutV cutD
  rw [r.length]
  exact (r.drop _).take _
def rSlAll (K : PySem.W.Frag) : V → Option Int → Option Int → Hp → VK → Prop := fun x lo hi H Q => rSlL K x lo hi H Q ∨ rSlA K x lo hi H Q ∨ rSlS x lo hi H Q
theorem sl_all {X : Cx} : SlR X (rSlAll X.K) := sl_list.or (sl_tupA.or sl_str)
theorem slice_at {K : PySem.W.Frag} {G H : Hp} {x : V} {d : D} {lo hi : Option Int} {o : O} {Q : VK} (gs : Same G H) (s : Sw G H x d) (e : cutR d lo hi = some o) (q : ∀ v H' G', NewS G H G' H' v o → Q v H') : rSlAll K x lo hi H Q := by
  unfold cutR at e
  split at e
  · cases e
    obtain ⟨a, vs, rfl, ha, r⟩ := sw_lst s
    exact .inl ⟨a, vs, rfl, .inl (.inl ha), fun p hp => q _ _ _ (.made hp (r.cut lo hi) rfl rfl)⟩
  · rename_i xs
    cases e
    obtain ⟨a, vs, rfl, ha, r⟩ := sw_tup s
    refine .inr (.inl ⟨a, vs, rfl, .inl (.inl ha), fun ⟨h1, h2⟩ => ?_, fun _ p hp => ?_⟩)
    · have hw : cutD xs lo hi = xs := by
        unfold cutD
        rw [← r.length, h1, h2, List.drop_zero, Nat.sub_zero, r.length]
        exact List.take_length
      rw [hw] at q
      exact q _ _ _ ⟨ext_same, fun A ws os s => s.more.cons (.nd (ext_at gs ha (.inr trivial)) (.inl rfl) (r.mono ext_same))⟩
    · obtain ⟨G', nw⟩ := NewS.tup gs hp (r.cut lo hi)
      exact q _ _ _ nw
  · split at e
    · cases e
      exact .inr (.inr ⟨_, sw_str s, by assumption, q _ _ _ (.old .str)⟩)
    · cases e
  · cases e
/-- a bound -/
def int1 : List D → Option Int
  | [.int i] => some i
  | _ => none
def evB : Option Opd → XP → Cf → (Option Int → Cf → Prop) → Prop
  | none, _, c, k => k none c
  | some o, E, c, k => evOps [o] E c fun t c1 => ob ((shOps [o] c1 t).bind int1) fun i => k (some i) c1
def MonoB : Option Opd → Prop
  | none => True
  | some o => MonoO [o]
def tpo (mg : Str → Option Value) (W : WX) : Option Opd → TO
  | none => tNoPart
  | some o => tPart (o.te mg W)
theorem evB_mono : ∀ {b : Option Opd}, MonoB b → ∀ (E E' : XP) (c : Cf) (Q Q' : Option Int → Cf → Prop), (∀ n f c, E n f c → E' n f c) → (∀ o c, Q o c → Q' o c) → evB b E c Q → evB b E' c Q'
  | none, _, E, E', c, Q, Q', hE, hQ, h => hQ _ _ h
  | some o, m, E, E', c, Q, Q', hE, hQ, h => evOps_mono m E E' c _ _ hE (fun ts c1 q => by
    obtain ⟨i, e, q⟩ := ob_iff.mp q
    exact ob_iff.mpr ⟨i, e, hQ _ _ q⟩) h
theorem unone1 {oa : Opd} {mg : Str → Option Value} {W : WX} {σ : L2.St} {H : Hp} {R : V → Hp → Prop} (q : tas mg W [oa] σ H fun vs H1 => ∃ x, vs = [x] ∧ R x H1) : oa.te mg W σ H R := by
  have q2 : oa.te mg W σ H fun x H1 => ∃ x', [x] = [x'] ∧ R x' H1 := q
  have e : (fun x H1 => ∃ x', [x] = [x'] ∧ R x' H1) = R := by
    funext x H1
    refine propext ⟨fun ⟨x', e, z⟩ => ?_, fun z => ⟨x, rfl, z⟩⟩
    cases e
    exact z
  rw [e] at q2
  exact q2
theorem evB_run {mg : Str → Option Value} {W : WX} {σ : L2.St} : ∀ {b : Option Opd} {c : Cf} {G H : Hp} {vsL : List V} {osL : List O} {E : XP} {K : Option Int → Cf → Prop} {R : Option Int → Hp → Prop}, MonoB b → Slots σ c → Sep G H (vals σ ++ vsL) (c ++ osL) → evB b E c K →
    (∀ n f c', E n f c' → KX mg W σ vsL osL G n f c') → (∀ i c' H' G', Same G G' → Slots σ c' → Sep G' H' (vals σ ++ vsL) (c' ++ osL) → K i c' → R i H') → tpo mg W b σ H R
  | none, c, G, H, vsL, osL, E, K, R, _, sl, sp, h, hE, hK => hK none c H G (Same.refl _) sl sp h
  | some o, c, G, H, vsL, osL, E, K, R, m, sl, sp, h, hE, hK => by
    refine unone1 (R := fun x H1 => ∃ i, x = .int i ∧ R (some i) H1) (ops_run m sl sp h hE fun ts c' tvs H' G' g sl' hl sp' k => ?_)
    obtain ⟨i, e, k⟩ := ob_iff.mp k
    obtain ⟨ds, e1, e2⟩ := Option.bind_eq_some_iff.mp e
    have sw := sws_ops sp' hl sl'.len e1
    unfold int1 at e2
    split at e2
    · cases e2
      obtain ⟨x, hx, hs⟩ := sws1 sw
      exact ⟨x, hx, i, sw_int hs, hK (some i) c' H' G' g sl' (dropN hl sp') k⟩
    · cases e2
/-- x[lo:hi] -/
def vSl (oa : Opd) (lo hi : Option Opd) : DE := fun E c Q => evOps [oa] E c fun ts c1 => evB lo E c1 fun l c2 => evB hi E c2 fun h c3 => ob (shOps [oa] c3 ts) fun ds => ob (ds.head?.bind fun d => cutR d l h) fun o => Q o c3
section
variable {Γ : Sg} {sc : Scope} {k : Nat} {a b c : Expr} {oa ob' oc : Opd} {lo hi : Option Opd} {pos p2 : Pos}
theorem vSl_mono (m : MonoO [oa]) (ml : MonoB lo) (mh : MonoB hi) : Mono (vSl oa lo hi) := fun E E' c Q Q' hE hQ h =>
  evOps_mono m E E' c _ _ hE (fun ts c1 q => evB_mono ml E E' c1 _ _ hE (fun l c2 q => evB_mono mh E E' c2 _ _ hE (fun u c3 q => by
    obtain ⟨ds, e1, q⟩ := ob_iff.mp q
    obtain ⟨o, e2, q⟩ := ob_iff.mp q
    exact ob_iff.mpr ⟨ds, e1, ob_iff.mpr ⟨o, e2, hQ _ _ q⟩⟩) q) q) h
def VB (Γ : Sg) (sc : Scope) (k : Nat) (e : Option Expr) (o : Option Opd) : Prop := MonoB o ∧ ∀ X W, OkX Γ sc k X → Takes X W → PO X e (tpo X.mg W o)
theorem VB.none : VB Γ sc k none none := ⟨trivial, fun _ _ _ _ => po_none⟩
theorem VB.some (h : VO Γ sc k a oa) : VB Γ sc k (some a) (some oa) := ⟨h.1, fun X W ok tk => po_some (h.2 X W ok tk)⟩
theorem VE.slice {el eh : Option Expr} (ha : VO Γ sc k a oa) (hl : VB Γ sc k el lo) (hh : VB Γ sc k eh hi) : VE Γ sc k (.Subscript a (.Slice el eh none p2) pos) (vSl oa lo hi) := by
  refine ⟨vSl_mono ha.1 hl.1 hh.1, fun X W ok tk => (pe_slice sl_all (ha.2 X W ok tk) (hl.2 X W ok tk) (hh.2 X W ok tk)).impV fun σ H Q h => ?_⟩
  obtain ⟨c, G, vsL, osL, sl, sp, h⟩ := h
  refine unone1 (R := fun x H1 => tpo X.mg W lo σ H1 fun l H2 => tpo X.mg W hi σ H2 fun u H3 => rSlAll X.K x l u H3 Q) (ops_run ha.1 sl sp h (fun _ _ _ q => q) fun ts c1 tvs H1 G1 g1 sl1 hl1 sp1 k => ?_)
  -- the first operand's value stands in the frame
  have fr1 : Sep G1 H1 (vals σ ++ (tvs ++ vsL)) (c1 ++ (ts ++ osL)) := SepA.rot (ws := tvs) (ps := ts) (vs2 := vals σ) (os2 := c1) sp1 hl1 sl1.len
  have one : ∃ x, mergeV [oa] (vals σ) tvs = [x] := by
    cases oa with
    | sl i => exact ⟨_, rfl⟩
    | ex t => cases tvs with
      | nil => exact ⟨_, rfl⟩
      | cons _ _ => exact ⟨_, rfl⟩
  obtain ⟨x, hx⟩ := one
  refine ⟨x, hx, ?_⟩
  refine evB_run hl.1 sl1 fr1 k (fun n f c' q => KX.mores q g1 hl1) fun l c2 H2 G2 g2 sl2 fr2 k => ?_
  refine evB_run hh.1 sl2 fr2 k (fun n f c' q => KX.mores q (g1.trans g2) hl1) fun u c3 H3 G3 g3 sl3 fr3 k => ?_
  obtain ⟨ds, e1, k2⟩ := ob_iff.mp k
  obtain ⟨o, e2, k3⟩ := ob_iff.mp k2
  obtain ⟨d, e3, e4⟩ := Option.bind_eq_some_iff.mp e2
  have sp3 : Sep G3 H3 (tvs ++ (vals σ ++ vsL)) (ts ++ (c3 ++ osL)) := SepA.rot (ws := vals σ) (ps := c3) (vs2 := tvs) (os2 := ts) fr3 sl3.len hl1
  have sw := sws_ops sp3 hl1 sl3.len e1
  rw [hx] at sw
  cases sw with
  | cons a r =>
    cases e3
    exact slice_at sp3.same a e4 fun v H' G' nw => k3 v H' G' (g1.trans (g2.trans (g3.trans nw.1))) sl3 (nw.2 _ _ _ (dropN hl1 sp3))
end
end VS
namespace VS
open PySem PySem.Spec PyProof.Rows L2
/-! ## sorted of a list of tuples -/
theorem each3 {X : Cx} {pins : List (Addr × Obj)} {σ : L2.St} {H : Hp} {s : Shared} (I : Inv X pins σ H s) : ∀ {xs : List V} {its : List Value} {ps : List PyData}, Vals xs its → DpAll X.K H xs ps →
    PySem.W.EachIs (fun (v : Value) (b : V × PyData) => RelV b.1 v) its (xs.zip ps) ∧ PySem.W.EachIs (fun (v : Value) (b : V × PyData) => ∃ as, Reads s.heap v b.2 as) its (xs.zip ps) ∧ (xs.zip ps).map (·.2) = ps ∧ xs.length = ps.length
  | [], _, _, .nil, .nil => ⟨.nil, .nil, rfl, rfl⟩
  | x :: xs, _, _, .cons r t, .cons d e => by
    obtain ⟨h1, h2, h3, h4⟩ := each3 I t e
    refine ⟨.cons r h1, .cons (Dp.reads I _ _ _ d r) h2, ?_, by simp [h4]⟩
    rw [List.zip_cons_cons, List.map_cons, h3]
theorem vals_each {out : List Value} {bs : List (V × PyData)} (h : PySem.W.EachIs (fun (v : Value) (b : V × PyData) => RelV b.1 v) out bs) : Vals (bs.map (·.1)) out := by
  induction h with
  | nil => exact .nil
  | cons a _ ih => exact .cons a ih
def srtB (bs : List (V × PyData)) : List (V × PyData) := bs.mergeSort (PySem.W.dataLe false (·.2))
theorem cr_sortTu {X : Cx} (hu : X.A.units + 65 < cLine) : CallR X (.builtin "sorted") (fun vs H Q => ∃ (a : Addr) (xs : List V) (ps : List PyData), vs = [V.ref a] ∧ SqL X.K H a xs ∧ DpAll X.K H xs ps ∧ PySem.W.AllAlike ps ∧ PySem.W.Sortable ps ∧ (∀ p ∈ ps, p.depth ≤ 50) ∧
    ∀ (p : Addr), H p = none → Q (.ref p) (upd H p (.lst ((srtB (xs.zip ps)).map (·.1))))) := by
  intro pins s σ H vs us Q I r h
  obtain ⟨a, xs, ps, rfl, hs, hd, h1, h2, h3, q⟩ := h
  obtain ⟨its, rv, hl, hz⟩ := I.list hs
  obtain ⟨e1, e2, e3, e4⟩ := each3 I rv hd
  have hbl : (xs.zip ps).length = xs.length := by rw [List.length_zip]; omega
  rw [Vals.ref1 r]
  refine PySem.W.sorted_data (enc := fun b : V × PyData => b.2) hl.isList e1 e2 (by rw [e3]; exact h1) (by rw [e3]; exact h2) (by rw [hbl]; exact hz) (fun b hb => ?_) fun out ho hout => ?_
  · have : b.2 ∈ ps := by rw [← e3]; exact List.mem_map.mpr ⟨b, hb, rfl⟩
    have := h3 _ this
    omega
  · obtain ⟨ep, he'⟩ := PyProof.Rows.sortedAll_at s.heap its out.toArray
    have hv := vals_each hout
    have hlen : ((srtB (xs.zip ps)).map (·.1)).length ≤ sizeLine := by
      rw [List.length_map, srtB, List.length_mergeSort, hbl]
      exact hz
    exact ⟨.ref _, upd H (s.heap.objs.size + 1) (.lst ((srtB (xs.zip ps)).map (·.1))), I.laid (t' := s.toks) (fun _ _ => PyProof.Rows.sortedAll_old) (Nat.le_succ _) ⟨hlen, out, ep, hv, he'⟩, rfl, q _ (I.hok.fresh (Nat.le_succ _))⟩
/-- a tuple with an item -/
def isTu : PyData → Bool
  | .tuple (_ :: _) => true
  | _ => false
def tuOk (ps : List PyData) : Bool := (ps.all fun d => ps.all fun d' => PySem.W.alike d d') && ps.all isTu && ps.all fun p => decide (p.depth ≤ 50)
theorem tuOk_at {ps : List PyData} (h : tuOk ps = true) : PySem.W.AllAlike ps ∧ PySem.W.Sortable ps ∧ ∀ p ∈ ps, p.depth ≤ 50 := by
  unfold tuOk at h
  simp only [Bool.and_eq_true, List.all_eq_true, decide_eq_true_eq] at h
  refine ⟨h.1.1, .inl fun d hd => ?_, h.2⟩
  have := h.1.2 d hd
  unfold isTu at this
  split at this
  · exact ⟨_, _, rfl⟩
  · cases this
/-- the items in the order of what they are -/
def srtT (xs : List D) (ps : List PyData) : List D := ((xs.zip ps).mergeSort (PySem.W.dataLe false (·.2))).map (·.1)
theorem zip3 {α β γ : Type} : ∀ {vs : List α} {ds : List β} {ps : List γ}, vs.length = ds.length → ds.length = ps.length → ((vs.zip ds).zip ps).map (fun t => (t.1.1, t.2)) = vs.zip ps ∧ ((vs.zip ds).zip ps).map (fun t => (t.1.2, t.2)) = ds.zip ps
  | [], [], [], _, _ => ⟨rfl, rfl⟩
  | [], _ :: _, _, h, _ => by simp at h
  | _ :: _, [], _, h, _ => by simp at h
  | _, [], _ :: _, _, h => by simp at h
  | _, _ :: _, [], _, h => by simp at h
  | v :: vs, d :: ds, p :: ps, h, h' => by
    obtain ⟨h1, h2⟩ := zip3 (vs := vs) (ds := ds) (ps := ps) (by simpa using h) (by simpa using h')
    simp only [List.zip_cons_cons, List.map_cons, h1, h2, and_self]
theorem rps_zip {G : Hp} : ∀ {vs : List V} {ds : List D}, Rps G vs ds → vs.length = ds.length ∧ ∀ t ∈ vs.zip ds, Rp G t.1 t.2
  | _, _, .nil => ⟨rfl, fun t ht => by cases ht⟩
  | _, _, .cons a r => by
    obtain ⟨h1, h2⟩ := rps_zip r
    refine ⟨by simp [h1], fun t ht => ?_⟩
    rcases List.mem_cons.mp ht with rfl | ht
    · exact a
    · exact h2 t ht
theorem rps_map {G : Hp} {α : Type} {f : α → V} {g : α → D} : ∀ {l : List α}, (∀ t ∈ l, Rp G (f t) (g t)) → Rps G (l.map f) (l.map g)
  | [], _ => .nil
  | a :: l, h => .cons (h a (by simp)) (rps_map fun t ht => h t (by simp [ht]))
theorem rps_srt {G : Hp} {vs : List V} {ds : List D} {ps : List PyData} (h : Rps G vs ds) (hl : ds.length = ps.length) : Rps G ((srtB (vs.zip ps)).map (·.1)) (srtT ds ps) := by
  obtain ⟨h1, h2⟩ := rps_zip h
  obtain ⟨z1, z2⟩ := zip3 h1 hl
  obtain ⟨S, hS⟩ : ∃ S, S = ((vs.zip ds).zip ps).mergeSort (PySem.W.dataLe false fun t : (V × D) × PyData => t.2) := ⟨_, rfl⟩
  have m1 : S.map (fun t => (t.1.1, t.2)) = srtB (vs.zip ps) := by
    rw [hS, srtB, ← z1]
    exact List.map_mergeSort fun a _ b _ => rfl
  have m2 : S.map (fun t => (t.1.2, t.2)) = (ds.zip ps).mergeSort (PySem.W.dataLe false (·.2)) := by
    rw [hS, ← z2]
    exact List.map_mergeSort fun a _ b _ => rfl
  unfold srtT
  rw [← m1, ← m2, List.map_map, List.map_map]
  refine rps_map fun t ht => h2 t.1 ?_
  rw [hS] at ht
  have := (List.mergeSort_perm _ _).mem_iff.mp ht
  exact (List.of_mem_zip this).1
theorem toPDs_len : ∀ {ds : List D} {ps : List PyData}, toPDs ds = some ps → ds.length = ps.length
  | [], _, h => by cases h; rfl
  | d :: ds, ps, h => by
    obtain ⟨p, h1, h⟩ := Option.bind_eq_some_iff.mp h
    obtain ⟨qs, h2, rfl⟩ := Option.map_eq_some_iff.mp h
    simp [toPDs_len h2]
def bfSortT (xs : List D) : Option O := (toPDs xs).bind fun ps => if tuOk ps = true then some (.own .lst ((srtT xs ps).map O.fz)) else none
end VS
namespace VS
open PySem PySem.Spec PyProof.Rows L2
/-! ## in order -/
section
variable {α : Type} (le : α → α → Bool)
def insL (x : α) : List α → List α
  | [] => [x]
  | y :: ys => if le x y = true then x :: y :: ys else y :: insL x ys
def srtL : List α → List α
  | [] => []
  | x :: xs => insL le x (srtL xs)
theorem insL_perm (x : α) : ∀ ys : List α, (insL le x ys).Perm (x :: ys)
  | [] => .refl _
  | y :: ys => by
    unfold insL
    split
    · exact .refl _
    · exact ((insL_perm x ys).cons y).trans (.swap x y ys)
theorem srtL_perm : ∀ xs : List α, (srtL le xs).Perm xs
  | [] => .refl _
  | x :: xs => (insL_perm le x _).trans ((srtL_perm xs).cons x)
theorem insL_pw (tot : ∀ a b, le a b = true ∨ le b a = true) (tr : ∀ a b c, le a b = true → le b c = true → le a c = true) (x : α) : ∀ {ys : List α}, ys.Pairwise (fun a b => le a b = true) → (insL le x ys).Pairwise (fun a b => le a b = true)
  | [], _ => by simp [insL]
  | y :: ys, h => by
    unfold insL
    have h1 := List.pairwise_cons.mp h
    split
    · rename_i e
      refine List.pairwise_cons.mpr ⟨fun z hz => ?_, h⟩
      rcases List.mem_cons.mp hz with rfl | hz
      · exact e
      · exact tr _ _ _ e (h1.1 z hz)
    · rename_i e
      refine List.pairwise_cons.mpr ⟨fun z hz => ?_, insL_pw tot tr x h1.2⟩
      rcases List.mem_cons.mp ((insL_perm le x ys).mem_iff.mp hz) with rfl | hz
      · exact (tot _ _).resolve_left e
      · exact h1.1 z hz
theorem srtL_pw (tot : ∀ a b, le a b = true ∨ le b a = true) (tr : ∀ a b c, le a b = true → le b c = true → le a c = true) : ∀ xs : List α, (srtL le xs).Pairwise (fun a b => le a b = true)
  | [] => .nil
  | x :: xs => insL_pw le tot tr x (srtL_pw tot tr xs)
theorem srtL_eq (tot : ∀ a b, le a b = true ∨ le b a = true) (tr : ∀ a b c, le a b = true → le b c = true → le a c = true) (anti : ∀ a b, le a b = true → le b a = true → a = b) {xs ys : List α} (p : ys.Perm xs) (h : ys.Pairwise (fun a b => le a b = true)) : ys = srtL le xs :=
  List.Perm.eq_of_pairwise (fun a b _ _ h1 h2 => anti a b h1 h2) h (srtL_pw le tot tr xs) (p.trans (srtL_perm le xs).symm)
end
def leI (a b : Int) : Bool := decide (a ≤ b)
def leS (a b : Str) : Bool := !decide (b.cps.toList < a.cps.toList)
theorem srtI_eq {xs ys : List Int} (p : ys.Perm xs) (h : ys.Pairwise (· ≤ ·)) : ys = srtL leI xs :=
  srtL_eq leI (fun a b => by unfold leI; simp only [decide_eq_true_eq]; omega) (fun a b c => by unfold leI; simp only [decide_eq_true_eq]; omega) (fun a b => by unfold leI; simp only [decide_eq_true_eq]; omega) p (h.imp fun {a b} q => decide_eq_true q)
theorem leS_iff {a b : Str} : leS a b = true ↔ a.cps.toList ≤ b.cps.toList := by
  unfold leS
  rw [Bool.not_eq_true', decide_eq_false_iff_not, List.not_lt]
theorem leS_tot (a b : Str) : leS a b = true ∨ leS b a = true := by rw [leS_iff, leS_iff]; exact List.le_total _ _
theorem leS_tr (a b c : Str) (h : leS a b = true) (h' : leS b c = true) : leS a c = true := by rw [leS_iff] at *; exact List.le_trans h h'
theorem str_ext {a b : Str} (h : a.cps.toList = b.cps.toList) : a = b := by
  cases a; cases b
  congr 1
  exact Array.toList_inj.mp h
theorem leS_anti (a b : Str) (h : leS a b = true) (h' : leS b a = true) : a = b := by
  rw [leS_iff] at *
  exact str_ext (List.le_antisymm h h')
theorem pw_of_sortedS : ∀ {xs : List Str}, sortedS xs = true → xs.Pairwise (fun a b => leS a b = true)
  | [], _ => .nil
  | x :: xs, h => by
    have key : ∀ {p : Str} {l : List Str}, risingS p l = true → (∀ z ∈ l, leS p z = true) ∧ l.Pairwise (fun a b => leS a b = true) := by
      intro p l
      induction l generalizing p with
      | nil => intro _; exact ⟨fun z hz => (by cases hz), .nil⟩
      | cons y ys ih =>
        intro h
        unfold risingS at h
        rw [Bool.and_eq_true] at h
        obtain ⟨h1, h2⟩ := ih h.2
        have e : leS p y = true := by
          unfold leS
          rw [← ltCps_eq]
          exact h.1
        refine ⟨fun z hz => ?_, List.pairwise_cons.mpr ⟨h1, h2⟩⟩
        rcases List.mem_cons.mp hz with rfl | hz
        · exact e
        · exact leS_tr _ _ _ e (h1 z hz)
    obtain ⟨h1, h2⟩ := key (p := x) (l := xs) h
    exact List.pairwise_cons.mpr ⟨h1, h2⟩
theorem srtS_eq {xs ys : List Str} (p : ys.Perm xs) (h : sortedS ys = true) : ys = srtL leS xs := srtL_eq leS leS_tot leS_tr leS_anti p (pw_of_sortedS h)
/-! ## built-in functions -/
def CallB (f : Value) (bf : BfO) : Prop := ∀ X, X.calm = true → X.A.units + 65 < cLine → X.A.guards = some [] → ∃ r, CallR X f r ∧ PureO r bf
def orO (a b : BfO) : BfO := fun os => match a os with
  | some o => some o
  | none => b os
theorem CallB.or {f : Value} {a b : BfO} (h : CallB f a) (h' : CallB f b) : CallB f (orO a b) := fun X c u g => by
  obtain ⟨r, h1, h2⟩ := h X c u g
  obtain ⟨r', h1', h2'⟩ := h' X c u g
  refine ⟨_, h1.or h1', fun G H vs os F o Q gs s e q => ?_⟩
  unfold orO at e
  split at e
  · rename_i o' e'
    cases e
    exact .inl (h2 G H vs os F _ Q gs s e' q)
  · exact .inr (h2' G H vs os F o Q gs s e q)
theorem CallB.d {f : Value} {b : Bf} (h : ∀ X, X.calm = true → X.A.units + 65 < cLine → X.A.guards = some [] → ∃ r, CallR X f r ∧ PureR r b) : CallB f (bfD b) := fun X c u g => by
  obtain ⟨r, h1, h2⟩ := h X c u g
  exact ⟨r, h1, h2.up⟩
def intsD : List D → Option (List Int)
  | [] => some []
  | .int i :: r => (intsD r).map (i :: ·)
  | _ => none
def strsD : List D → Option (List Str)
  | [] => some []
  | .str i :: r => (strsD r).map (i :: ·)
  | _ => none
def blsD : List D → Option (List Bool)
  | [] => some []
  | .bl i :: r => (blsD r).map (i :: ·)
  | _ => none
theorem intsD_v {G : Hp} : ∀ {ds : List D} {vs : List V} {ns : List Int}, intsD ds = some ns → Rps G vs ds → vs = ns.map V.int
  | [], _, _, h, .nil => by cases h; rfl
  | d :: ds, _, _, h, .cons a r => by
    cases d <;> first | (cases h; done) | skip
    obtain ⟨ns, h1, rfl⟩ := Option.map_eq_some_iff.mp h
    cases a
    rw [intsD_v h1 r]
    rfl
theorem strsD_v {G : Hp} : ∀ {ds : List D} {vs : List V} {ns : List Str}, strsD ds = some ns → Rps G vs ds → vs = ns.map V.str
  | [], _, _, h, .nil => by cases h; rfl
  | d :: ds, _, _, h, .cons a r => by
    cases d <;> first | (cases h; done) | skip
    obtain ⟨ns, h1, rfl⟩ := Option.map_eq_some_iff.mp h
    cases a
    rw [strsD_v h1 r]
    rfl
theorem blsD_v {G : Hp} : ∀ {ds : List D} {vs : List V} {ns : List Bool}, blsD ds = some ns → Rps G vs ds → vs = ns.map V.bl
  | [], _, _, h, .nil => by cases h; rfl
  | d :: ds, _, _, h, .cons a r => by
    cases d <;> first | (cases h; done) | skip
    obtain ⟨ns, h1, rfl⟩ := Option.map_eq_some_iff.mp h
    cases a
    rw [blsD_v h1 r]
    rfl
theorem rps_ints {G : Hp} : ∀ ns : List Int, Rps G (ns.map V.int) (ns.map D.int)
  | [] => .nil
  | n :: ns => .cons .int (rps_ints ns)
theorem rps_strs {G : Hp} : ∀ ns : List Str, Rps G (ns.map V.str) (ns.map D.str)
  | [] => .nil
  | n :: ns => .cons .str (rps_strs ns)
theorem intsD_map : ∀ ns : List Int, intsD (ns.map D.int) = some ns
  | [] => rfl
  | n :: ns => by rw [List.map_cons, intsD, intsD_map ns]; rfl
theorem strsD_map : ∀ ns : List Str, strsD (ns.map D.str) = some ns
  | [] => rfl
  | n :: ns => by rw [List.map_cons, strsD, strsD_map ns]; rfl
theorem blsD_map : ∀ ns : List Bool, blsD (ns.map D.bl) = some ns
  | [] => rfl
  | n :: ns => by rw [List.map_cons, blsD, blsD_map ns]; rfl
/-- a list that is read: a list, or the script -/
def lstOf : D → Option (List D)
  | .nd .lst xs => some xs
  | .nd (.scr _) xs => some xs
  | _ => none
theorem lstOf_v {K : PySem.W.Frag} {G H : Hp} {v : V} {d : D} {xs : List D} (s : Sw G H v d) (h : lstOf d = some xs) : ∃ a vs, v = .ref a ∧ SqL K H a vs ∧ Rps G vs xs := by
  unfold lstOf at h
  split at h
  · cases h
    obtain ⟨a, vs, rfl, ha, r⟩ := sw_lst s
    exact ⟨a, vs, rfl, .inl (.inl ha), r⟩
  · cases h
    obtain ⟨a, o, vs, rfl, ha, sh, r⟩ := s
    obtain rfl := sh.ex rfl
    exact ⟨a, vs, rfl, .inl (.inr ⟨_, ha⟩), r⟩
  · cases h
/-! ### len -/
theorem cr_lenK {X : Cx} : CallR X (.builtin "len") (fun xs H Q => ∃ (p : Addr) (kvs : List (Key × V)), xs = [.ref p] ∧ Rd H p (.dK kvs) ∧ Q (.int kvs.length) H) := by
  intro pins s σ H xs us Q I r h
  obtain ⟨p, kvs, rfl, hp, q⟩ := h
  rw [Vals.ref1 r]
  exact d_len I hp fun t s' I' => ⟨.int _, H, I', ⟨_, rfl⟩, q⟩
theorem cr_lenT {X : Cx} : CallR X (.builtin "len") (fun xs H Q => ∃ (p : Addr) (kvs : List (List Key × V)), xs = [.ref p] ∧ Rd H p (.dT kvs) ∧ Q (.int kvs.length) H) := by
  intro pins s σ H xs us Q I r h
  obtain ⟨p, kvs, rfl, hp, q⟩ := h
  rw [Vals.ref1 r]
  obtain ⟨z, hd, ys, rel, dd⟩ := dt_rd I.hok hp
  have hl : kvs.length = ys.length := Paired.length rel
  refine call_len_dictH hd dd (by rw [← hl]; rw [sizeLine_eq] at z; omega) ?_
  rw [← hl]
  exact ⟨.int ((kvs.length : Nat) : Int), H, I.tok _, ⟨_, rfl⟩, q⟩
theorem rd_of_dK {H : Hp} {a : Addr} {ks : List Key} {vs : List V} {o : HO} (ha : H a = some o) (sh : ShapeF (.dK ks) vs o) : ks.length = vs.length ∧ Rd H a (.dK (ks.zip vs)) := by
  obtain ⟨h, hd⟩ := sh.dK
  refine ⟨h, ?_⟩
  rcases hd with rfl | ⟨ob, rfl⟩
  · exact .inl ha
  · exact .inr ⟨_, ha⟩
def bfLen : Bf := fun ds => match ds with
  | [.str z] => if z.length ≤ sizeLine then some (.fz (.int z.length)) else none
  | [.nd t xs] => match t with
    | .lst => some (.fz (.int xs.length))
    | .scr _ => some (.fz (.int xs.length))
    | .tup => some (.fz (.int xs.length))
    | .dK _ => some (.fz (.int xs.length))
    | .dT _ => some (.fz (.int xs.length))
    | _ => none
  | _ => none
theorem len_b : CallB (.builtin "len") (bfD bfLen) := .d fun X c u g => ⟨_, (call_len (X := X)).or (cr_lenK.or cr_lenT), fun G H vs ds o Q gs s e q => by
  unfold bfLen at e
  split at e
  · obtain ⟨x, rfl, hx⟩ := sws1 s
    split at e
    · cases e
      obtain rfl := sw_str hx
      exact .inl ⟨_, _, rfl, ⟨by assumption, rfl⟩, q _ _ _ (.old .int)⟩
    · cases e
  · rename_i t xs
    obtain ⟨x, rfl, a, ob, vs, rfl, ha, sh, r⟩ := sws1 s
    have hl := r.length
    split at e
    · cases e; obtain rfl := sh.ex rfl; exact .inl ⟨_, _, rfl, .inl ⟨vs, .inl (.inl ha), rfl⟩, by rw [hl]; exact q _ _ _ (.old .int)⟩
    · cases e; obtain rfl := sh.ex rfl; exact .inl ⟨_, _, rfl, .inl ⟨vs, .inl (.inr ⟨_, ha⟩), rfl⟩, by rw [hl]; exact q _ _ _ (.old .int)⟩
    · cases e; obtain rfl := sh.ex rfl; exact .inl ⟨_, _, rfl, .inr ⟨vs, .inl (.inl ha), rfl⟩, by rw [hl]; exact q _ _ _ (.old .int)⟩
    · rename_i ks
      cases e; obtain ⟨hk, hd⟩ := rd_of_dK ha sh
      refine .inr (.inl ⟨_, _, rfl, hd, ?_⟩)
      rw [List.length_zip, hk, Nat.min_self, hl]
      exact q _ _ _ (.old .int)
    · rename_i ks
      cases e; obtain ⟨hk, hd⟩ := rd_of_dT ha sh
      refine .inr (.inr ⟨_, _, rfl, hd, ?_⟩)
      rw [List.length_zip, hk, Nat.min_self, hl]
      exact q _ _ _ (.old .int)
    · cases e
  · cases e⟩
/-! ### numbers -/
def bfAbs : Bf := fun ds => match ds with
  | [.int i] => some (.fz (.int (if i < 0 then -i else i)))
  | _ => none
theorem abs_b : CallB (.builtin "abs") (bfD bfAbs) := .d fun X c u g => ⟨_, call_abs (X := X), fun G H vs ds o Q gs s e q => by
  unfold bfAbs at e
  split at e
  · cases e
    obtain ⟨x, rfl, hx⟩ := sws1 s
    obtain rfl := sw_int hx
    exact ⟨_, rfl, q _ _ _ (.old .int)⟩
  · cases e⟩
def maxL : List Int → Option Int
  | [] => none
  | n :: r => some (r.foldl (fun a b => if b > a then b else a) n)
def minL : List Int → Option Int
  | [] => none
  | n :: r => some (r.foldl (fun a b => if b < a then b else a) n)
theorem foldl_max : ∀ (r : List Int) (n : Int), (∀ y ∈ n :: r, y ≤ r.foldl (fun a b => if b > a then b else a) n) ∧ r.foldl (fun a b => if b > a then b else a) n ∈ n :: r
  | [], n => by simp
  | m :: r, n => by
    obtain ⟨h1, h2⟩ := foldl_max r (if m > n then m else n)
    refine ⟨fun y hy => ?_, ?_⟩
    · have h0 := h1 _ (List.mem_cons_self ..)
      simp only [List.mem_cons] at hy
      rw [List.foldl_cons]
      rcases hy with rfl | rfl | hy
      · split at h0 <;> split <;> omega
      · split at h0 <;> split <;> omega
      · exact h1 y (List.mem_cons_of_mem _ hy)
    · rw [List.foldl_cons]
      rcases List.mem_cons.mp h2 with e | e
      · rw [e]; split <;> simp
      · exact List.mem_cons_of_mem _ (List.mem_cons_of_mem _ e)
theorem foldl_min : ∀ (r : List Int) (n : Int), (∀ y ∈ n :: r, r.foldl (fun a b => if b < a then b else a) n ≤ y) ∧ r.foldl (fun a b => if b < a then b else a) n ∈ n :: r
  | [], n => by simp
  | m :: r, n => by
    obtain ⟨h1, h2⟩ := foldl_min r (if m < n then m else n)
    refine ⟨fun y hy => ?_, ?_⟩
    · have h0 := h1 _ (List.mem_cons_self ..)
      simp only [List.mem_cons] at hy
      rw [List.foldl_cons]
      rcases hy with rfl | rfl | hy
      · split at h0 <;> split <;> omega
      · split at h0 <;> split <;> omega
      · exact h1 y (List.mem_cons_of_mem _ hy)
    · rw [List.foldl_cons]
      rcases List.mem_cons.mp h2 with e | e
      · rw [e]; split <;> simp
      · exact List.mem_cons_of_mem _ (List.mem_cons_of_mem _ e)
theorem maxL_at {ns : List Int} {m : Int} (h : maxL ns = some m) : m ∈ ns ∧ ∀ y ∈ ns, y ≤ m := by
  cases ns with
  | nil => cases h
  | cons n r => cases h; exact ⟨(foldl_max r n).2, (foldl_max r n).1⟩
theorem minL_at {ns : List Int} {m : Int} (h : minL ns = some m) : m ∈ ns ∧ ∀ y ∈ ns, m ≤ y := by
  cases ns with
  | nil => cases h
  | cons n r => cases h; exact ⟨(foldl_min r n).2, (foldl_min r n).1⟩
def bfMax : Bf := fun ds => match ds with
  | [.int i, .int j] => some (.fz (.int (if j > i then j else i)))
  | [d] => (lstOf d).bind fun xs => (intsD xs).bind fun ns => (maxL ns).map fun m => .fz (.int m)
  | _ => none
def bfMin : Bf := fun ds => match ds with
  | [.int i, .int j] => some (.fz (.int (if j < i then j else i)))
  | [d] => (lstOf d).bind fun xs => (intsD xs).bind fun ns => (minL ns).map fun m => .fz (.int m)
  | _ => none
theorem max_b : CallB (.builtin "max") (bfD bfMax) := .d fun X c u g => ⟨_, (call_max2 (X := X) c).or (cr_max c), fun G H vs ds o Q gs s e q => by
  unfold bfMax at e
  split at e
  · cases e
    obtain ⟨x, y, rfl, hx, hy⟩ := sws2 s
    obtain rfl := sw_int hx
    obtain rfl := sw_int hy
    exact .inl ⟨_, _, rfl, q _ _ _ (.old .int)⟩
  · obtain ⟨xs, h1, e⟩ := Option.bind_eq_some_iff.mp e
    obtain ⟨ns, h2, e⟩ := Option.bind_eq_some_iff.mp e
    obtain ⟨m, h3, rfl⟩ := Option.map_eq_some_iff.mp e
    obtain ⟨x, rfl, hx⟩ := sws1 s
    obtain ⟨a, vs, rfl, sq, r⟩ := lstOf_v (K := X.K) hx h1
    rw [intsD_v h2 r] at sq
    obtain ⟨m1, m2⟩ := maxL_at h3
    refine .inr ⟨a, ns, rfl, sq, List.length_pos_of_mem m1, fun m' h5 h6 => ?_⟩
    obtain rfl : m' = m := Int.le_antisymm (m2 _ h5) (h6 _ m1)
    exact q _ _ _ (.old .int)
  · cases e⟩
theorem min_b : CallB (.builtin "min") (bfD bfMin) := .d fun X c u g => ⟨_, (call_min2 (X := X) c).or (cr_min c), fun G H vs ds o Q gs s e q => by
  unfold bfMin at e
  split at e
  · cases e
    obtain ⟨x, y, rfl, hx, hy⟩ := sws2 s
    obtain rfl := sw_int hx
    obtain rfl := sw_int hy
    exact .inl ⟨_, _, rfl, q _ _ _ (.old .int)⟩
  · obtain ⟨xs, h1, e⟩ := Option.bind_eq_some_iff.mp e
    obtain ⟨ns, h2, e⟩ := Option.bind_eq_some_iff.mp e
    obtain ⟨m, h3, rfl⟩ := Option.map_eq_some_iff.mp e
    obtain ⟨x, rfl, hx⟩ := sws1 s
    obtain ⟨a, vs, rfl, sq, r⟩ := lstOf_v (K := X.K) hx h1
    rw [intsD_v h2 r] at sq
    obtain ⟨m1, m2⟩ := minL_at h3
    refine .inr ⟨a, ns, rfl, sq, List.length_pos_of_mem m1, fun m' h5 h6 => ?_⟩
    obtain rfl : m' = m := Int.le_antisymm (h6 _ m1) (m2 _ h5)
    exact q _ _ _ (.old .int)
  · cases e⟩
def bfSum : Bf := fun ds => match ds with
  | [d] => (lstOf d).bind fun xs => (intsD xs).map fun ns => .fz (.int ns.sum)
  | _ => none
theorem sum_b : CallB (.builtin "sum") (bfD bfSum) := .d fun X c u g => ⟨_, cr_sum (X := X) c, fun G H vs ds o Q gs s e q => by
  unfold bfSum at e
  split at e
  · obtain ⟨xs, h1, e⟩ := Option.bind_eq_some_iff.mp e
    obtain ⟨ns, h2, rfl⟩ := Option.map_eq_some_iff.mp e
    obtain ⟨x, rfl, hx⟩ := sws1 s
    obtain ⟨a, vs, rfl, sq, r⟩ := lstOf_v (K := X.K) hx h1
    rw [intsD_v h2 r] at sq
    exact ⟨a, ns, rfl, sq, q _ _ _ (.old .int)⟩
  · cases e⟩
def bfAll (f : List Bool → Bool) : Bf := fun ds => match ds with
  | [d] => (lstOf d).bind fun xs => (blsD xs).map fun ns => .fz (.bl (f ns))
  | _ => none
theorem all_b : CallB (.builtin "all") (bfD (bfAll (·.all id))) := .d fun X c u g => ⟨_, cr_all (X := X) c, fun G H vs ds o Q gs s e q => by
  unfold bfAll at e
  split at e
  · obtain ⟨xs, h1, e⟩ := Option.bind_eq_some_iff.mp e
    obtain ⟨ns, h2, rfl⟩ := Option.map_eq_some_iff.mp e
    obtain ⟨x, rfl, hx⟩ := sws1 s
    obtain ⟨a, vs, rfl, sq, r⟩ := lstOf_v (K := X.K) hx h1
    rw [blsD_v h2 r] at sq
    exact ⟨a, ns, rfl, sq, q _ _ _ (.old .bl)⟩
  · cases e⟩
theorem any_b : CallB (.builtin "any") (bfD (bfAll (·.any id))) := .d fun X c u g => ⟨_, cr_any (X := X) c, fun G H vs ds o Q gs s e q => by
  unfold bfAll at e
  split at e
  · obtain ⟨xs, h1, e⟩ := Option.bind_eq_some_iff.mp e
    obtain ⟨ns, h2, rfl⟩ := Option.map_eq_some_iff.mp e
    obtain ⟨x, rfl, hx⟩ := sws1 s
    obtain ⟨a, vs, rfl, sq, r⟩ := lstOf_v (K := X.K) hx h1
    rw [blsD_v h2 r] at sq
    exact ⟨a, ns, rfl, sq, q _ _ _ (.old .bl)⟩
  · cases e⟩
def bfInt : Bf := fun ds => match ds with
  | [.int i] => some (.fz (.int i))
  | [.bl b] => some (.fz (.int (if b then 1 else 0)))
  | [.str z] => (intText? z).bind fun n => if z.length ≤ 640 then some (.fz (.int n)) else none
  | _ => none
theorem int_b : CallB (.type "int") (bfD bfInt) := .d fun X c u g => ⟨_, (call_int1 (X := X)).or call_int_str, fun G H vs ds o Q gs s e q => by
  unfold bfInt at e
  split at e
  · cases e
    obtain ⟨x, rfl, hx⟩ := sws1 s
    obtain rfl := sw_int hx
    exact .inl (.inl ⟨_, rfl, q _ _ _ (.old .int)⟩)
  · cases e
    obtain ⟨x, rfl, hx⟩ := sws1 s
    obtain rfl := sw_bl hx
    exact .inl (.inr ⟨_, rfl, q _ _ _ (.old .int)⟩)
  · obtain ⟨n, h1, e⟩ := Option.bind_eq_some_iff.mp e
    split at e
    · cases e
      obtain ⟨x, rfl, hx⟩ := sws1 s
      obtain rfl := sw_str hx
      exact .inr ⟨_, n, rfl, h1, by assumption, q _ _ _ (.old .int)⟩
    · cases e
  · cases e⟩
def bfStr : Bf := fun ds => match ds with
  | [.int i] => if i.natAbs.log2 < 1920 then some (.fz (.str (toString i))) else none
  | [.str z] => some (.fz (.str z))
  | _ => none
theorem str_b : CallB (.type "str") (bfD bfStr) := .d fun X c u g => ⟨_, (call_str_int (X := X)).or SkE.call_str_str, fun G H vs ds o Q gs s e q => by
  unfold bfStr at e
  split at e
  · split at e
    · cases e
      obtain ⟨x, rfl, hx⟩ := sws1 s
      obtain rfl := sw_int hx
      exact .inl ⟨_, rfl, by assumption, q _ _ _ (.old .str)⟩
    · cases e
  · cases e
    obtain ⟨x, rfl, hx⟩ := sws1 s
    obtain rfl := sw_str hx
    exact .inr ⟨_, rfl, q _ _ _ (.old .str)⟩
  · cases e⟩
/-! ### lists, tuples made -/
def keyD : Key → D
  | .inl i => .int i
  | .inr x => .str x
def bfList : Bf := fun ds => match ds with
  | [.nd t xs] => match t with
    | .lst => some (.own .lst (xs.map O.fz))
    | .scr _ => some (.own .lst (xs.map O.fz))
    | .tup => some (.own .lst (xs.map O.fz))
    | .dK ks => some (.own .lst ((ks.map keyD).map O.fz))
    | .dT ks => some (.own .lst ((ks.map fun k => .nd .tup (k.map keyD)).map O.fz))
    | _ => none
  | _ => none
theorem rps_keys {G : Hp} : ∀ ks : List Key, Rps G (ks.map kV) (ks.map keyD)
  | [] => .nil
  | k :: ks => .cons (by cases k <;> first | exact .int | exact .str) (rps_keys ks)
/-- a tuple of keys that stands -/
theorem rp_tkey {G H : Hp} {b : Addr} {k : List Key} {S : List Addr} (g : Same G H) (h : H b = some (.tup (k.map kV))) : Rp (ext G H S) (.ref b) (.nd .tup (k.map keyD)) := .nd (ext_at g h (.inr trivial)) (.inl rfl) (rps_keys k)
theorem rps_tkeys {G H : Hp} {S : List Addr} (g : Same G H) : ∀ {ks : List (List Key)} {vs : List V} {bs : List Addr}, ks.length = vs.length → IsKeys H (ks.zip vs) bs → Rps (ext G H S) (bs.map V.ref) (ks.map fun k => .nd .tup (k.map keyD))
  | [], [], _, _, h => by cases h; exact .nil
  | [], _ :: _, _, h, _ => by cases h
  | _ :: _, [], _, h, _ => by cases h
  | k :: ks, v :: vs, _, hl, h => by
    cases h with
    | cons a r => exact .cons (rp_tkey g a) (rps_tkeys g (by simpa using hl) r)
theorem NewS.more {G H G' H' : Hp} {v : V} {o : O} (h : ∀ A vs os, SepA A (ext G H []) H vs os → SepA A G' H' (v :: vs) (o :: os)) (g : Same (ext G H []) G') : NewS G H G' H' v o := ⟨ext_same.trans g, fun A vs os s => h A vs os s.more⟩
theorem list_b : CallB (.type "list") (bfD bfList) := .d fun X c u g => ⟨_, (call_list_of (X := X)).or ((call_listD c).or (call_list_dT c)), fun G H vs ds o Q gs s e q => by
  unfold bfList at e
  split at e
  · rename_i t xs
    obtain ⟨x, rfl, a, ob, vs, rfl, ha, sh, r⟩ := sws1 s
    split at e
    · cases e; obtain rfl := sh.ex rfl; exact .inl ⟨_, vs, rfl, .inl (.inl (.inl ha)), fun l hl => q _ _ _ (.made hl r rfl rfl)⟩
    · cases e; obtain rfl := sh.ex rfl; exact .inl ⟨_, vs, rfl, .inl (.inl (.inr ⟨_, ha⟩)), fun l hl => q _ _ _ (.made hl r rfl rfl)⟩
    · cases e; obtain rfl := sh.ex rfl; exact .inl ⟨_, vs, rfl, .inr (.inl (.inl ha)), fun l hl => q _ _ _ (.made hl r rfl rfl)⟩
    · rename_i ks
      cases e; obtain ⟨hk, hd⟩ := rd_of_dK ha sh
      refine .inr (.inl ⟨_, _, rfl, hd, fun l hl => ?_⟩)
      have e3 : (ks.zip vs).map Prod.fst = ks := List.map_fst_zip (by omega)
      have e2 : (ks.zip vs).map (fun kv => kV kv.1) = ks.map kV := by
        calc (ks.zip vs).map (fun kv => kV kv.1) = ((ks.zip vs).map Prod.fst).map kV := by rw [List.map_map]; rfl
          _ = ks.map kV := by rw [e3]
      rw [e2]
      exact q _ _ _ (.made hl (rps_keys ks) rfl rfl)
    · rename_i ks
      cases e; obtain ⟨hk, hd⟩ := rd_of_dT ha sh
      refine .inr (.inr ⟨_, _, rfl, hd, fun l bs hl hb => ?_⟩)
      have nw : NewS (ext G H []) H (ext G H []) (upd H l (.lst (bs.map V.ref))) (.ref l) (.own .lst ((ks.map fun k => D.nd .tup (k.map keyD)).map O.fz)) := .made hl (rps_tkeys gs hk hb) rfl rfl
      exact q _ _ _ (.more nw.2 nw.1)
    · cases e
  · cases e⟩
/-- a tuple that stands is frozen as it stands -/
theorem NewS.oldT {G H : Hp} {a : Addr} {xs : List V} {ds : List D} (gs : Same G H) (h : H a = some (.tup xs)) (r : Rps G xs ds) : NewS G H (ext G H []) H (.ref a) (.fz (.nd .tup ds)) :=
  ⟨ext_same, fun A vs os s => s.more.cons (.nd (ext_at gs h (.inr trivial)) (.inl rfl) (r.mono ext_same))⟩
def bfTup : Bf := fun ds => match ds with
  | [.nd t xs] => match t with
    | .lst => some (.fz (.nd .tup xs))
    | .scr _ => some (.fz (.nd .tup xs))
    | .tup => some (.fz (.nd .tup xs))
    | _ => none
  | _ => none
theorem tup_b : CallB (.type "tuple") (bfD bfTup) := .d fun X c u g => ⟨_, call_tuple_of (X := X), fun G H vs ds o Q gs s e q => by
  unfold bfTup at e
  split at e
  · rename_i t xs
    obtain ⟨x, rfl, a, ob, vs, rfl, ha, sh, r⟩ := sws1 s
    split at e
    · cases e; obtain rfl := sh.ex rfl
      refine ⟨_, vs, rfl, .inl ⟨.inl (.inl ha), fun l hl => ?_⟩⟩
      obtain ⟨G', nw⟩ := NewS.tup gs hl r
      exact q _ _ _ nw
    · cases e; obtain rfl := sh.ex rfl
      refine ⟨_, vs, rfl, .inl ⟨.inl (.inr ⟨_, ha⟩), fun l hl => ?_⟩⟩
      obtain ⟨G', nw⟩ := NewS.tup gs hl r
      exact q _ _ _ nw
    · cases e; obtain rfl := sh.ex rfl
      exact ⟨_, vs, rfl, .inr ⟨.inl (.inl ha), q _ _ _ (.oldT gs ha r)⟩⟩
    · cases e
  · cases e⟩
/-! ### sorted -/
theorem cr_sortedSA {X : Cx} : CallR X (.builtin "sorted") (fun vs H Q => ∃ (a : Addr) (xs : List Str), vs = [V.ref a] ∧ SqL X.K H a (xs.map V.str) ∧ ∀ (ys : List Str) (p : Addr), ys.Perm xs → sortedS ys = true → H p = none → Q (.ref p) (upd H p (.lst (ys.map V.str)))) := by
  intro pins s σ H vs us Q I r h
  obtain ⟨a, xs, rfl, hs, q⟩ := h
  obtain ⟨its, rv, hl, hz⟩ := I.list hs
  rw [Vals.ref1 r]
  have hlen0 := rv.length
  refine sorted_strsAny hl.isList rv.strs (by rw [← hlen0]; exact hz) fun out ys h1 h2 h3 => ?_
  obtain ⟨ep, he'⟩ := PyProof.Rows.sortedAll_at s.heap its out
  have hlen : (ys.map V.str).length ≤ sizeLine := by
    rw [List.length_map] at hz ⊢
    rw [h2.length_eq]
    exact hz
  exact ⟨.ref _, upd H (s.heap.objs.size + 1) (.lst (ys.map V.str)), I.laid (t' := s.toks) (fun _ _ => PyProof.Rows.sortedAll_old) (Nat.le_succ _) ⟨hlen, out.toList, ep, vals_of_strs h1, he'⟩, rfl, q ys _ h2 h3 (I.hok.fresh (Nat.le_succ _))⟩
def bfSort : Bf := fun ds => match ds with
  | [d] => (lstOf d).bind fun xs => match intsD xs with
    | some ns => some (.own .lst (((srtL leI ns).map D.int).map O.fz))
    | none => match strsD xs with
      | some ns => some (.own .lst (((srtL leS ns).map D.str).map O.fz))
      | none => bfSortT xs
  | _ => none
theorem sort_b : CallB (.builtin "sorted") (bfD bfSort) := .d fun X c u g => ⟨_, (cr_sortedI (X := X)).or (cr_sortedSA.or (cr_sortTu u)), fun G H vs ds o Q gs s e q => by
  unfold bfSort at e
  split at e
  · obtain ⟨xs, h1, e⟩ := Option.bind_eq_some_iff.mp e
    obtain ⟨x, rfl, hx⟩ := sws1 s
    obtain ⟨a, vs, rfl, sq, r⟩ := lstOf_v (K := X.K) hx h1
    split at e
    · rename_i ns h2
      cases e
      rw [intsD_v h2 r] at sq
      refine .inl ⟨a, ns, rfl, sq, fun ys p h3 h4 hp => ?_⟩
      rw [srtI_eq h3 h4]
      exact q _ _ _ (.made hp (rps_ints _) rfl rfl)
    · split at e
      · rename_i ns h2
        cases e
        rw [strsD_v h2 r] at sq
        refine .inr (.inl ⟨a, ns, rfl, sq, fun ys p h3 h4 hp => ?_⟩)
        rw [srtS_eq h3 h4]
        exact q _ _ _ (.made hp (rps_strs _) rfl rfl)
      · obtain ⟨ps, h3, e⟩ := Option.bind_eq_some_iff.mp e
        split at e
        · rename_i h4
          cases e
          obtain ⟨t1, t2, t3⟩ := tuOk_at h4
          exact .inr (.inr ⟨a, vs, ps, rfl, sq, Rps.dp gs r h3, t1, t2, t3, fun p hp => q _ _ _ (.made hp (rps_srt r (toPDs_len h3)) rfl rfl)⟩)
        · cases e
  · cases e⟩
/-! ### repr -/
theorem noDict_pd : ∀ {d : D} {p : PyData}, toPD d = some p → p.hasDict = false := by
  have key : ∀ (n : Nat) (d : D) (p : PyData), sizeOf d < n → toPD d = some p → p.hasDict = false := by
    intro n
    induction n with
    | zero => intro d p h _; omega
    | succ n ih =>
      have all : ∀ (ds : List D) (ps : List PyData), sizeOf ds < n + 1 → toPDs ds = some ps → PyData.hasDictAll ps = false := by
        intro ds
        induction ds with
        | nil => intro ps _ h; cases h; rfl
        | cons d ds ihs =>
          intro ps hz h
          obtain ⟨p, h1, h⟩ := Option.bind_eq_some_iff.mp h
          obtain ⟨ps', h2, rfl⟩ := Option.map_eq_some_iff.mp h
          have hz' : 1 + sizeOf d + sizeOf ds < n + 1 := by simpa using hz
          show (p.hasDict || PyData.hasDictAll ps') = false
          rw [ih d p (by omega) h1, ihs ps' (by omega) h2]
          rfl
      intro d p hz h
      cases d with
      | nd t ds =>
        have hz' : 1 + sizeOf t + sizeOf ds < n + 1 := by simpa using hz
        cases t with
        | lst => obtain ⟨ps, hp, rfl⟩ := Option.map_eq_some_iff.mp h; exact all ds ps (by omega) hp
        | scr o => obtain ⟨ps, hp, rfl⟩ := Option.map_eq_some_iff.mp h; exact all ds ps (by omega) hp
        | tup => obtain ⟨ps, hp, rfl⟩ := Option.map_eq_some_iff.mp h; exact all ds ps (by omega) hp
        | _ => cases h
      | _ => first | (cases h; rfl) | (cases h; done)
  intro d p h
  exact key (sizeOf d + 1) d p (by omega) h
def isSeqD : D → Bool
  | .nd .lst _ => true
  | .nd (.scr _) _ => true
  | .nd .tup _ => true
  | _ => false
/-- what may be shown -/
def showD (d : D) : Option Str := (toPD d).bind fun p => if p.showable = true ∧ p.depth + 1 ≤ 64 ∧ p.shown.length ≤ sizeLine then some p.shown else none
theorem showD_at {d : D} {x : Str} (h : showD d = some x) : ∃ p, toPD d = some p ∧ p.showable = true ∧ p.depth + 1 ≤ 64 ∧ p.shown.length ≤ sizeLine ∧ x = p.shown := by
  obtain ⟨p, h1, h⟩ := Option.bind_eq_some_iff.mp h
  split at h
  · rename_i q
    cases h
    exact ⟨p, h1, q.1, q.2.1, q.2.2, rfl⟩
  · cases h
def rReprD (K : PySem.W.Frag) : List V → Hp → VK → Prop := fun xs H Q => ∃ a p, xs = [.ref a] ∧ Dp K H (.ref a) p ∧ p.showable = true ∧ p.hasDict = false ∧ p.depth + 1 ≤ 64 ∧ p.shown.length ≤ sizeLine ∧ Q (.str p.shown) H
theorem cr_repr {X : Cx} (hu : X.A.units + 65 < cLine) (hg : X.A.guards = some []) : CallR X (.builtin "repr") (rReprD X.K) := by
  intro pins s σ H vs us Q I r h
  obtain ⟨a, p, rfl, dp, h1, h2, h3, h4, q⟩ := h
  obtain ⟨as, rd⟩ := dp.reads I _ _ _ (show RelV (.ref a) (.ref a) from rfl)
  rw [Vals.ref1 r]
  exact repr_of_reads' rd h1 (PyData.noDict_hsm h2) hg (by omega) (fun _ _ e => e) (fun h' u tk hk => ⟨.str _, H, I.kept hk, ⟨_, rfl⟩, q⟩) h4
theorem isSeq_ref {G : Hp} {v : V} {d : D} (h : Rp G v d) (e : isSeqD d = true) : ∃ a, v = .ref a := by
  cases h <;> first | exact ⟨_, rfl⟩ | cases e
def bfRepr : BfO := fun os => match os with
  | [o] => if isSeqD o.view = true then (showD o.view).map fun x => .fz (.str x) else match o.view with
    | .int i => if i.natAbs.log2 < 1920 then some (.fz (.str (toString i))) else none
    | _ => none
  | _ => none
theorem repr_b : CallB (.builtin "repr") bfRepr := fun X c u g => ⟨_, (cr_repr (X := X) u g).or SkE.call_repr_int, fun G H vs os F o Q gs s e q => by
  unfold bfRepr at e
  split at e
  · rename_i o'
    obtain ⟨x, rfl, hx⟩ := rps1 (s.all gs)
    split at e
    · obtain ⟨y, h1, rfl⟩ := Option.map_eq_some_iff.mp e
      obtain ⟨p, h2, h3, h4, h5, rfl⟩ := showD_at h1
      have dp := hx.dp (K := X.K) (Same.refl _) h2
      have hr := isSeq_ref hx (by assumption)
      obtain ⟨a, rfl⟩ := hr
      exact .inl ⟨a, p, rfl, dp, h3, noDict_pd h2, h4, h5, q _ _ _ (.old .str)⟩
    · split at e
      · rename_i i hv
        split at e
        · cases e
          rw [hv] at hx
          cases hx
          exact .inr ⟨_, rfl, by assumption, q _ _ _ (.old .str)⟩
        · cases e
      · cases e
  · cases e⟩
end VS
namespace VS
open PySem PySem.Spec PyProof.Rows L2
/-! ## in another order -/
theorem Ows.zipPerm {G H : Hp} {ps qs : List (V × O)} (p : ps.Perm qs) : ∀ {F : List Addr}, Ows G H (ps.map (·.1)) (ps.map (·.2)) F → ∃ F', Ows G H (qs.map (·.1)) (qs.map (·.2)) F' ∧ F.Perm F' := by
  induction p with
  | nil => intro F h; exact ⟨F, h, .refl _⟩
  | cons x _ ih =>
    intro F h
    cases h with
    | cons a r =>
      obtain ⟨F', h1, h2⟩ := ih r
      exact ⟨_, .cons a h1, h2.append_left _⟩
  | swap x y l =>
    intro F h
    cases h with
    | cons a r => cases r with
      | cons b r =>
        refine ⟨_, .cons b (.cons a r), ?_⟩
        rw [← List.append_assoc, ← List.append_assoc]
        exact List.Perm.append_right _ List.perm_append_comm
  | trans _ _ ih1 ih2 =>
    intro F h
    obtain ⟨F1, h1, p1⟩ := ih1 h
    obtain ⟨F2, h2, p2⟩ := ih2 h1
    exact ⟨F2, h2, p1.trans p2⟩
theorem SepA.zipPerm {A : List Addr} {G H : Hp} {ps qs : List (V × O)} {ws : List V} {os : List O} (p : ps.Perm qs) (s : SepA A G H (ps.map (·.1) ++ ws) (ps.map (·.2) ++ os)) : SepA A G H (qs.map (·.1) ++ ws) (qs.map (·.2) ++ os) := by
  obtain ⟨F, h, nd, hG, hA, g⟩ := s
  obtain ⟨F1, F2, rfl, q1, q2⟩ := h.split (by simp)
  obtain ⟨F', h1, h2⟩ := q1.zipPerm p
  exact .perm (h2.append_right _) (h1.append q2) nd hG hA g
theorem arr_range {α : Type} {d : α} {l : List α} : arr (List.range l.length) d l = l := by
  apply List.ext_getElem
  · simp [arr]
  · intro i h1 h2
    simp [arr, List.getD_eq_getElem?_getD, List.getElem?_eq_getElem h2]
theorem arr_perm {α : Type} {ix : List Nat} {d : α} {l : List α} (p : ix.Perm (List.range l.length)) : (arr ix d l).Perm l := by
  have := p.map fun j => l.getD j d
  rwa [show (List.range l.length).map (fun j => l.getD j d) = l from arr_range] at this
theorem arr_len {α : Type} {ix : List Nat} {d : α} {l : List α} : (arr ix d l).length = ix.length := by simp [arr]
theorem inv_len {ix : List Nat} : (inv ix).length = ix.length := by simp [inv]
theorem arr_inv {α : Type} {ix : List Nat} {d : α} {l : List α} (p : ix.Perm (List.range l.length)) : arr (inv ix) d (arr ix d l) = l := by
  have hlen : ix.length = l.length := by have := p.length_eq; simpa using this
  apply List.ext_getElem
  · simp [arr, inv, hlen]
  · intro i h1 h2
    have hm : i ∈ ix := p.mem_iff.mpr (List.mem_range.mpr h2)
    have hx : ix.idxOf i < ix.length := List.idxOf_lt_length_of_mem hm
    simp only [arr, inv, List.getElem_map, List.getElem_range, List.getD_eq_getElem?_getD, List.getElem?_map, List.getElem?_eq_getElem hx, Option.map_some, Option.getD_some, List.getElem_idxOf hx, List.getElem?_eq_getElem h2]
/-! ## calls with keywords -/
def arrC (ix : List Nat) (C : Con) : Con := fun E os Q => C (fun n f os' => E n f (arr (inv ix) O.bad os')) (arr ix O.bad os) (fun r os' => Q r (arr (inv ix) O.bad os'))
theorem arrC_mono {ix : List Nat} {C : Con} (m : MonoC C) : MonoC (arrC ix C) := fun E E' os Q Q' hE hQ h => m _ _ _ _ _ (fun n f c q => hE n f _ q) (fun o c q => hQ o _ q) h
theorem zip_fst {α β : Type} {xs : List α} {ys : List β} (h : xs.length = ys.length) : (xs.zip ys).map (·.1) = xs := List.map_fst_zip (by omega)
theorem zip_snd {α β : Type} {xs : List α} {ys : List β} (h : xs.length = ys.length) : (xs.zip ys).map (·.2) = ys := List.map_snd_zip (by omega)
theorem arr_fst {ix : List Nat} {l : List (V × O)} : (arr ix (V.non, O.bad) l).map (·.1) = arr ix V.non (l.map (·.1)) := by
  unfold arr
  rw [List.map_map]
  refine List.map_congr_left fun j _ => ?_
  simp only [Function.comp, List.getD_eq_getElem?_getD, List.getElem?_map]
  cases l[j]? <;> rfl
theorem arr_snd {ix : List Nat} {l : List (V × O)} : (arr ix (V.non, O.bad) l).map (·.2) = arr ix O.bad (l.map (·.2)) := by
  unfold arr
  rw [List.map_map]
  refine List.map_congr_left fun j _ => ?_
  simp only [Function.comp, List.getD_eq_getElem?_getD, List.getElem?_map]
  cases l[j]? <;> rfl
theorem SepA.arr {A : List Addr} {G H : Hp} {xs ws : List V} {ys os : List O} {ix : List Nat} (hl : xs.length = ys.length) (p : ix.Perm (List.range xs.length)) (s : SepA A G H (xs ++ ws) (ys ++ os)) : SepA A G H (VS.arr ix .non xs ++ ws) (VS.arr ix O.bad ys ++ os) := by
  have hz : (xs.zip ys).length = xs.length := by rw [List.length_zip, hl, Nat.min_self]
  have q : ((xs.zip ys)).Perm (VS.arr ix (V.non, O.bad) (xs.zip ys)) := (arr_perm (by rw [hz]; exact p)).symm
  have s2 := SepA.zipPerm (ws := ws) (os := os) q (by rw [zip_fst hl, zip_snd hl]; exact s)
  rw [arr_fst, arr_snd, zip_fst hl, zip_snd hl] at s2
  exact s2
theorem liftC_arr {mg : Str → Option Value} {n : Nat} {C : Con} {ix : List Nat} {vs : List V} {H : Hp} {Q : VK} {E : XK} (m : MonoC C) (p : ix.Perm (List.range n)) (pi : (inv ix).Perm (List.range n)) (h : liftC mg n (arrC ix C) vs H Q E) : liftC mg n C (arr ix .non vs) H Q E := by
  obtain ⟨hn, os, G, vsL, osL, hl, sp, h⟩ := h
  have hx : ix.length = n := by have := p.length_eq; simpa using this
  have back : ∀ {xs : List V} {ps : List O} {os' : List O} {G' H' : Hp}, xs.length = ps.length → os'.length = (arr ix O.bad os).length → Sep G' H' (xs ++ (arr ix .non vs ++ vsL)) (ps ++ (os' ++ osL)) → Sep G' H' (xs ++ (vs ++ vsL)) (ps ++ (arr (inv ix) O.bad os' ++ osL)) := by
    intro xs ps os' G' H' hxs hos s
    have hlen : (arr ix V.non vs).length = os'.length := by rw [hos, arr_len, arr_len]
    have s1 := SepA.rot (ws := xs) (ps := ps) s hxs hlen
    have s2 := SepA.arr (ix := inv ix) hlen (by rw [arr_len, hx]; exact pi) s1
    rw [arr_inv (by rw [hn]; exact p)] at s2
    exact SepA.rot (ws := vs) (ps := arr (inv ix) O.bad os') s2 (by rw [arr_len, inv_len, hx, hn]) hxs
  refine ⟨by rw [arr_len, hx], arr ix O.bad os, G, vsL, osL, by rw [arr_len, arr_len], SepA.arr hl (by rw [hn]; exact p) sp, m _ _ _ _ _ (fun nm fs os' q => ?_) (fun r os' q => ?_) h⟩
  · intro cls d H' G' g ho s xi
    exact q cls d H' G' g (by rw [arr_len, inv_len, hx, ← hl, hn]) (back (xs := []) (ps := []) rfl ho s) xi
  · intro v H' G' g ho s
    exact q v H' G' g (by rw [arr_len, inv_len, hx, ← hl, hn]) (back (xs := [v]) (ps := [r]) rfl ho s)
theorem backToKw_all {pos : Pos} {env : Env} : ∀ {kws : List Keyword}, kws.all (·.arg.isSome) = true → (backToKw pos (keywordEach kws env)).all (·.1.isSome) = true ∧ (backToKw pos (keywordEach kws env)).any (·.1.isNone) = false
  | [], _ => ⟨rfl, rfl⟩
  | ⟨nm, e, p⟩ :: r, h => by
    rw [List.all_cons, Bool.and_eq_true] at h
    obtain ⟨h1, h2⟩ := backToKw_all (pos := pos) (env := env) h.2
    cases nm with
    | none => cases h.1
    | some x => exact ⟨by show (true && _) = true; rw [Bool.true_and]; exact h1, by show (false || _) = false; rw [Bool.false_or]; exact h2⟩
theorem backToKw_names {pos : Pos} {env : Env} : ∀ {kws : List Keyword}, (backToKw pos (keywordEach kws env)).filterMap (·.1) = kws.filterMap (·.arg)
  | [] => rfl
  | ⟨nm, e, p⟩ :: r => by
    have h := backToKw_names (pos := pos) (env := env) (kws := r)
    cases nm with
    | none => exact h
    | some x => exact congrArg (x :: ·) h
theorem liftE_imp {mg : Str → Option Value} {W : WX} {t : DE} {σ : L2.St} {H : Hp} {Q Q' : VK} (m : Mono t) (h : liftE mg W t σ H Q) (hq : ∀ v H, Q v H → Q' v H) : liftE mg W t σ H Q' := by
  obtain ⟨c, G, vsL, osL, sl, sp, q⟩ := h
  exact ⟨c, G, vsL, osL, sl, sp, m _ _ _ _ _ (fun _ _ _ z => z) (fun o c' z v H' G' g sl' sp' => hq _ _ (z v H' G' g sl' sp')) q⟩
theorem tas_append {mg : Str → Option Value} {W : WX} : ∀ {o1 o2 : List Opd} {σ : L2.St} {H : Hp} {R : List V → Hp → Prop}, MonoO o1 → tas mg W (o1 ++ o2) σ H R → tas mg W o1 σ H fun vs H1 => tas mg W o2 σ H1 fun zs H2 => R (vs ++ zs) H2
  | [], o2, σ, H, R, m, h => h
  | .sl i :: r, o2, σ, H, R, m, h => by
    obtain ⟨v, e, h⟩ := h
    exact ⟨v, e, tas_append (o1 := r) (R := fun vs H2 => R (v :: vs) H2) m h⟩
  | .ex t :: r, o2, σ, H, R, m, h => by
    have h1 : liftE mg W t σ H fun v H1 => tas mg W (r ++ o2) σ H1 fun vs H2 => R (v :: vs) H2 := h
    exact liftE_imp m.1 h1 fun v H1 q => tas_append (o1 := r) (R := fun vs H2 => R (v :: vs) H2) m.2 q
theorem MonoO.append : ∀ {o1 o2 : List Opd}, MonoO o1 → MonoO o2 → MonoO (o1 ++ o2)
  | [], _, _, h => h
  | .sl i :: r, o2, m, h => MonoO.append (o1 := r) m h
  | .ex t :: r, o2, m, h => ⟨m.1, MonoO.append (o1 := r) m.2 h⟩
theorem tas_imp {mg : Str → Option Value} {W : WX} : ∀ {ops : List Opd} {σ : L2.St} {H : Hp} {R R' : List V → Hp → Prop}, MonoO ops → tas mg W ops σ H R → (∀ vs H, R vs H → R' vs H) → tas mg W ops σ H R'
  | [], σ, H, R, R', m, h, hr => hr _ _ h
  | .sl i :: r, σ, H, R, R', m, h, hr => by
    obtain ⟨v, e, h⟩ := h
    exact ⟨v, e, tas_imp (ops := r) (R := fun vs H2 => R (v :: vs) H2) m h fun vs H q => hr _ _ q⟩
  | .ex t :: r, σ, H, R, R', m, h, hr => by
    have h1 : liftE mg W t σ H fun v H1 => tas mg W r σ H1 fun vs H2 => R (v :: vs) H2 := h
    exact liftE_imp m.1 h1 fun v H1 q => tas_imp (ops := r) (R := fun vs H2 => R (v :: vs) H2) m.2 q fun vs H q => hr _ _ q
theorem tas_len {mg : Str → Option Value} {W : WX} : ∀ {ops : List Opd} {σ : L2.St} {H : Hp} {R : List V → Hp → Prop}, MonoO ops → tas mg W ops σ H R → tas mg W ops σ H fun vs H1 => vs.length = ops.length ∧ R vs H1
  | [], σ, H, R, m, h => ⟨rfl, h⟩
  | .sl i :: r, σ, H, R, m, h => by
    obtain ⟨v, e, h⟩ := h
    exact ⟨v, e, tas_imp (ops := r) m (tas_len (ops := r) (R := fun vs H2 => R (v :: vs) H2) m h) fun vs H q => ⟨by rw [List.length_cons, List.length_cons, q.1], q.2⟩⟩
  | .ex t :: r, σ, H, R, m, h => by
    have h1 : liftE mg W t σ H fun v H1 => tas mg W r σ H1 fun vs H2 => R (v :: vs) H2 := h
    exact liftE_imp m.1 h1 fun v H1 q => tas_imp (ops := r) m.2 (tas_len (ops := r) (R := fun vs H2 => R (v :: vs) H2) m.2 q) fun vs H q => ⟨by rw [List.length_cons, List.length_cons, q.1], q.2⟩
theorem vals_arr {ix : List Nat} {vs : List V} {us : List Value} (r : Vals vs us) : Vals (arr ix .non vs) (arr ix .none us) := by
  have key : ∀ {xs : List V} {ys : List Value}, Vals xs ys → ∀ j, RelV (xs.getD j .non) (ys.getD j .none) := by
    intro xs ys h
    induction h with
    | nil => intro j; exact rfl
    | cons a _ ih => intro j; cases j with
      | zero => exact a
      | succ j => exact ih j
  unfold arr
  induction ix with
  | nil => exact .nil
  | cons j js ih => exact .cons (key r j) ih
section
variable {X : Cx} {W : WX} {k : Nat} {f : Addr} {fd : FuncData} {ps ks : List Str} {ix : List Nat} {sp : Sp} {x : Str} {p pos : Pos} {e : Expr} {es : List Expr} {kws : List Keyword} {n : Nat} {t tk : TA}
theorem goK_fin (F : FnG X.prog X.w X.K X.mg X.base k f fd ps sp) (hr : Room k X.A) (hg : X.A.guards = some []) (kw : KwOk X.K fd ps n ks ix) (tk' : Takes X W) {pins : List (Addr × Obj)} {σ : L2.St} {Q : VK} {s2 : Shared} {H2 : Hp} {us ws : List Value} {vs zs : List V} (I2 : Inv X pins σ H2 s2) (r : Vals vs us) (rz : Vals zs ws)
    (l1 : vs.length = n) (l2 : zs.length = ks.length) (q : sp (arr ix .non (vs ++ zs)) H2 Q (WE W σ)) : X.K.In s2.heap ∧ wpAny (model X.prog X.w) X.A (call (.ref f) us (ks.zip ws)) (EP X pins σ Q) X.xe s2 := by
  refine ⟨I2.kIn, wpAny_call ?_⟩
  have b := kw.2.2.2 s2 us ws I2.kIn (by rw [← r.length, l1]) (by rw [← rz.length, l2])
  refine codeAny_mono (go_fn F hr hg tk' I2 b (vals_arr (r.append rz)) q) fun y s' hy => ?_
  match y, hy with
  | .ok (.ret u), hy => exact hy
  | .error e, hy => exact hy
/-- f(e, .., k = v, ..) by a promise -/
theorem pe_goK (F : FnG X.prog X.w X.K X.mg X.base k f fd ps sp) (hr : Room k X.A) (hg : X.A.guards = some []) (gl : Gl X x)
    (hm : X.mg x = some (.ref f)) (hk : PySem.W.keepIn X.K (.ref f) = true) (kw : KwOk X.K fd ps n ks ix) (tk' : Takes X W) (ha : PA X (e :: es) t) (hkw : PK X kws tk) (pn : plainName x = true) (ns : (e :: es).all noStar = true) (ka : kws.all (·.arg.isSome) = true) (kn : kws.filterMap (·.arg) = ks) :
    PE X (.Call (.Name x p) (e :: es) kws pos) (fun σ H Q => t σ H fun vs H1 => tk σ H1 fun zs H2 => vs.length = n ∧ zs.length = ks.length ∧ sp (arr ix .non (vs ++ zs)) H2 Q (WE W σ)) := by
  refine ⟨fun pins s σ H Q I h => wpAny_Call_Name_kw (ld_glob I gl hm ?_ (plainName_1 pn))⟩
  obtain ⟨ka1, ka2⟩ := backToKw_all (pos := pos) (env := X.env) ka
  have ns' : noStar e = true ∧ es.all noStar = true := by simpa using ns
  have pl : (backTo pos (starEach (e :: es) X.env)).any (·.1) = false := backTo_plain ns
  refine PySem.W.callWith_KW (h₀ := X.base) I.ok.mod.kin hk ka1 (thn (ha.run pos pins s σ H _ I h) fun us s1 ⟨vs, H1, I1, r, q⟩ => ?_) (by rw [pl, ka2]; rfl) (starEach_cons ns'.1)
  refine thn (hkw.run pos pins s1 σ H1 _ I1 q) fun ws s2 ⟨zs, H2, I2, rz, q2⟩ => ?_
  rw [backToKw_names, kn]
  exact goK_fin F hr hg kw tk' I2 r rz q2.1 q2.2.1 q2.2.2
theorem pe_goK0 (F : FnG X.prog X.w X.K X.mg X.base k f fd ps sp) (hr : Room k X.A) (hg : X.A.guards = some []) (gl : Gl X x)
    (hm : X.mg x = some (.ref f)) (hk : PySem.W.keepIn X.K (.ref f) = true) (kw : KwOk X.K fd ps 0 ks ix) (tk' : Takes X W) (hkw : PK X kws tk) (pn : plainName x = true) (ka : kws.all (·.arg.isSome) = true) (kn : kws.filterMap (·.arg) = ks) :
    PE X (.Call (.Name x p) [] kws pos) (fun σ H Q => tk σ H fun zs H2 => zs.length = ks.length ∧ sp (arr ix .non zs) H2 Q (WE W σ)) := by
  refine ⟨fun pins s σ H Q I h => wpAny_Call_Name_kw (ld_glob I gl hm ?_ (plainName_1 pn))⟩
  obtain ⟨ka1, ka2⟩ := backToKw_all (pos := pos) (env := X.env) ka
  refine PySem.W.callWith_KW0 (h₀ := X.base) I.ok.mod.kin hk ka1 ?_ (by rw [ka2]; rfl)
  refine thn (hkw.run pos pins s σ H _ I h) fun ws s2 ⟨zs, H2, I2, rz, q2⟩ => ?_
  rw [backToKw_names, kn]
  exact goK_fin (vs := []) F hr hg kw tk' I2 .nil rz rfl q2.1 q2.2
/-- f(), no parameters that are wanted -/
theorem pe_go0 {ds : List Value} {dvs : List V} (F : FnG X.prog X.w X.K X.mg X.base k f fd ps sp) (hr : Room k X.A) (hg : X.A.guards = some []) (gl : Gl X x)
    (hm : X.mg x = some (.ref f)) (hk : PySem.W.keepIn X.K (.ref f) = true) (hb : Binds X.K fd ps ds) (hd : Vals dvs ds) (tk' : Takes X W) (pn : plainName x = true) : PE X (.Call (.Name x p) [] [] pos) (tGo sp dvs W tNil) := by
  refine ⟨fun pins s σ H Q I h => wpAny_Call_Name_kw (ld_glob I gl hm (PySem.W.callWith_K0 I.kIn hk ?_) (plainName_1 pn))⟩
  refine wpAny_call ?_
  have hl : ([] ++ ds).length = ps.length := by rw [List.nil_append, ← hd.length]; exact F.many _ _ _ _ h
  refine codeAny_mono (go_fn F hr hg tk' I (hb s [] I.kIn hl) (by simpa using hd) h) fun y s' hy => ?_
  match y, hy with
  | .ok (.ret u), hy => exact hy
  | .error e, hy => exact hy
end
section
variable {Γ : Sg} {sc : Scope} {k : Nat} {e : Expr} {es : List Expr} {kws : List Keyword} {ops o2 : List Opd} {x : Str} {p pos : Pos} {F : Fn}
def VK' (Γ : Sg) (sc : Scope) (k : Nat) (kws : List Keyword) (ops : List Opd) : Prop := MonoO ops ∧ ∀ X W, OkX Γ sc k X → Takes X W → PK X kws (tas X.mg W ops)
theorem VK'.nil : VK' Γ sc k [] [] := ⟨trivial, fun _ _ _ _ => pk_nil⟩
theorem VK'.cons {o : Opd} {nm : Option Str} {kp : Pos} (h : VO Γ sc k e o) (r : VK' Γ sc k kws ops) : VK' Γ sc k (⟨nm, e, kp⟩ :: kws) (o :: ops) := by
  refine ⟨?_, fun X W ok tk => pk_cons (h.2 X W ok tk) (r.2 X W ok tk)⟩
  have h1 := h.1
  cases o with
  | sl i => exact r.1
  | ex t => exact ⟨h1.1, r.1⟩
theorem VE.call0 (g : isGl sc x = true) (hf : Γ.fns x = some F) (pn : plainName x = true) (hn : F.dv.length = F.ps.length) (mC : MonoC F.C) : VE Γ sc k (.Call (.Name x p) [] [] pos) (vCall F.C F.dv []) := by
  refine ⟨vCall_mono mC trivial, fun X W ok tk => ?_⟩
  obtain ⟨_, f, fd, dvs, ds, h1, h2, h3, h4, h5, h6, _⟩ := ok.g.fn x F hf
  refine (pe_go0 h6 ok.room ok.gd (ok.gl x (isGl_at g)) h1 h2 h3 h4 tk pn).impV fun σ H Q q => ?_
  exact vCall_run (ops := []) mC trivial h5 (by simpa using hn) q
theorem VE.callK {ix : List Nat} (g : isGl sc x = true) (hf : Γ.fns x = some F) (pn : plainName x = true) (ha : VA Γ sc k (e :: es) ops) (hk : VK' Γ sc k kws o2) (hs : (e :: es).all noStar = true) (ka : kws.all (·.arg.isSome) = true) (hq : (ops.length, kws.filterMap (·.arg), ix) ∈ F.kws)
    (hlen : o2.length = (kws.filterMap (·.arg)).length) (mC : MonoC F.C) : VE Γ sc k (.Call (.Name x p) (e :: es) kws pos) (vCall (arrC ix F.C) [] (ops ++ o2)) := by
  have m := MonoO.append ha.1 hk.1
  refine ⟨vCall_mono (arrC_mono mC) m, fun X W ok tk => ?_⟩
  obtain ⟨_, f, fd, dvs, ds, h1, h2, h3, h4, h5, h6, h7⟩ := ok.g.fn x F hf
  have kw := h7 _ hq
  refine (pe_goK h6 ok.room ok.gd (ok.gl x (isGl_at g)) h1 h2 kw tk (ha.2 X W ok tk) (hk.2 X W ok tk) pn hs ka rfl).impV fun σ H Q q => ?_
  have hn : (ops ++ o2).length + ([] : List D).length = ops.length + (kws.filterMap (·.arg)).length := by simp [hlen]
  have q2 := vCall_run (n := ops.length + (kws.filterMap (·.arg)).length) (dvs := []) (arrC_mono mC) m .nil hn q
  have q3 := tas_append ha.1 q2
  refine tas_imp ha.1 (tas_len ha.1 q3) fun vs H1 ⟨l1, z⟩ => tas_imp hk.1 (tas_len hk.1 z) fun zs H2 ⟨l2, z2⟩ => ⟨l1, by rw [l2, hlen], ?_⟩
  rw [List.append_nil] at z2
  have z3 := liftC_arr mC kw.2.1 kw.2.2.1 z2
  rw [← kw.1, show ix.length = ops.length + (kws.filterMap (·.arg)).length by have := kw.2.1.length_eq; simpa using this]
  exact z3
theorem VE.callK0 {ix : List Nat} (g : isGl sc x = true) (hf : Γ.fns x = some F) (pn : plainName x = true) (hk : VK' Γ sc k kws o2) (ka : kws.all (·.arg.isSome) = true) (hq : (0, kws.filterMap (·.arg), ix) ∈ F.kws)
    (hlen : o2.length = (kws.filterMap (·.arg)).length) (mC : MonoC F.C) : VE Γ sc k (.Call (.Name x p) [] kws pos) (vCall (arrC ix F.C) [] o2) := by
  refine ⟨vCall_mono (arrC_mono mC) hk.1, fun X W ok tk => ?_⟩
  obtain ⟨_, f, fd, dvs, ds, h1, h2, h3, h4, h5, h6, h7⟩ := ok.g.fn x F hf
  have kw := h7 _ hq
  refine (pe_goK0 h6 ok.room ok.gd (ok.gl x (isGl_at g)) h1 h2 kw tk (hk.2 X W ok tk) pn ka rfl).impV fun σ H Q q => ?_
  have hn : o2.length + ([] : List D).length = 0 + (kws.filterMap (·.arg)).length := by simp [hlen]
  have q2 := vCall_run (n := 0 + (kws.filterMap (·.arg)).length) (dvs := []) (arrC_mono mC) hk.1 .nil hn q
  refine tas_imp hk.1 (tas_len hk.1 q2) fun zs H2 ⟨l2, z2⟩ => ⟨by rw [l2, hlen], ?_⟩
  rw [List.append_nil] at z2
  have z3 := liftC_arr mC kw.2.1 kw.2.2.1 z2
  rw [← kw.1, show ix.length = 0 + (kws.filterMap (·.arg)).length by have := kw.2.1.length_eq; simpa using this]
  exact z3
end
end VS
namespace VS
open PySem PySem.Spec PyProof.Rows L2
/-! ## built-in functions by name -/
def bltTab : List (Str × Value × BfO) := [
  ("len", .builtin "len", bfD bfLen), ("abs", .builtin "abs", bfD bfAbs), ("max", .builtin "max", bfD bfMax), ("min", .builtin "min", bfD bfMin), ("sum", .builtin "sum", bfD bfSum),
  ("all", .builtin "all", bfD (bfAll (·.all id))), ("any", .builtin "any", bfD (bfAll (·.any id))), ("int", .type "int", bfD bfInt), ("str", .type "str", bfD bfStr), ("list", .type "list", bfD bfList), ("tuple", .type "tuple", bfD bfTup),
  ("sorted", .builtin "sorted", bfD bfSort), ("repr", .builtin "repr", bfRepr)]
def isBT : Value → Bool
  | .builtin _ => true
  | .type _ => true
  | _ => false
theorem bltTab_ok : ∀ e ∈ bltTab, bootBuiltins e.1 = some e.2.1 ∧ isBT e.2.1 = true ∧ CallB e.2.1 e.2.2 := by
  intro e h
  simp only [bltTab, List.mem_cons, List.not_mem_nil, or_false] at h
  rcases h with rfl | rfl | rfl | rfl | rfl | rfl | rfl | rfl | rfl | rfl | rfl | rfl | rfl
  · exact ⟨rfl, rfl, len_b⟩
  · exact ⟨rfl, rfl, abs_b⟩
  · exact ⟨rfl, rfl, max_b⟩
  · exact ⟨rfl, rfl, min_b⟩
  · exact ⟨rfl, rfl, sum_b⟩
  · exact ⟨rfl, rfl, all_b⟩
  · exact ⟨rfl, rfl, any_b⟩
  · exact ⟨rfl, rfl, int_b⟩
  · exact ⟨rfl, rfl, str_b⟩
  · exact ⟨rfl, rfl, list_b⟩
  · exact ⟨rfl, rfl, tup_b⟩
  · exact ⟨rfl, rfl, sort_b⟩
  · exact ⟨rfl, rfl, repr_b⟩
def bltOf (x : Str) : Option (Value × BfO) := (bltTab.find? fun e => e.1 == x).map (·.2)
theorem bltOf_at {x : Str} {f : Value} {bf : BfO} (h : bltOf x = some (f, bf)) : bootBuiltins x = some f ∧ isBT f = true ∧ CallB f bf := by
  obtain ⟨e, h1, h2⟩ := Option.map_eq_some_iff.mp h
  have hm := List.mem_of_find?_eq_some h1
  have hx := List.find?_some h1
  obtain rfl : e.1 = x := by simpa using hx
  have q := bltTab_ok e hm
  rw [h2] at q
  exact q
section
variable {Γ : Sg} {sc : Scope} {k : Nat} {e : Expr} {es : List Expr} {t : DE} {ops : List Opd} {x : Str} {p pos : Pos}
theorem plainName_d {x : Str} (h : plainName x = true) : (x == ("__debug__" : Str)) = false := plainName_1 h
theorem VE.callB {f : Value} {bf : BfO} (g : isGl sc x = true) (hb : Γ.blt x = true) (ht : bltOf x = some (f, bf)) (pn : plainName x = true) (ha : VA Γ sc k (e :: es) ops) (hs : (e :: es).all noStar = true) : VE Γ sc k (.Call (.Name x p) (e :: es) [] pos) (vPure ops bf) := by
  refine ⟨vPure_mono ha.1, fun X W ok tk => ?_⟩
  obtain ⟨h1, h2, h3⟩ := bltOf_at ht
  obtain ⟨r, c, pr⟩ := h3 X ok.calm (room65 ok.room) ok.gd
  have ns : noStar e = true ∧ es.all noStar = true := by simpa using hs
  have go : PE X (.Call (.Name x p) (e :: es) [] pos) (tCB r (tas X.mg W ops)) := by
    cases f with
    | builtin id => exact pe_callB c (ok.gl x (isGl_at g)) (ok.g.blt x hb) h1 (ha.2 X W ok tk) (plainName_3 pn) (plainName_1 pn) (starEach_cons ns.1) (backTo_plain ns.2)
    | type T => exact pe_callTy c (ok.gl x (isGl_at g)) (ok.g.blt x hb) h1 (ha.2 X W ok tk) (plainName_3 pn) (plainName_1 pn) (starEach_cons ns.1) (backTo_plain ns.2)
    | _ => cases h2
  exact go.impV fun σ H Q q => vPure_run ha.1 pr q
/-! ### built-in classes as values -/
def tyTab : List (Str × String) := [("str", "str"), ("int", "int"), ("bool", "bool"), ("list", "list"), ("tuple", "tuple"), ("dict", "dict"), ("ValueError", "ValueError"), ("TypeError", "TypeError")]
theorem tyTab_ok : ∀ e ∈ tyTab, bootBuiltins e.1 = some (.type e.2) := by
  intro e h
  simp only [tyTab, List.mem_cons, List.not_mem_nil, or_false] at h
  rcases h with rfl | rfl | rfl | rfl | rfl | rfl | rfl | rfl <;> rfl
def tyOf (x : Str) : Option String := (tyTab.find? fun e => e.1 == x).map (·.2)
theorem tyOf_at {x : Str} {n : String} (h : tyOf x = some n) : bootBuiltins x = some (.type n) := by
  obtain ⟨e, h1, h2⟩ := Option.map_eq_some_iff.mp h
  have hx := List.find?_some h1
  obtain rfl : e.1 = x := by simpa using hx
  have q := tyTab_ok e (List.mem_of_find?_eq_some h1)
  rw [h2] at q
  exact q
theorem VE.ty {n : String} (g : isGl sc x = true) (hb : Γ.blt x = true) (h : tyOf x = some n) (pn : plainName x = true) : VE Γ sc k (.Name x pos) (vC (.val (.ty n))) :=
  ⟨vC_mono, fun X W ok tk => (pe_bltn (v := .ty n) (ok.gl x (isGl_at g)) (ok.g.blt x hb) (tyOf_at h) rfl (plainName_3 pn) (plainName_1 pn)).impV fun _ _ _ => vC_run fun _ => .val⟩
/-! ### displays -/
def vFz (t : DE) : DE := fun E c Q => t E c fun o c1 => Q (.fz o.view) c1
theorem vFz_mono (m : Mono t) : Mono (vFz t) := fun E E' c Q Q' hE hQ h => m _ _ _ _ _ hE (fun o c q => hQ _ _ q) h
theorem VE.frz (h : VE Γ sc k e t) : VE Γ sc k e (vFz t) := ⟨vFz_mono h.1, fun X W ok tk => (h.2 X W ok tk).impV fun σ H Q ⟨c, G, vsL, osL, sl, sp, q⟩ => by
  refine liftE.of h.1 sl sp q (fun _ _ _ q => q) fun o c' v H' G' g sl' sp' q => ?_
  obtain ⟨G2, g2, s2⟩ := sp'.freeze
  exact q v H' G2 (g.trans g2) sl' s2⟩
/-- all frozen -/
def unfzs : List O → Option (List D)
  | [] => some []
  | .fz d :: r => (unfzs r).map (d :: ·)
  | .own _ _ :: _ => none
theorem unfzs_map : ∀ ds : List D, unfzs (ds.map O.fz) = some ds
  | [] => rfl
  | d :: ds => by rw [List.map_cons, unfzs, unfzs_map ds]; rfl
theorem unfzs_some : ∀ {os : List O} {ds : List D}, unfzs os = some ds → os = ds.map O.fz
  | [], ds, h => by cases h; rfl
  | .fz d :: r, ds, h => by
    obtain ⟨e, he, rfl⟩ := Option.map_eq_some_iff.mp h
    rw [List.map_cons, ← unfzs_some he]
  | .own _ _ :: _, _, h => by cases h
/-- a tuple of frozen parts is frozen -/
def mkT (os : List O) : O := match unfzs os with
  | some ds => .fz (.nd .tup ds)
  | none => .own .tup os
def vTup (ops : List Opd) : DE := fun E c Q => evOps ops E c fun os c1 => os.length ≤ sizeLine ∧ Q (mkT os) c1
def vLst (ops : List Opd) : DE := fun E c Q => evOps ops E c fun os c1 => os.length ≤ sizeLine ∧ Q (.own .lst os) c1
theorem vTup_mono (m : MonoO ops) : Mono (vTup ops) := fun E E' c Q Q' hE hQ h => evOps_mono m _ _ _ _ _ hE (fun o c q => ⟨q.1, hQ _ _ q.2⟩) h
theorem vLst_mono (m : MonoO ops) : Mono (vLst ops) := fun E E' c Q Q' hE hQ h => evOps_mono m _ _ _ _ _ hE (fun o c q => ⟨q.1, hQ _ _ q.2⟩) h
theorem VE.tup {kk : Nat} (ha : VA Γ sc k es ops) (ex : ops.all isEx = true) : VE Γ sc k (.Tuple es kk pos) (vTup ops) :=
  ⟨vTup_mono ha.1, fun X W ok tk => (pe_tup (ha.2 X W ok tk)).impV fun σ H Q ⟨c, G, vsL, osL, sl, sp, q⟩ => by
    refine ops_run ha.1 sl sp (evOps_len ex ha.1 q) (fun _ _ _ q => q) fun ts c' tvs H' G' g sl' ht sp' ⟨hlen, hz, k⟩ => ?_
    rw [mergeV_ex ex (by rw [ht, hlen])]
    refine ⟨by rw [ht]; exact hz, fun p hp => ?_⟩
    have s2 := SepA.makeT sp' hp ht
    unfold mkT at k
    cases e : unfzs ts with
    | some ds =>
      rw [e] at k
      obtain ⟨G2, g2, s3⟩ := s2.freeze
      have ev : (O.own .tup ts).view = .nd .tup ds := by rw [unfzs_some e, O.view_fzs]
      rw [ev] at s3
      exact k _ _ G2 (g.trans g2) sl' s3
    | none =>
      rw [e] at k
      exact k _ _ G' g sl' s2⟩
theorem VE.lst (ha : VA Γ sc k es ops) (ex : ops.all isEx = true) : VE Γ sc k (.List es pos) (vLst ops) :=
  ⟨vLst_mono ha.1, fun X W ok tk => (pe_lst (ha.2 X W ok tk)).impV fun σ H Q ⟨c, G, vsL, osL, sl, sp, q⟩ => by
    refine ops_run ha.1 sl sp (evOps_len ex ha.1 q) (fun _ _ _ q => q) fun ts c' tvs H' G' g sl' ht sp' ⟨hlen, hz, k⟩ => ?_
    rw [mergeV_ex ex (by rw [ht, hlen])]
    exact ⟨by rw [ht]; exact hz, fun p hp => k _ _ G' g sl' (SepA.make sp' hp ht rfl rfl)⟩⟩
/-! ### isinstance -/
def tyD (cl : Addr → Bool) : D → Option Value
  | .non => some (.type "NoneType")
  | .bl _ => some (.type "bool")
  | .int _ => some (.type "int")
  | .str _ => some (.type "str")
  | .nd t _ => match t with
    | .lst => some (.type "list")
    | .scr _ => some (.type "list")
    | .tup => some (.type "tuple")
    | .dK _ => some (.type "dict")
    | .dT _ => none
    | .ins C _ => if cl C = true then some (.ref C) else none
    | _ => none
  | _ => none
def clsV : D → Option (V × Value)
  | .val (.ty n) => some (.ty n, .type n)
  | .val (.ref C) => some (.ref C, .ref C)
  | _ => none
def kit1 (kt : Value → Value → Option Bool) (t u : Value) : Option Bool := match t, u with
  | .type a, .type b => kitB a b
  | _, _ => kt t u
def kits (kt : Value → Value → Option Bool) (t : Value) : List D → Option Bool
  | [] => some false
  | d :: ds => (clsV d).bind fun c => (kit1 kt t c.2).bind fun b => if b = true then (kits kt t ds).map fun _ => true else kits kt t ds
def bfIsi (kt : Value → Value → Option Bool) (cl : Addr → Bool) : Bf := fun ds => match ds with
  | [d, .nd .tup cs] => (tyD cl d).bind fun t => (kits kt t cs).map fun b => .fz (.bl b)
  | [d, u] => (tyD cl d).bind fun t => (clsV u).bind fun c => (kit1 kt t c.2).map fun b => .fz (.bl b)
  | _ => none
theorem tyD_at {X : Cx} {G H : Hp} {v : V} {d : D} {t : Value} (g : GOk Γ X.prog X.w X.K X.mg X.base k) (s : Sw G H v d) (h : tyD Γ.cls d = some t) : TyX X.K H v t := by
  cases d with
  | non => cases h; obtain rfl := sw_non s; exact .base .non
  | bl b => cases h; obtain rfl := sw_bl s; exact .base (.bl _)
  | int i => cases h; obtain rfl := sw_int s; exact .base (.int _)
  | str x => cases h; obtain rfl := sw_str s; exact .base (.str _)
  | nd tg ds =>
    obtain ⟨a, o, vs, rfl, ha, sh, r⟩ := s
    cases tg with
    | lst => cases h; obtain rfl := sh.ex rfl; exact .base (.lst ha)
    | scr ob => cases h; obtain rfl := sh.ex rfl; exact .base (.frz ha)
    | tup => cases h; obtain rfl := sh.ex rfl; exact .base (.tup ha)
    | dK ks =>
      cases h
      obtain ⟨_, hd⟩ := sh.dK
      rcases hd with rfl | ⟨ob, rfl⟩
      · exact .base (.dK ha)
      · exact .fDict ha
    | dT ks => cases h
    | lkK _ _ _ => cases h
    | lkT _ _ _ => cases h
    | opq _ => cases h
    | ins C fs =>
      unfold tyD at h
      dsimp only at h
      split at h
      · rename_i hc
        cases h
        obtain ⟨_, dx, rfl⟩ := sh.ex rfl
        obtain ⟨q1, q2, q3, q4, q5⟩ := g.cls C hc
        exact .base (.ins ha q1 q2 q3 q4 q5)
      · cases h
  | _ => cases h
theorem clsV_at {G : Hp} {v c : V} {d : D} {u : Value} (r : Rp G v d) (h : clsV d = some (c, u)) : v = c ∧ ClsV c u := by
  unfold clsV at h
  split at h
  · cases h; cases r; exact ⟨rfl, .ty _⟩
  · cases h; cases r; exact ⟨rfl, .own _⟩
  · cases h
theorem clsV_sw {G H : Hp} {v c : V} {d : D} {u : Value} (r : Sw G H v d) (h : clsV d = some (c, u)) : v = c ∧ ClsV c u := by
  refine clsV_at (G := G) (d := d) ?_ h
  unfold clsV at h
  split at h
  · exact r
  · exact r
  · cases h
theorem kit1_at {X : Cx} {t u : Value} {b : Bool} (g : GOk Γ X.prog X.w X.K X.mg X.base k) (h : kit1 Γ.kit t u = some b) : PySem.W.kitOne X.K t u = some b := by
  unfold kit1 at h
  split at h
  · exact kit_ty h
  · exact g.kit _ _ _ h
theorem kits_at {X : Cx} {G : Hp} {t : Value} (g : GOk Γ X.prog X.w X.K X.mg X.base k) : ∀ {ds : List D} {vs : List V} {b : Bool}, Rps G vs ds → kits Γ.kit t ds = some b → ∃ us, Paired ClsV vs us ∧ PySem.W.kitAny X.K t us = some b
  | _, _, _, .nil, h => by cases h; exact ⟨[], .nil, kitAny_nil⟩
  | _, _, _, .cons a r, h => by
    obtain ⟨⟨c, u⟩, h1, h⟩ := Option.bind_eq_some_iff.mp h
    obtain ⟨b1, h2, h⟩ := Option.bind_eq_some_iff.mp h
    obtain ⟨rfl, h3⟩ := clsV_at a h1
    cases b1 with
    | true =>
      obtain ⟨b2, h4, rfl⟩ := Option.map_eq_some_iff.mp h
      obtain ⟨us, h5, h6⟩ := kits_at g r h4
      exact ⟨u :: us, .cons h3 h5, kitAny_cons (kit1_at g h2) (fun z => by cases z) (fun _ => rfl)⟩
    | false =>
      obtain ⟨us, h5, h6⟩ := kits_at g r h
      exact ⟨u :: us, .cons h3 h5, kitAny_cons (kit1_at g h2) (fun _ => h6) (fun z => by cases z)⟩
theorem VE.isi {a b : Expr} {oa ob' : Opd} (g : isGl sc "isinstance" = true) (hb : Γ.blt "isinstance" = true) (ha : VA Γ sc k [a, b] [oa, ob']) (hs : [a, b].all noStar = true) : VE Γ sc k (.Call (.Name "isinstance" p) [a, b] [] pos) (vPure [oa, ob'] (bfD (bfIsi Γ.kit Γ.cls))) := by
  refine ⟨vPure_mono ha.1, fun X W ok tk => ?_⟩
  have ns : noStar a = true ∧ [b].all noStar = true := by simpa using hs
  refine (pe_callB (call_isi.or call_isiT) (ok.gl _ (isGl_at g)) (ok.g.blt _ hb) rfl (ha.2 X W ok tk) (by decide) (by decide) (starEach_cons ns.1) (backTo_plain ns.2)).impV fun σ H Q q => ?_
  show tas X.mg W [oa, ob'] σ H fun vs H1 => (rIsi X.K vs H1 Q ∨ rIsiT X.K vs H1 Q)
  refine vPure_run (r := fun vs H1 Q => rIsi X.K vs H1 Q ∨ rIsiT X.K vs H1 Q) ha.1 (PureR.up fun G H vs ds o Q gs s e q => ?_) q
  unfold bfIsi at e
  split at e
  · obtain ⟨t, h1, e⟩ := Option.bind_eq_some_iff.mp e
    obtain ⟨b, h2, rfl⟩ := Option.map_eq_some_iff.mp e
    obtain ⟨x, y, rfl, hx, hy⟩ := sws2 s
    obtain ⟨ap, cs, rfl, hp, r⟩ := sw_tup hy
    obtain ⟨us, h3, h4⟩ := kits_at ok.g r h2
    exact .inr ⟨x, ap, cs, t, us, b, rfl, hp, h3, tyD_at ok.g hx h1, h4, q _ _ _ (.old .bl)⟩
  · obtain ⟨t, h1, e⟩ := Option.bind_eq_some_iff.mp e
    obtain ⟨⟨c, u⟩, h2, e⟩ := Option.bind_eq_some_iff.mp e
    obtain ⟨b, h3, rfl⟩ := Option.map_eq_some_iff.mp e
    obtain ⟨x, y, rfl, hx, hy⟩ := sws2 s
    obtain ⟨rfl, h4⟩ := clsV_sw hy h2
    exact .inl ⟨x, _, t, u, b, rfl, h4, tyD_at ok.g hx h1, kit1_at ok.g h3, q _ _ _ (.old .bl)⟩
  · cases e
/-! ### minus -/
def bfNeg : Bf := fun ds => match ds with
  | [.int i] => some (.fz (.int (-i)))
  | _ => none
theorem VE.neg {o : Opd} (h : VO Γ sc k e o) : VE Γ sc k (.UnaryOp .USub e pos) (vPure [o] (bfD bfNeg)) := by
  refine ⟨vPure_mono h.1, fun X W ok tk => ?_⟩
  refine (pe_un un_neg (h.2 X W ok tk)).impV fun σ H Q q => ?_
  refine unone1 (vPure_run (r := fun vs H Q => ∃ x, vs = [x] ∧ rU (fun i => .int (-i)) x H Q) h.1 (PureR.up fun G H vs ds o Q gs s e q => ?_) q)
  unfold bfNeg at e
  split at e
  · cases e
    obtain ⟨x, rfl, hx⟩ := sws1 s
    obtain rfl := sw_int hx
    exact ⟨_, rfl, _, rfl, q _ _ _ (.old .int)⟩
  · cases e
end
end VS
namespace VS
open PySem PySem.Spec PyProof.Rows L2
/-! ## into an owned thing and back -/
section
variable {A : List Addr} {G G' H H' : Hp} {vs ws : List V} {os ps : List O} {v w : V} {o : O} {a : Addr} {i j : Nat} {t : Tag}
theorem Ows.know : ∀ {vs : List V} {os : List O} {F : List Addr} {i : Nat} {v : V}, Ows G H vs os F → os[i]? = some O.bad → vs[i]? = some v → Ows G H vs (os.set i (.fz (.val v))) F
  | _, _, _, i, _, .nil, h, _ => by simp at h
  | _, _, _, 0, _, .cons a r, h, hv => by
    simp only [List.getElem?_cons_zero, Option.some.injEq] at h hv
    subst h hv
    cases a
    exact .cons (.fz .val) r
  | _, _, _, i + 1, _, .cons a r, h, hv => .cons a (Ows.know (i := i) r (by simpa using h) (by simpa using hv))
theorem SepA.know (s : SepA A G H vs os) (h : os[i]? = some O.bad) (hv : vs[i]? = some v) : SepA A G H vs (os.set i (.fz (.val v))) := by
  obtain ⟨F, h0, r⟩ := s
  exact ⟨F, h0.know h hv, r⟩
theorem upd_self {H : Hp} {a : Addr} {o : HO} (h : H a = some o) : upd H a o = H := by
  funext b
  by_cases e : b = a
  · subst e; rw [upd_same, h]
  · rw [upd_ne e]
/-- closed as it was -/
theorem SepA.shut {ob : HO} (s : SepA (a :: A) G H (ws ++ vs) (ps ++ os)) (hl : ws.length = ps.length) (ha : H a = some ob) (sh : Shape t ws ob) (m : t.mut = true) : SepA A G H (.ref a :: vs) (.own t ps :: os) := by
  have q := SepA.close s hl sh m
  rw [upd_self ha] at q
  exact q
theorem cells_mut (m : t.mut = true) : cells t a = [a] := by unfold cells; rw [m]; rfl
/-- the j-th part of the i-th is taken out -/
theorem SepA.dive (s : SepA A G H vs os) (hi : os[i]? = some (.own t ps)) (hj : ps[j]? = some o) (m : t.mut = true) :
    ∃ a ob ws w, vs[i]? = some (.ref a) ∧ H a = some ob ∧ Shape t ws ob ∧ ws.length = ps.length ∧ ws[j]? = some w ∧ SepA A G H (w :: vs) (o :: os.set i (.own t (ps.set j (.fz (.val w))))) := by
  obtain ⟨v, hv, s1⟩ := s.take hi
  obtain ⟨a, ob, ws, rfl, ha, sh, hl, s2⟩ := s1.open_
  rw [cells_mut m] at s2
  have hjl : j < ps.length := (List.getElem?_eq_some_iff.mp hj).1
  obtain ⟨w, hw, s3⟩ := s2.take (getElem?_app hj)
  have hw' : ws[j]? = some w := by rw [List.getElem?_append_left (by omega)] at hw; exact hw
  rw [set_app hjl] at s3
  have s4 := SepA.know (i := j + 1) (v := w) s3 (by rw [List.getElem?_cons_succ, List.getElem?_append_left (by simp [hjl])]; simp [hjl]) (by rw [List.getElem?_cons_succ]; exact hw)
  rw [List.set_cons_succ, set_app (by simp [hjl]), List.set_set] at s4
  have s5 : SepA ([a] ++ A) G H (ws ++ (w :: vs)) (ps.set j (.fz (.val w)) ++ (o :: os.set i O.bad)) := SepA.one s4 (by simp [hl])
  have s6 := (SepA.shut (t := t) s5 (by simp [hl]) ha sh m).swap
  have hil : i < os.length := (List.getElem?_eq_some_iff.mp hi).1
  refine ⟨a, ob, ws, w, hv, ha, sh, hl, hw', ?_⟩
  have s7 := SepA.put (i := i + 1) s6.swap (by simp [hil]) (by rw [List.getElem?_cons_succ]; exact hv)
  rw [List.set_cons_succ, List.set_set] at s7
  exact s7
/-- .. and comes back -/
theorem SepA.rise (s : SepA A G H (w :: vs) (o :: os)) (hi : os[i]? = some (.own t ps)) (hj : ps[j]? = some (.fz (.val w))) (m : t.mut = true) : SepA A G H vs (os.set i (.own t (ps.set j o))) := by
  have hil : i < os.length := (List.getElem?_eq_some_iff.mp hi).1
  obtain ⟨v, hv, s1⟩ := SepA.take (i := i + 1) s (by rw [List.getElem?_cons_succ]; exact hi)
  rw [List.getElem?_cons_succ] at hv
  rw [List.set_cons_succ] at s1
  obtain ⟨a, ob, ws, rfl, ha, sh, hl, s2⟩ := s1.open_
  rw [cells_mut m] at s2
  have hjl : j < ps.length := (List.getElem?_eq_some_iff.mp hj).1
  -- the value that stands there
  obtain ⟨w', hw', rw', _⟩ := s2.copy (getElem?_app hj)
  cases rw'
  have hws : ws[j]? = some w := by rw [List.getElem?_append_left (by omega)] at hw'; exact hw'
  have s3 := SepA.drop (i := j) s2
  rw [set_app hjl] at s3
  have s4 : SepA ([a] ++ A) G H (w :: (ws ++ vs)) (o :: (ps.set j O.bad ++ os.set i O.bad)) := SepA.unone s3 (by simp [hl])
  have s5 := SepA.put (i := j) s4 (by rw [List.getElem?_append_left (by simp [hjl])]; simp [hjl]) (by rw [List.getElem?_append_left (by omega)]; exact hws)
  rw [set_app (by simp [hjl]), List.set_set] at s5
  have s6 := SepA.shut (t := t) s5 (by simp [hl]) ha sh m
  have s7 := SepA.put (i := i) s6 (by simp [hil]) hv
  rw [List.set_set] at s7
  exact s7
end
/-! ## methods -/
abbrev Mf := O → List O → Option (O × O)
def MutR (r : V → List V → Hp → VK → Prop) (mf : Mf) : Prop := ∀ (G H : Hp) (x : V) (xs vs : List V) (o : O) (as os : List O) (p : O × O) (Q : VK), xs.length = as.length → Sep G H (x :: (xs ++ vs)) (o :: (as ++ os)) → mf o as = some p →
  (∀ v H' G', Same G G' → Sep G' H' (v :: x :: vs) (p.2 :: p.1 :: os) → Q v H') → r x xs H Q
/-- a method that looks only -/
def mfP (bf : BfO) : Mf := fun o as => (bf (o :: as)).map fun r => (o, r)
theorem PureO.mut {r : V → List V → Hp → VK → Prop} {bf : BfO} (h : PureO (fun vs H Q => ∃ x xs, vs = x :: xs ∧ r x xs H Q) bf) : MutR r (mfP bf) := fun G H x xs vs o as os p Q hl s e q => by
  obtain ⟨res, h1, rfl⟩ := Option.map_eq_some_iff.mp e
  have s' : Sep G H ((x :: xs) ++ vs) ((o :: as) ++ os) := s
  obtain ⟨F, h0, nd, hG, hA, g⟩ := s'
  obtain ⟨F1, F2, rfl, q1, q2⟩ := h0.split (by simp [hl])
  obtain ⟨x', xs', e1, z⟩ := h G H (x :: xs) (o :: as) F1 res Q g q1 h1 fun v H' G' nw => by
    have s2 := nw.2 _ _ _ s
    have s3 : Sep G' H' ([v, x] ++ (xs ++ vs)) ([res, o] ++ (as ++ os)) := s2
    have s4 := SepA.rot (ws := [v, x]) (ps := [res, o]) (vs2 := xs) (os2 := as) s3 rfl hl
    exact q v H' G' nw.1 (dropN hl s4)
  cases e1
  exact z
theorem PureR.mut {r : V → List V → Hp → VK → Prop} {b : Bf} (h : PureR (fun vs H Q => ∃ x xs, vs = x :: xs ∧ r x xs H Q) b) : MutR r (mfP (bfD b)) := h.up.mut
def orM (a b : Mf) : Mf := fun o as => match a o as with
  | some p => some p
  | none => b o as
theorem MutR.or {r r' : V → List V → Hp → VK → Prop} {a b : Mf} (h : MutR r a) (h' : MutR r' b) : MutR (fun x xs H Q => r x xs H Q ∨ r' x xs H Q) (orM a b) := fun G H x xs vs o as os p Q hl s e q => by
  unfold orM at e
  split at e
  · rename_i e'
    cases e
    exact .inl (h G H x xs vs o as os _ Q hl s e' q)
  · exact .inr (h' G H x xs vs o as os p Q hl s e q)
/-- what the rules say of a built-in type's method -/
structure MethOk (T : String) (name : Str) (mf : Mf) : Prop where
  pa : PlainAttrs T
  ex : ∃ id, Slot T name id ∧ typeOf (.builtin id) = pure (.type "method_descriptor") ∧ ∀ X : Cx, X.calm = true → X.A.units + 65 < cLine → ∃ r, MtR X id r ∧ MutR r mf
theorem mtm {X : Cx} {id : String} {r : V → List V → Hp → VK → Prop} (h : MtM X id r) : MtR X id r := h
/-! ### lists -/
section
variable {G H : Hp} {x : V} {o : O}
theorem sep_lst {os' : List O} {vs : List V} {os : List O} (s : Sep G H (x :: vs) (.own .lst os' :: os)) : ∃ a ws, x = .ref a ∧ H a = some (.lst ws) ∧ ws.length = os'.length ∧ SepA [a] G H (ws ++ vs) (os' ++ os) := by
  obtain ⟨a, ob, ws, rfl, ha, sh, hl, s2⟩ := SepA.open_ s
  cases sh
  exact ⟨a, ws, rfl, ha, hl, s2⟩
end
def mfAppend : Mf := fun o as => match o, as with
  | .own .lst os, [y] => if os.length < sizeLine then some (.own .lst (os ++ [y]), .fz .non) else none
  | _, _ => none
theorem append_m : MethOk "list" "append" mfAppend := ⟨F.plainAttrs_list, _, F.slot_list_append, F.type_list_append, fun X c u => ⟨_, mtm mt_append, fun G H x xs vs o as os p Q hl s e q => by
  unfold mfAppend at e
  split at e
  · rename_i os' y
    split at e
    · cases e
      match xs, hl with
      | [y'], _ =>
        obtain ⟨a, ws, rfl, ha, hw, s2⟩ := sep_lst s
        refine ⟨a, ws, y', rfl, rfl, ha, by rw [hw]; assumption, ?_⟩
        have s3 : SepA [a] G H ((ws ++ [y']) ++ vs) ((os' ++ [y]) ++ os) := by
          rw [List.append_assoc, List.append_assoc]; exact s2
        exact q _ _ G (Same.refl _) ((SepA.close (t := .lst) s3 (by simp [hw]) rfl rfl).cons .non)
    · cases e
  · cases e⟩⟩
/-- the parts of what is put in -/
def partsOf : O → Option (List O)
  | .own .lst os => some os
  | .fz (.nd .lst ds) => some (ds.map O.fz)
  | _ => none
def mfExtend : Mf := fun o as => match o, as with
  | .own .lst os, [y] => (partsOf y).bind fun ps => if os.length + ps.length ≤ sizeLine then some (.own .lst (os ++ ps), .fz .non) else none
  | _, _ => none
theorem extend_m : MethOk "list" "extend" mfExtend := ⟨F.plainAttrs_list, _, F.slot_list_extend, F.type_list_extend, fun X c u => ⟨_, mtm mt_extend, fun G H x xs vs o as os p Q hl s e q => by
  unfold mfExtend at e
  split at e
  · rename_i os' y
    obtain ⟨ps, h1, e⟩ := Option.bind_eq_some_iff.mp e
    split at e
    · rename_i hle
      cases e
      match xs, hl with
      | [y'], _ =>
        unfold partsOf at h1
        split at h1
        · cases h1
          have s' : Sep G H (y' :: x :: vs) (.own .lst ps :: .own .lst os' :: os) := SepA.swap s
          obtain ⟨b, zs, rfl, hb, hz, s2⟩ := sep_lst s'
          have s3 : SepA [b] G H (x :: (zs ++ vs)) (.own .lst os' :: (ps ++ os)) := SepA.unone s2 hz
          obtain ⟨a, ob, ws, rfl, ha, sh, hw, s4⟩ := SepA.open_ s3
          cases sh
          refine ⟨a, b, ws, zs, rfl, rfl, ha, hb, by rw [hw, hz]; assumption, ?_⟩
          have s5 : SepA (a :: [b]) G H ((ws ++ zs) ++ vs) ((os' ++ ps) ++ os) := by
            rw [List.append_assoc, List.append_assoc]; exact s4
          have s6 := SepA.close (t := .lst) s5 (by simp [hw, hz]) rfl rfl
          refine q _ _ G (Same.refl _) (SepA.cons ?_ .non)
          obtain ⟨F, h0, nd, hG, hA, g⟩ := s6
          exact ⟨F, h0, by simpa using (List.nodup_append.mp nd).2.1, fun c hc => hG c (List.mem_append_right _ hc), (fun c hc => by cases hc), g⟩
        · rename_i ds _
          cases h1
          have s' : Sep G H (y' :: x :: vs) (.fz (.nd .lst ds) :: .own .lst os' :: os) := SepA.swap s
          have ry := s'.rp
          cases ry with
          | @nd b ob _ zs _ hb sh r =>
            obtain rfl := sh.ex rfl
            obtain ⟨a, ws, rfl, ha, hw, s2⟩ := sep_lst s'.tail
            have hz := r.length
            refine ⟨a, b, ws, zs, rfl, rfl, ha, s'.same.ex hb id, by rw [hw, hz]; simpa using hle, ?_⟩
            have s3 := s2.conss r
            have s4 := SepA.rot (ws := zs) (ps := ds.map O.fz) (vs2 := ws) (os2 := os') s3 (by rw [List.length_map]; exact hz) hw
            have s5 : SepA [a] G H ((ws ++ zs) ++ vs) ((os' ++ ds.map O.fz) ++ os) := by
              rw [List.append_assoc, List.append_assoc]; exact s4
            exact q _ _ G (Same.refl _) ((SepA.close (t := .lst) s5 (by simp [hw, hz]) rfl rfl).cons .non)
        · cases h1
    · cases e
  · cases e⟩⟩
theorem Ows.erase {G H : Hp} : ∀ {vs : List V} {os : List O} {F : List Addr} {i : Nat} {o : O}, Ows G H vs os F → os[i]? = some o → ∃ v F1 F2, vs[i]? = some v ∧ Ow G H v o F1 ∧ Ows G H (vs.eraseIdx i) (os.eraseIdx i) F2 ∧ F.Perm (F1 ++ F2)
  | _, _, _, i, o, .nil, h => by simp at h
  | _, _, _, 0, o, .cons a r, h => by
    obtain rfl : _ = o := by simpa using h
    exact ⟨_, _, _, rfl, a, r, List.Perm.refl _⟩
  | _, _, _, i + 1, o, .cons (F1 := G1) a r, h => by
    obtain ⟨v, F1, F2, h1, h2, h3, h4⟩ := Ows.erase (i := i) (o := o) r (by simpa using h)
    refine ⟨v, F1, G1 ++ F2, by simpa using h1, h2, .cons a h3, ?_⟩
    refine (List.Perm.append_left _ h4).trans ?_
    rw [← List.append_assoc, ← List.append_assoc]
    exact List.Perm.append_right _ List.perm_append_comm
theorem SepA.takeN {A : List Addr} {G H : Hp} {ws vs : List V} {ps os : List O} {i : Nat} {o : O} (s : SepA A G H (ws ++ vs) (ps ++ os)) (hl : ws.length = ps.length) (h : ps[i]? = some o) : ∃ v, ws[i]? = some v ∧ SepA A G H (v :: (ws.eraseIdx i ++ vs)) (o :: (ps.eraseIdx i ++ os)) := by
  obtain ⟨F, h0, nd, hG, hA, g⟩ := s
  obtain ⟨F1, F2, rfl, q1, q2⟩ := h0.split hl
  obtain ⟨v, F3, F4, e1, e2, e3, e4⟩ := q1.erase h
  refine ⟨v, e1, .perm (F' := F3 ++ (F4 ++ F2)) ?_ (.cons e2 (e3.append q2)) nd hG hA g⟩
  rw [← List.append_assoc]
  exact e4.append_right _
def mfPop0 : Mf := fun o as => match o, as with
  | .own .lst os, [] => (os[os.length - 1]?).map fun y => (.own .lst os.dropLast, y)
  | _, _ => none
def mfPop1 : Mf := fun o as => match o, as with
  | .own .lst os, [.fz (.int i)] => if -(2 ^ 63) ≤ i ∧ i < 2 ^ 63 then (ixN os.length i).bind fun k => (os[k]?).map fun y => (.own .lst (os.eraseIdx k), y) else none
  | _, _ => none
theorem eraseLast {α : Type} {xs : List α} (h : 0 < xs.length) : xs.dropLast = xs.eraseIdx (xs.length - 1) := by
  rw [List.eraseIdx_eq_dropLast (by omega)]
theorem pop0_r : MutR rPop mfPop0 := fun G H x xs vs o as os p Q hl s e q => by
  unfold mfPop0 at e
  split at e
  · rename_i os'
    obtain ⟨y, h1, rfl⟩ := Option.map_eq_some_iff.mp e
    match xs, hl with
    | [], _ =>
      obtain ⟨a, ws, rfl, ha, hw, s2⟩ := sep_lst s
      have hn := (List.getElem?_eq_some_iff.mp h1).1
      obtain ⟨v, h2, s3⟩ := s2.takeN hw h1
      refine ⟨a, ws, v, rfl, rfl, ha, by rw [hw]; exact h2, ?_⟩
      have ew : ws.dropLast = ws.eraseIdx (os'.length - 1) := by rw [eraseLast (by omega), hw]
      have eo : os'.dropLast = os'.eraseIdx (os'.length - 1) := eraseLast (by omega)
      have s4 := SepA.one s3 (by rw [← ew, ← eo]; simp [hw])
      have s5 := SepA.close (t := .lst) s4 (by rw [← ew, ← eo]; simp [hw]) rfl rfl
      rw [← ew, ← eo] at s5
      exact q v _ G (Same.refl _) s5.swap
  · cases e
theorem pop1_r : MutR rPopAt mfPop1 := fun G H x xs vs o as os p Q hl s e q => by
  unfold mfPop1 at e
  split at e
  · rename_i os' i
    split at e
    · rename_i hi
      obtain ⟨k, h0, e⟩ := Option.bind_eq_some_iff.mp e
      obtain ⟨y, h1, rfl⟩ := Option.map_eq_some_iff.mp e
      match xs, hl with
      | [z], _ =>
        have s' : Sep G H (z :: x :: vs) (.fz (.int i) :: .own .lst os' :: os) := SepA.swap s
        have rz := s'.rp
        cases rz
        obtain ⟨a, ws, rfl, ha, hw, s2⟩ := sep_lst s'.tail
        have hk := (List.getElem?_eq_some_iff.mp h1).1
        obtain ⟨v, h2, s3⟩ := s2.takeN hw h1
        have hlen : (ws.eraseIdx k).length = (os'.eraseIdx k).length := by rw [List.length_eraseIdx_of_lt (by omega), List.length_eraseIdx_of_lt hk, hw]
        refine ⟨a, ws, i, k, v, rfl, rfl, ha, hi.1, hi.2, by rw [hw]; exact (ixN_seq h0).1, h2, ?_⟩
        have s4 := SepA.one s3 hlen
        have s5 := SepA.close (t := .lst) s4 hlen rfl rfl
        exact q v _ G (Same.refl _) s5.swap
    · cases e
  · cases e
def mfPop : Mf := orM mfPop0 mfPop1
theorem pop_m : MethOk "list" "pop" mfPop := ⟨F.plainAttrs_list, _, F.slot_list_pop, F.type_list_pop, fun X c u => ⟨_, MtR.or (mtm mt_pop) (mtm mt_popAt), MutR.or pop0_r pop1_r⟩⟩
def mfClear : Mf := fun o as => match o, as with
  | .own .lst _, [] => some (.own .lst [], .fz .non)
  | _, _ => none
theorem clear_m : MethOk "list" "clear" mfClear := ⟨F.plainAttrs_list, _, F.slot_list_clear, F.type_list_clear, fun X c u => ⟨_, mtm mt_clear, fun G H x xs vs o as os p Q hl s e q => by
  unfold mfClear at e
  split at e
  · rename_i os'
    cases e
    match xs, hl with
    | [], _ =>
      obtain ⟨a, ws, rfl, ha, hw, s2⟩ := sep_lst s
      refine ⟨a, ws, rfl, rfl, ha, ?_⟩
      exact q _ _ G (Same.refl _) ((SepA.close (t := .lst) (ws := []) (ps := []) (dropN hw s2) rfl rfl rfl).cons .non)
  · cases e⟩⟩
def mfInsert : Mf := fun o as => match o, as with
  | .own .lst os, [.fz (.int i), y] => if os.length < sizeLine ∧ 0 ≤ i ∧ i < 2 ^ 63 then some (.own .lst (os.take i.toNat ++ [y] ++ os.drop i.toNat), .fz .non) else none
  | _, _ => none
theorem insert_m : MethOk "list" "insert" mfInsert := ⟨F.plainAttrs_list, _, F.slot_list_insert, F.type_list_insert, fun X c u => ⟨_, mt_insert, fun G H x xs vs o as os p Q hl s e q => by
  unfold mfInsert at e
  split at e
  · rename_i os' i y
    split at e
    · rename_i hi
      cases e
      match xs, hl with
      | [z, w], _ =>
        have s' : Sep G H (z :: x :: w :: vs) (.fz (.int i) :: .own .lst os' :: y :: os) := SepA.swap s
        have rz := s'.rp
        cases rz
        obtain ⟨a, ws, rfl, ha, hw, s2⟩ := sep_lst s'.tail
        refine ⟨a, ws, i, w, rfl, rfl, ha, by rw [hw]; exact hi.1, hi.2.1, hi.2.2, ?_⟩
        have s3 : SepA [a] G H (w :: (ws ++ vs)) (y :: (os' ++ os)) := SepA.unone s2 hw
        have ht : (ws.take i.toNat).length = (os'.take i.toNat).length := by simp [hw]
        have s4 : SepA [a] G H (ws.take i.toNat ++ (w :: (ws.drop i.toNat ++ vs))) (os'.take i.toNat ++ (y :: (os'.drop i.toNat ++ os))) := SepA.one (by
          rw [← List.append_assoc, ← List.append_assoc, List.take_append_drop, List.take_append_drop]; exact s3) ht
        have s5 : SepA [a] G H ((ws.take i.toNat ++ [w] ++ ws.drop i.toNat) ++ vs) ((os'.take i.toNat ++ [y] ++ os'.drop i.toNat) ++ os) := by simpa using s4
        exact q _ _ G (Same.refl _) ((SepA.close (t := .lst) s5 (by simp [hw]) rfl rfl).cons .non)
    · cases e
  · cases e⟩⟩
/-! ### looking only -/
/-- the first place of an equal one -/
def findEq (p : PyData) : List PyData → Option Nat
  | [] => none
  | z :: zs => if PyData.eqv z p = true then some 0 else (findEq p zs).map (· + 1)
theorem findEq_at {p : PyData} : ∀ {zs : List PyData} {j : Nat}, findEq p zs = some j → ∃ z, zs[j]? = some z ∧ PyData.eqv z p = true ∧ ∀ m z', m < j → zs[m]? = some z' → PyData.eqv z' p = false
  | [], j, h => by cases h
  | z :: zs, j, h => by
    unfold findEq at h
    split at h
    · cases h
      exact ⟨z, rfl, by assumption, fun m z' hm => absurd hm (Nat.not_lt_zero _)⟩
    · rename_i ne
      obtain ⟨i, h1, rfl⟩ := Option.map_eq_some_iff.mp h
      obtain ⟨z', e1, e2, e3⟩ := findEq_at h1
      refine ⟨z', by simpa using e1, e2, fun m y hm hy => ?_⟩
      cases m with
      | zero =>
        simp only [List.getElem?_cons_zero, Option.some.injEq] at hy
        subst hy
        simpa using ne
      | succ m => exact e3 m y (by omega) (by simpa using hy)
def bfIndex : BfO := fun os => match os with
  | [x, y] => (shPD x.view).bind fun p => (shPD y.view).bind fun q => match p with
    | .list zs => (findEq q zs).map fun j => .fz (.int (j : Nat))
    | _ => none
  | _ => none
theorem toPD_list {d : D} {zs : List PyData} (h : toPD d = some (.list zs)) : isSeqD d = true := by
  cases d with
  | nd t ds => cases t <;> first | rfl | (obtain ⟨_, _, e⟩ := Option.map_eq_some_iff.mp h; cases e; done) | (cases h; done)
  | _ => first | (cases h; done) | (obtain ⟨_, _, e⟩ := Option.map_eq_some_iff.mp h; cases e; done)
theorem index_m : MethOk "list" "index" (mfP bfIndex) := ⟨F.plainAttrs_list, _, F.slot_list_index, F.type_list_index, fun X c u => ⟨_, mt_indexD u, PureO.mut fun G H vs os F o Q gs s e q => by
  unfold bfIndex at e
  split at e
  · obtain ⟨p, h1, e⟩ := Option.bind_eq_some_iff.mp e
    obtain ⟨p2, h2, e⟩ := Option.bind_eq_some_iff.mp e
    split at e
    · obtain ⟨j, h3, rfl⟩ := Option.map_eq_some_iff.mp e
      obtain ⟨x, y, rfl, hx, hy⟩ := rps2 (s.all gs)
      obtain ⟨a, rfl⟩ := isSeq_ref hx (toPD_list (shPD_at h1).1)
      obtain ⟨z, e1, e2, e3⟩ := findEq_at h3
      exact ⟨_, _, rfl, a, y, p2, _, j, z, rfl, rfl, hx.dp (Same.refl _) (shPD_at h1).1, hy.dp (Same.refl _) (shPD_at h2).1, (shPD_at h1).2, (shPD_at h2).2, e1, e2, e3, q _ _ _ (.old .int)⟩
    · cases e
  · cases e⟩⟩
/-- l.count(x), flat items -/
def rCntF (K : PySem.W.Frag) : V → List V → Hp → VK → Prop := fun x xs H Q => ∃ (p : Addr) (ys : List V) (y : V), x = .ref p ∧ xs = [y] ∧ SqL K H p ys ∧ flatV y = true ∧ ys.all flatV = true ∧ Q (.int (ys.countP fun z => eqV z y : Nat)) H
theorem cnt_eqU {x : V} : ∀ {xs : List V} {us : List Value}, Vals xs us → xs.all flatV = true → us.countP (eqU x) = xs.countP fun y => eqV y x
  | [], _, r, _ => by cases r; rfl
  | z :: xs, _, r, h => by
    cases r with
    | cons r1 r2 =>
      rw [List.all_cons, Bool.and_eq_true] at h
      rw [List.countP_cons, List.countP_cons, cnt_eqU r2 h.2, eqU_of r1 h.1]
theorem mt_countF {X : Cx} : MtR X "list.count" (rCntF X.K) := by
  rintro pins s σ H x xs v us Q I rx rxs ⟨p, ys, y, rfl, rfl, hs, fy, fys, q⟩
  cases rx
  cases rxs with
  | cons ry rt =>
    rename_i uy ut
    cases rt
    obtain ⟨its, rv, ⟨⟨cls, dd, data, sl⟩, n, ho, hc, hdn, hd⟩, _⟩ := I.list hs
    simp only at hc hd
    subst hc hd
    refine call_meets F.slot_list_count ⟨_, ho, rfl⟩ F.entry_list_count (F.args_list_count_2 _ _) (SeqAt.list_countAt p its.toArray n dd sl uy (eqU y)) ⟨ho, fun u hu => mem_eqAt ry fy rv fys u (by simpa using hu), ?_⟩
    refine ⟨.int (ys.countP fun z => eqV z y : Nat), H, I.tok _, ⟨s.toks, ?_⟩, q⟩
    show Value.int ((its.countP (eqU y) : Nat) : Int) s.toks = _
    rw [cnt_eqU rv fys]
theorem cnt_fl {G : Hp} {w : V} {e : D} (s : Rp G w e) (he : flatD e = true) : ∀ {vs : List V} {ds : List D}, Rps G vs ds → ds.all flatD = true → (vs.countP fun y => eqV y w) = ds.countP fun y => eqFl y e
  | _, _, .nil, _ => rfl
  | _, _, .cons a r, h => by
    rw [List.all_cons, Bool.and_eq_true] at h
    rw [List.countP_cons, List.countP_cons, eqFl_v a s h.1 he, cnt_fl s he r h.2]
def bfCount : Bf := fun ds => match ds with
  | [d, e] => (lstOf d).bind fun xs => if flatD e = true ∧ xs.all flatD = true then some (.fz (.int (xs.countP fun y => eqFl y e : Nat))) else none
  | _ => none
theorem sw_flat {G H : Hp} {v : V} {e : D} (s : Sw G H v e) (he : flatD e = true) : Rp G v e := by
  cases e <;> first | exact s | cases he
theorem count_m : MethOk "list" "count" (mfP (bfD bfCount)) := ⟨F.plainAttrs_list, _, F.slot_list_count, F.type_list_count, fun X c u => ⟨_, mt_countF, PureR.mut fun G H vs ds o Q gs s e q => by
  unfold bfCount at e
  split at e
  · obtain ⟨xs, h1, e⟩ := Option.bind_eq_some_iff.mp e
    split at e
    · rename_i hf
      cases e
      obtain ⟨x, y, rfl, hx, hy⟩ := sws2 s
      obtain ⟨a, vs, rfl, sq, r⟩ := lstOf_v (K := X.K) hx h1
      have ry := sw_flat hy hf.1
      refine ⟨_, _, rfl, a, vs, _, rfl, rfl, sq, rpv_flat ry hf.1, rp_flat r hf.2, ?_⟩
      rw [cnt_fl ry hf.1 r hf.2]
      exact q _ _ _ (.old .int)
    · cases e
  · cases e⟩⟩
def seqOf : D → Option (List D)
  | .nd .lst xs => some xs
  | .nd (.scr _) xs => some xs
  | .nd .tup xs => some xs
  | _ => none
theorem seqOf_v {K : PySem.W.Frag} {G H : Hp} {v : V} {d : D} {xs : List D} (s : Sw G H v d) (h : seqOf d = some xs) : ∃ a vs, v = .ref a ∧ (SqL K H a vs ∨ SqT K H a vs) ∧ Rps G vs xs := by
  unfold seqOf at h
  split at h
  · cases h
    obtain ⟨a, vs, rfl, ha, r⟩ := sw_lst s
    exact ⟨a, vs, rfl, .inl (.inl (.inl ha)), r⟩
  · cases h
    obtain ⟨a, o, vs, rfl, ha, sh, r⟩ := s
    obtain rfl := sh.ex rfl
    exact ⟨a, vs, rfl, .inl (.inl (.inr ⟨_, ha⟩)), r⟩
  · cases h
    obtain ⟨a, vs, rfl, ha, r⟩ := sw_tup s
    exact ⟨a, vs, rfl, .inr (.inl (.inl ha)), r⟩
  · cases h
def bfJoin : Bf := fun ds => match ds with
  | [.str a, d] => (seqOf d).bind fun xs => (strsD xs).bind fun ys => if (ys.map (·.length)).sum + ys.length * a.length ≤ 16777216 then some (.fz (.str (Txt.join a ys))) else none
  | _ => none
theorem join_m : MethOk "str" "join" (mfP (bfD bfJoin)) := ⟨F.plainAttrs_str, _, F.slot_str_join, F.type_str_join, fun X c u => ⟨_, mt_join, PureR.mut fun G H vs ds o Q gs s e q => by
  unfold bfJoin at e
  split at e
  · obtain ⟨xs, h1, e⟩ := Option.bind_eq_some_iff.mp e
    obtain ⟨ns, h2, e⟩ := Option.bind_eq_some_iff.mp e
    split at e
    · rename_i hz
      cases e
      obtain ⟨x, y, rfl, hx, hy⟩ := sws2 s
      obtain ⟨a, vs, rfl, sq, r⟩ := seqOf_v (K := X.K) hy h1
      rw [strsD_v h2 r] at sq
      obtain rfl := sw_str hx
      exact ⟨_, _, rfl, _, a, ns, rfl, rfl, sq, hz, q _ _ _ (.old .str)⟩
    · cases e
  · cases e⟩⟩
def bfSplit : Bf := fun ds => match ds with
  | [.str a, .str b] => if (b.length == 0) = false ∧ a.length + 2 ≤ sizeLine then some (.own .lst (((Txt.split a b).map D.str).map O.fz)) else none
  | _ => none
theorem split_m : MethOk "str" "split" (mfP (bfD bfSplit)) := ⟨F.plainAttrs_str, _, F.slot_str_split, F.type_str_split, fun X c u => ⟨_, mt_split, PureR.mut fun G H vs ds o Q gs s e q => by
  unfold bfSplit at e
  split at e
  · split at e
    · rename_i hz
      cases e
      obtain ⟨x, y, rfl, hx, hy⟩ := sws2 s
      obtain rfl := sw_str hx
      obtain rfl := sw_str hy
      exact ⟨_, _, rfl, _, _, rfl, rfl, hz.1, hz.2, fun p hp => q _ _ _ (.made hp (rps_strs _) rfl rfl)⟩
    · cases e
  · cases e⟩⟩
end VS
namespace VS
open PySem PySem.Spec PyProof.Rows L2
/-! ## dicts written -/
def setKs {κ α : Type} [DecidableEq κ] (ks : List κ) (xs : List α) (k : κ) (v : α) : List α := List.zipWith (fun j x => if j = k then v else x) ks xs
def hasK {κ : Type} [DecidableEq κ] (ks : List κ) (k : κ) : Bool := ks.any fun j => decide (j = k)
section
variable {κ : Type} [DecidableEq κ]
theorem hasK_zip (k : κ) : ∀ {ks : List κ} {vs : List V}, ks.length = vs.length → ((ks.zip vs).any fun kv => decide (kv.1 = k)) = hasK ks k
  | [], [], _ => rfl
  | [], _ :: _, h => by cases h
  | _ :: _, [], h => by cases h
  | j :: ks, v :: vs, h => by
    have := hasK_zip k (ks := ks) (vs := vs) (by simpa using h)
    simp only [List.zip_cons_cons, List.any_cons, hasK] at this ⊢
    rw [this]
theorem putK_old (k : κ) (v : V) : ∀ {ks : List κ} {vs : List V}, ks.length = vs.length → (ks.zip vs).map (fun kv => if kv.1 = k then (kv.1, v) else kv) = ks.zip (setKs ks vs k v)
  | [], [], _ => rfl
  | [], _ :: _, h => by cases h
  | _ :: _, [], h => by cases h
  | j :: ks, w :: vs, h => by
    have := putK_old k v (ks := ks) (vs := vs) (by simpa using h)
    simp only [List.zip_cons_cons, List.map_cons, setKs, List.zipWith_cons_cons] at this ⊢
    rw [this]
    by_cases e : j = k
    · rw [if_pos e, if_pos e]
    · rw [if_neg e, if_neg e]
theorem putK_zip {k : κ} {v : V} {ks : List κ} {vs : List V} (h : ks.length = vs.length) : putK (ks.zip vs) k v = if hasK ks k = true then ks.zip (setKs ks vs k v) else (ks ++ [k]).zip (vs ++ [v]) := by
  unfold putK
  rw [hasK_zip k h]
  split
  · exact putK_old k v h
  · rw [List.zip_append h]; rfl
theorem setKs_len {α : Type} {ks : List κ} {xs : List α} {k : κ} {v : α} (h : ks.length = xs.length) : (setKs ks xs k v).length = xs.length := by simp [setKs, h]
theorem Ows.setKs {G H : Hp} {k : κ} {v : V} {d : D} (r : Rp G v d) : ∀ {ks : List κ} {vs : List V} {os : List O} {F : List Addr}, Ows G H vs os F → ∃ F', Ows G H (setKs ks vs k v) (setKs ks os k (.fz d)) F' ∧ F'.Sublist F
  | [], _, _, F, _ => ⟨[], by simpa [VS.setKs] using Ows.nil, List.nil_sublist _⟩
  | _ :: _, _, _, _, .nil => ⟨[], by simpa [VS.setKs] using Ows.nil, List.nil_sublist _⟩
  | j :: ks, _, _, _, .cons (F1 := F1) a b => by
    obtain ⟨F', h1, h2⟩ := Ows.setKs r (ks := ks) b
    simp only [VS.setKs, List.zipWith_cons_cons] at h1 ⊢
    by_cases e : j = k
    · rw [if_pos e, if_pos e]
      exact ⟨_, .cons (.fz r) h1, by simpa using h2.trans (List.sublist_append_right _ _)⟩
    · rw [if_neg e, if_neg e]
      exact ⟨_, .cons a h1, List.Sublist.append_left h2 _⟩
theorem SepA.setKs {A : List Addr} {G H : Hp} {k : κ} {v : V} {d : D} {ks : List κ} {ws vs : List V} {ps os : List O} (s : SepA A G H (ws ++ vs) (ps ++ os)) (hl : ws.length = ps.length) (r : Rp G v d) : SepA A G H (setKs ks ws k v ++ vs) (VS.setKs ks ps k (.fz d) ++ os) := by
  obtain ⟨F, h, nd, hG, hA, g⟩ := s
  obtain ⟨F1, F2, rfl, q1, q2⟩ := h.split hl
  obtain ⟨F', h1, h2⟩ := q1.setKs (ks := ks) (k := k) r
  exact .of_sub (List.Sublist.append_right h2 _) (h1.append q2) nd hG hA g
end
/-- the thing behind x[y] = v -/
def putO {κ : Type} [DecidableEq κ] (tg : List κ → Tag) (ks : List κ) (os : List O) (k : κ) (v : O) : O := if hasK ks k = true then .own (tg ks) (setKs ks os k (.fz v.view)) else .own (tg (ks ++ [k])) (os ++ [v])
def stO : O → D → O → Option O
  | .own .lst os, .int i, v => (ixN os.length i).map fun j => .own .lst (os.set j v)
  | .own (.dK ks) os, d, v => (keyOf d).bind fun k => if os.length < sizeLine then some (putO .dK ks os k v) else none
  | .own (.dT ks) os, d, v => (tkeyOf d).bind fun k => if os.length < sizeLine then some (putO .dT ks os k v) else none
  | _, _, _ => none
def rSetAll : TSet := fun x y v H Q => rSetL x y v H Q ∨ rSetD x y v H Q
theorem set_all {X : Cx} (hu : X.A.units + 1 < cLine) : PSet X rSetAll := fun pins s σ H o i v ov iv u Q I ro ri rv h => h.elim (set_list pins s σ H o i v ov iv u Q I ro ri rv) (set_dict hu pins s σ H o i v ov iv u Q I ro ri rv)
/-- a key's value, and the heap's object at it, from a place apart -/
theorem SepA.sw1 {A : List Addr} {G H : Hp} {v : V} {o : O} {vs : List V} {os : List O} (s : SepA A G H (v :: vs) (o :: os)) : Sw G H v o.sh := by
  obtain ⟨F, h0, _, _, _, g⟩ := s
  cases h0 with
  | cons a r => exact a.sw g
theorem put_sep1 {κ : Type} [DecidableEq κ] {G H : Hp} {tg : List κ → Tag} {HOf : List (κ × V) → HO} (htg : ∀ (ks : List κ) (ws : List V) o, Shape (tg ks) ws o ↔ ks.length = ws.length ∧ o = HOf (ks.zip ws)) (hm : ∀ ks, (tg ks).mut = true) {ks : List κ} {ps os : List O} {k : κ} {x v : V} {vo : O} {vs : List V}
    (s : Sep G H (v :: x :: vs) (vo :: .own (tg ks) ps :: os)) : ∃ a ws, x = .ref a ∧ H a = some (HOf (ks.zip ws)) ∧ ks.length = ws.length ∧ ws.length = ps.length ∧ ∃ G', Same G G' ∧ Sep G' (upd H a (HOf (putK (ks.zip ws) k v))) (.ref a :: vs) (putO tg ks ps k vo :: os) := by
  obtain ⟨a, ob, ws, rfl, ha, sh, hl, s2⟩ := SepA.open_ (SepA.swap s)
  obtain ⟨hk, rfl⟩ := (htg _ _ _).mp sh
  rw [cells_mut (hm ks)] at s2
  refine ⟨a, ws, rfl, ha, hk, hl, ?_⟩
  rw [putK_zip hk]
  unfold putO
  by_cases e : hasK ks k = true
  · rw [if_pos e, if_pos e]
    have s3 : SepA ([a] ++ []) G H (v :: (ws ++ vs)) (vo :: (ps ++ os)) := SepA.unone s2 hl
    obtain ⟨G2, g2, s4⟩ := s3.freeze
    have s5 := SepA.setKs (ks := ks) (k := k) s4.tail hl s4.rp
    exact ⟨G2, g2, SepA.close (t := tg ks) s5 (by rw [setKs_len hk, setKs_len (by rw [hk, hl]), hl]) ((htg _ _ _).mpr ⟨by rw [setKs_len hk]; exact hk, rfl⟩) (hm ks)⟩
  · rw [if_neg e, if_neg e]
    have s3 : SepA (a :: []) G H ((ws ++ [v]) ++ vs) ((ps ++ [vo]) ++ os) := by
      rw [List.append_assoc, List.append_assoc]; exact s2
    exact ⟨G, Same.refl _, SepA.close (t := tg (ks ++ [k])) s3 (by simp [hl]) ((htg _ _ _).mpr ⟨by simp [hk], rfl⟩) (hm _)⟩
theorem shape_dK (ks : List Key) (ws : List V) (o : HO) : Shape (.dK ks) ws o ↔ ks.length = ws.length ∧ o = .dK (ks.zip ws) := Iff.rfl
theorem shape_dT (ks : List (List Key)) (ws : List V) (o : HO) : Shape (.dT ks) ws o ↔ ks.length = ws.length ∧ o = .dT (ks.zip ws) := Iff.rfl
/-! ### x[y] = v -/
def noX : XP := fun _ _ _ => False
def gSubD (i : Nat) (key : Opd) : DG := fun v c k => ob c[i]? fun o0 => isBad o0 = false ∧ evOps [key] noX c fun ks c1 => ob c1[i]? fun o1 => ob (opsO [key] c1 ks) fun kl => ob kl.head? fun ko => ob (stO o1 ko.sh v) fun o2 => isBad o1 = false ∧ k (c1.set i o2)
theorem gSubD_mono {i : Nat} {key : Opd} (m : MonoO [key]) : MonoG (gSubD i key) := fun o c Q Q' h q => by
  obtain ⟨o0, e0, nb, q⟩ := ob_iff.mp q
  refine ob_iff.mpr ⟨o0, e0, nb, evOps_mono m _ _ _ _ _ (fun _ _ _ z => z) (fun ks c1 q => ?_) q⟩
  obtain ⟨o1, e1, q⟩ := ob_iff.mp q
  obtain ⟨kl, e2, q⟩ := ob_iff.mp q
  obtain ⟨ko, e3, q⟩ := ob_iff.mp q
  obtain ⟨o2, e4, nb, q⟩ := ob_iff.mp q
  exact ob_iff.mpr ⟨o1, e1, ob_iff.mpr ⟨kl, e2, ob_iff.mpr ⟨ko, e3, ob_iff.mpr ⟨o2, e4, nb, h _ q⟩⟩⟩⟩
/-- the one operand that was reckoned, apart -/
theorem one_sep {G H : Hp} {vs ws : List V} {c : Cf} {ps ts kl : List O} {key : Opd} {tvs : List V} (sp : Sep G H (tvs ++ (vs ++ ws)) (ts ++ (c ++ ps))) (hl : tvs.length = ts.length) (hc : vs.length = c.length) (h : opsO [key] c ts = some kl) : ∃ y ko F, mergeV [key] vs tvs = [y] ∧ kl = [ko] ∧ Ow G H y ko F := by
  obtain ⟨F, q⟩ := ows_ops sp hl hc h
  cases key with
  | sl i =>
    obtain ⟨o, h1, h2⟩ := Option.bind_eq_some_iff.mp h
    cases h2
    cases q with
    | cons a r => exact ⟨_, _, _, rfl, rfl, a⟩
  | ex t =>
    cases ts with
    | nil => cases h
    | cons t' ts =>
      cases h
      cases tvs with
      | nil => cases hl
      | cons v tvs =>
        cases q with
        | cons a r => exact ⟨_, _, _, rfl, rfl, a⟩
theorem ow_pv {G H : Hp} {v : V} {o : O} {F : List Addr} (g : Same G H) (h : Ow G H v o F) : Sw G H v o.sh := h.sw g
/-- .. by a key that is only looked at -/
theorem st_at' {G H : Hp} {x y v : V} {vs : List V} {o vo o' : O} {d : D} {os : List O} {Q : Hp → Prop} (hk : Sw G H y d) (s : Sep G H (v :: x :: vs) (vo :: o :: os)) (e : stO o d vo = some o') (q : ∀ H' G', Same G G' → Sep G' H' (x :: vs) (o' :: os) → Q H') : rSetAll x y v H Q := by
  unfold stO at e
  split at e
  · rename_i os' i
    obtain ⟨j, h1, rfl⟩ := Option.map_eq_some_iff.mp e
    obtain rfl := sw_int hk
    obtain ⟨a, ws, rfl, ha, hl, s2⟩ := sep_lst (SepA.swap s)
    have hj := (ixN_seq h1).2.1
    refine .inl ⟨a, ws, i, j, rfl, rfl, ha, by rw [hl]; exact h1, ?_⟩
    have s3 : SepA [a] G H (v :: (ws ++ vs)) (vo :: (os' ++ os)) := SepA.unone s2 hl
    have s4 := SepA.store (i := j) s3 (by rw [List.length_append]; omega)
    rw [set_app (by omega), set_app hj] at s4
    exact q _ G (Same.refl _) (SepA.close (t := .lst) s4 (by simp [hl]) rfl rfl)
  · obtain ⟨k, h1, e⟩ := Option.bind_eq_some_iff.mp e
    split at e
    · rename_i hz
      cases e
      obtain ⟨a, ws, rfl, ha, hkl, hl, G2, g2, s2⟩ := put_sep1 (k := k) shape_dK (fun _ => rfl) s
      refine .inr ⟨a, _, rfl, .inl ⟨_, k, ha, sw_key hk h1, ?_, rfl⟩, q _ G2 g2 s2⟩
      rw [List.length_zip, hkl, Nat.min_self]; omega
    · cases e
  · obtain ⟨k, h1, e⟩ := Option.bind_eq_some_iff.mp e
    split at e
    · rename_i hz
      cases e
      obtain ⟨a, ws, rfl, ha, hkl, hl, G2, g2, s2⟩ := put_sep1 (k := k) shape_dT (fun _ => rfl) s
      obtain ⟨b, rfl, hb⟩ := sw_tkey hk h1
      refine .inr ⟨a, _, rfl, .inr ⟨_, k, b, ha, rfl, hb, ?_, rfl⟩, q _ G2 g2 s2⟩
      rw [List.length_zip, hkl, Nat.min_self]; omega
    · cases e
  · cases e
theorem slot_val {σ : L2.St} {c : Cf} {i : Nat} {o : O} (sl : Slots σ c) (h : c[i]? = some o) (nb : isBad o = false) : ∃ v, σ[i]? = some (some v) ∧ (vals σ)[i]? = some v := sl.val h nb
theorem vals_iff {σ : L2.St} {i : Nat} {v w : V} (h : (vals σ)[i]? = some v) (h' : σ[i]? = some (some w)) : v = w := by
  unfold vals at h
  rw [List.getElem?_map, h'] at h
  cases h
  rfl
/-- the i-th slot to the front, what is known of it gone -/
theorem slot_take {σ : L2.St} {c : Cf} {G H : Hp} {vsL : List V} {osL : List O} {i : Nat} {o : O} {x : V} (sp : Sep G H (vals σ ++ vsL) (c ++ osL)) (h : c[i]? = some o) (hx : (vals σ)[i]? = some x) : Sep G H (x :: (vals σ ++ vsL)) (o :: (c.set i O.bad ++ osL)) := by
  obtain ⟨v, e, s⟩ := sp.take (getElem?_app h)
  rw [getElem?_app hx] at e
  cases e
  rw [set_app (List.getElem?_eq_some_iff.mp h).1] at s
  exact s
theorem slot_put {σ : L2.St} {c : Cf} {G H : Hp} {vsL : List V} {osL : List O} {i : Nat} {o : O} {x : V} (s : Sep G H (x :: (vals σ ++ vsL)) (o :: (c.set i O.bad ++ osL))) (hi : i < c.length) (hx : (vals σ)[i]? = some x) : Sep G H (vals σ ++ vsL) (c.set i o ++ osL) := by
  have s2 := SepA.put (i := i) s (getElem?_app (List.getElem?_set_self hi)) (getElem?_app hx)
  rw [set_app (by rw [List.length_set]; exact hi), List.set_set] at s2
  exact s2
section
variable {Γ : Sg} {sc : Scope} {k : Nat} {P : List Nat}
theorem VG.sub {x : Str} {p pos : Pos} {i : Nat} {ke : Expr} {key : Opd} (hx : slotOf Γ sc x = some i) (pn : plainName x = true) (hk : VO Γ sc k ke key) (ns : isSlice ke = false) : VG Γ sc k P (.Subscript (.Name x p) ke pos) (gSubD i key) := by
  refine ⟨gSubD_mono hk.1, fun X ok => ?_⟩
  have tk : Takes X (fun _ _ _ _ => False) := fun u s' ⟨_, _, _, _, _, _, _, _, _, _, _, _, _, _, _, _, w⟩ => w.elim
  refine (pg_sub ((VO.sl (k := k) hx pn).2 X _ ok tk) (hk.2 X _ ok tk) (set_all (by have := room65 ok.room; omega)) (by
    cases ke <;> first | (intro _; rfl) | cases ns)).impL fun v σ H Q hl q => ?_
  obtain ⟨o, c, G, vsL, osL, sl, sp, q⟩ := q
  obtain ⟨o0, e0, nb, q⟩ := ob_iff.mp q
  obtain ⟨y, ey, ey2⟩ := sl.val e0 nb
  refine ⟨y, ey, ?_⟩
  refine unone1 (ops_run hk.1 sl (SepA.one sp sl.len) q (fun n f c' z => (False.elim z)) fun ts c1 tvs H1 G1 g1 sl1 ht sp1 q => ?_)
  obtain ⟨o1, e1, q⟩ := ob_iff.mp q
  obtain ⟨kl, e2, q⟩ := ob_iff.mp q
  obtain ⟨z, ko', F, e5, hkl, ow⟩ := one_sep sp1 ht sl1.len e2
  subst hkl
  obtain ⟨ko2, e3, q⟩ := ob_iff.mp q
  obtain rfl : ko' = ko2 := Option.some.inj e3
  obtain ⟨o2, e4, nb1, q⟩ := ob_iff.mp q
  refine ⟨z, e5, ?_⟩
  have s1 := SepA.unone (dropN ht sp1) sl1.len
  have s2 := slot_take (vsL := vsL) (osL := osL) (σ := σ) (i := i) (c := c1) (x := y) (G := G1) (H := H1) (o := o1) s1.tail e1 ey2
  have s3 : Sep G1 H1 (v :: y :: (vals σ ++ vsL)) (o :: o1 :: (c1.set i O.bad ++ osL)) := by
    have q2 := SepA.take (i := i + 1) s1 (o := o1) (by rw [List.getElem?_cons_succ]; exact getElem?_app e1)
    obtain ⟨w, hw, q3⟩ := q2
    rw [List.getElem?_cons_succ, getElem?_app ey2] at hw
    cases hw
    rw [List.set_cons_succ, set_app (List.getElem?_eq_some_iff.mp e1).1] at q3
    exact q3.swap
  refine st_at' (ow_pv sp1.same ow) s3 e4 fun H2 G2 g2 s4 => ?_
  exact q σ H2 G2 (g1.trans g2) .refl rfl (sl1.setAt e1 nb1) (slot_put s4 (List.getElem?_eq_some_iff.mp e1).1 ey2)
end
end VS
namespace VS
open PySem PySem.Spec PyProof.Rows L2
/-! ## dict methods -/
def rGet12 : V → List V → Hp → VK → Prop := fun x xs H Q => (∃ a y o, x = .ref a ∧ xs = [y] ∧ DGet H a y o ∧ Q (o.getD .non) H) ∨ ∃ a y z o, x = .ref a ∧ xs = [y, z] ∧ DGet H a y o ∧ Q (o.getD z) H
theorem mt_get {X : Cx} (hu : X.A.units + 1 < cLine) : MtR X "dict.get" rGet12 := by
  intro pins s σ H x xs v us Q I rx rs h
  rcases h with ⟨a, y, o, rfl, rfl, g, q⟩ | ⟨a, y, z, o, rfl, rfl, g, q⟩
  · obtain ⟨u, rfl, ru⟩ := rs.one
    cases rx
    exact d_get1 hu I g ru fun w' s' I' rw' => ⟨_, H, I', rw', q⟩
  · obtain ⟨u, r, rfl, ru, rr⟩ := rs.two
    cases rx
    exact d_get2 hu I g ru rr fun w' s' I' rw' => ⟨_, H, I', rw', q⟩
def bfGet : BfO := fun os => match os with
  | [x, y] => match x.sh with
    | .nd t xs => (dlook t xs y.sh).map fun r => .fz (r.getD .non)
    | _ => none
  | [x, y, .fz z] => match x.sh with
    | .nd t xs => (dlook t xs y.sh).map fun r => .fz (r.getD z)
    | _ => none
  | _ => none
theorem get_m : MethOk "dict" "get" (mfP bfGet) := ⟨F.plainAttrs_dict, _, F.slot_dict_get, F.type_dict_get, fun X c u => ⟨_, mt_get (by omega), PureO.mut fun G H vs os F o Q gs s e q => by
  have sw := s.sws gs
  unfold bfGet at e
  split at e
  · rename_i x' y'
    split at e
    · rename_i t xs hx
      obtain ⟨r, h1, rfl⟩ := Option.map_eq_some_iff.mp e
      obtain ⟨x, y, rfl, sx, sy⟩ := sws2 sw
      rw [hx] at sx
      obtain ⟨a, o, rfl, g, h2, h3⟩ := dlook_at sx sy h1
      refine ⟨_, _, rfl, .inl ⟨a, y, o, rfl, rfl, g, ?_⟩⟩
      cases r with
      | none =>
        cases o with
        | none => exact q _ _ _ (.old .non)
        | some _ => cases h2
      | some d =>
        obtain ⟨v, rfl, rv⟩ := h3 d rfl
        exact q _ _ _ (.old rv)
    · cases e
  · rename_i x' y' z'
    split at e
    · rename_i t xs hx
      obtain ⟨r, h1, rfl⟩ := Option.map_eq_some_iff.mp e
      cases s with
      | cons a0 s => cases s with
        | cons b0 s => cases s with
          | cons c0 s =>
            cases s
            cases c0 with
            | fz rz =>
              rename_i x _ y _ z
              have sx := a0.sw gs
              rw [hx] at sx
              obtain ⟨a, o, rfl, g, h2, h3⟩ := dlook_at sx (b0.sw gs) h1
              refine ⟨_, _, rfl, .inr ⟨a, y, z, o, rfl, rfl, g, ?_⟩⟩
              cases r with
              | none =>
                cases o with
                | none => exact q _ _ _ (.old rz)
                | some _ => cases h2
              | some d =>
                obtain ⟨v, rfl, rv⟩ := h3 d rfl
                exact q _ _ _ (.old rv)
    · cases e
  · cases e⟩⟩
def rSetd : V → List V → Hp → VK → Prop := fun x xs H Q => ∃ a k z, ∃ kvs : List (Key × V), x = .ref a ∧ xs = [kV k, z] ∧ H a = some (.dK kvs) ∧ kvs.length < sizeLine ∧ (∀ v, valV kvs k = some v → Q v H) ∧ (valV kvs k = none → Q z (upd H a (.dK (putK kvs k z))))
theorem mt_setd {X : Cx} : MtR X "dict.setdefault" rSetd := by
  intro pins s σ H x xs v us Q I rx rs h
  obtain ⟨a, k, z, kvs, rfl, rfl, e, hl, q1, q2⟩ := h
  obtain ⟨u, r, rfl, ru, rr⟩ := rs.two
  cases rx
  exact d_setd I e ru rr hl (fun v hv w' s' I' rw' => ⟨_, H, I', rw', q1 v hv⟩) (fun hv w' s' I' rw' => ⟨_, _, I', rw', q2 hv⟩)
def mfSetd : Mf := fun o as => match o, as with
  | .own (.dK ks) os, [y, .fz z] => (keyOf y.sh).bind fun k => if os.length < sizeLine then match (ks.findIdx? fun j => decide (j = k)) with
      | some j => match os[j]? with
        | some (.fz d) => some (.own (.dK ks) os, .fz d)
        | _ => none
      | none => some (.own (.dK (ks ++ [k])) (os ++ [.fz z]), .fz z)
    else none
  | _, _ => none
theorem valV_find {κ : Type} [DecidableEq κ] {k : κ} : ∀ {ks : List κ} {vs : List V}, ks.length = vs.length → valV (ks.zip vs) k = (ks.findIdx? fun j => decide (j = k)).bind fun j => vs[j]?
  | [], [], _ => rfl
  | [], _ :: _, h => by cases h
  | _ :: _, [], h => by cases h
  | j :: ks, v :: vs, h => by
    have ih := valV_find (k := k) (ks := ks) (vs := vs) (by simpa using h)
    rw [List.zip_cons_cons, List.findIdx?_cons]
    by_cases e : j = k
    · rw [valV_pos (p := (j, v)) e]
      simp [e]
    · rw [valV_neg (p := (j, v)) e, ih]
      simp only [e, decide_false, Bool.false_eq_true, if_false]
      cases (ks.findIdx? fun j => decide (j = k)) <;> rfl
theorem find_hasK {κ : Type} [DecidableEq κ] {k : κ} {ks : List κ} (h : (ks.findIdx? fun j => decide (j = k)) = none) : hasK ks k = false := by
  unfold hasK
  rw [Bool.eq_false_iff]
  intro e
  obtain ⟨j, hj, hk⟩ := List.any_eq_true.mp e
  have := List.findIdx?_eq_none_iff.mp h j hj
  rw [this] at hk
  cases hk
theorem setd_m : MethOk "dict" "setdefault" mfSetd := ⟨F.plainAttrs_dict, _, F.slot_dict_setdefault, F.type_dict_setdefault, fun X c u => ⟨_, mt_setd, fun G H x xs vs o as os p Q hl s e q => by
  unfold mfSetd at e
  split at e
  · rename_i ks ps y z
    obtain ⟨k, h1, e⟩ := Option.bind_eq_some_iff.mp e
    split at e
    · rename_i hz
      match xs, hl with
      | [yv, zv], _ =>
        have s1 : Sep G H (yv :: x :: zv :: vs) (y :: .own (.dK ks) ps :: .fz z :: os) := SepA.swap s
        obtain rfl := sw_key s1.sw1 h1
        have s2 : Sep G H (zv :: x :: vs) (.fz z :: .own (.dK ks) ps :: os) := SepA.swap s1.tail
        have rz := s2.rp
        split at e
        · rename_i j hj
          split at e
          · rename_i d hd
            cases e
            obtain ⟨a, ob, ws, rfl, ha, sh, hw, s3⟩ := SepA.open_ s2.tail
            obtain ⟨hk, rfl⟩ := sh
            obtain ⟨w, e1, rw', s4⟩ := s3.copy (getElem?_app hd)
            have hj' : j < ws.length := by rw [hw]; exact (List.getElem?_eq_some_iff.mp hd).1
            rw [List.getElem?_append_left hj'] at e1
            have hv : valV (ks.zip ws) k = some w := by rw [valV_find hk, hj]; exact e1
            refine ⟨a, k, zv, _, rfl, rfl, ha, by rw [List.length_zip, hk, Nat.min_self, hw]; exact hz, fun v hv' => ?_, fun hn => by rw [hv] at hn; cases hn⟩
            rw [hv] at hv'
            cases hv'
            exact q _ _ G (Same.refl _) (s2.tail.cons rw')
          · cases e
        · rename_i hj
          cases e
          obtain ⟨a, ws, rfl, ha, hk, hw, G2, g2, s4⟩ := put_sep1 (k := k) shape_dK (fun _ => rfl) s2
          have hn : valV (ks.zip ws) k = none := by rw [valV_find hk, hj]; rfl
          refine ⟨a, k, zv, _, rfl, rfl, ha, by rw [List.length_zip, hk, Nat.min_self, hw]; exact hz, (fun v hv' => by rw [hn] at hv'; cases hv'), fun _ => ?_⟩
          unfold putO at s4
          rw [if_neg (by rw [find_hasK hj]; exact Bool.false_ne_true)] at s4
          exact q _ _ G2 g2 (s4.cons (rz.mono g2))
    · cases e
  · cases e⟩⟩
/-! ## the table -/
def methTab : List (Str × String × Mf) := [
  ("append", "list", mfAppend), ("extend", "list", mfExtend), ("pop", "list", mfPop), ("clear", "list", mfClear), ("insert", "list", mfInsert), ("index", "list", mfP bfIndex), ("count", "list", mfP (bfD bfCount)),
  ("join", "str", mfP (bfD bfJoin)), ("split", "str", mfP (bfD bfSplit)), ("get", "dict", mfP bfGet), ("setdefault", "dict", mfSetd)]
theorem methTab_ok : ∀ e ∈ methTab, MethOk e.2.1 e.1 e.2.2 := by
  intro e h
  simp only [methTab, List.mem_cons, List.not_mem_nil, or_false] at h
  rcases h with rfl | rfl | rfl | rfl | rfl | rfl | rfl | rfl | rfl | rfl | rfl
  · exact append_m
  · exact extend_m
  · exact pop_m
  · exact clear_m
  · exact insert_m
  · exact index_m
  · exact count_m
  · exact join_m
  · exact split_m
  · exact get_m
  · exact setd_m
abbrev Mt := String → Option Mf
def methOf (x : Str) : Mt := fun T => (methTab.find? fun e => e.1 == x && e.2.1 == T).map (·.2.2)
theorem methOf_at {x : Str} {T : String} {mf : Mf} (h : methOf x T = some mf) : MethOk T x mf := by
  obtain ⟨e, h1, h2⟩ := Option.map_eq_some_iff.mp h
  have hx := List.find?_some h1
  rw [Bool.and_eq_true] at hx
  have e1 : e.1 = x := by simpa using hx.1
  have e2 : e.2.1 = T := by simpa using hx.2
  have q := methTab_ok e (List.mem_of_find?_eq_some h1)
  rw [h2, e1, e2] at q
  exact q
/-- the built-in type of a receiver -/
def tyO : D → Option String
  | .str _ => some "str"
  | .nd .lst _ => some "list"
  | .nd (.scr _) _ => some "list"
  | .nd (.dK _) _ => some "dict"
  | .nd (.dT _) _ => some "dict"
  | _ => none
/-- .. a locked dict, too -/
def tyV2 (K : PySem.W.Frag) (T : String) (x : V) (H : Hp) : Prop := tyV K T x H ∨ (T = "dict" ∧ ∃ a, x = .ref a ∧ IsD H a)
theorem tyV2_is {X : Cx} {pins : List (Addr × Obj)} {σ : L2.St} {H : Hp} {s : Shared} {T : String} {x : V} {v : Value} (I : Inv X pins σ H s) (r : RelV x v) (ty : tyV2 X.K T x H) : s.TypeIs v T ∧ ∀ a, v = .ref a → ∃ ob, s.heap.get? a = some ob ∧ ob.dict = none := by
  rcases ty with ty | ⟨rfl, a, rfl, d⟩
  · exact tyV_is I r ty
  · cases r
    obtain ⟨h1, h2, _⟩ := isD_at I d
    exact ⟨h1, h2⟩
theorem tyO_at {K : PySem.W.Frag} {G H : Hp} {v : V} {d : D} {T : String} (s : Sw G H v d) (h : tyO d = some T) : tyV2 K T v H := by
  cases d with
  | str x => cases h; obtain rfl := sw_str s; exact .inl rfl
  | nd t ds =>
    obtain ⟨a, o, vs, rfl, ha, sh, r⟩ := s
    cases t with
    | lst => cases h; obtain rfl := sh.ex rfl; exact .inl (.inl ⟨rfl, vs, .inl (.inl ha)⟩)
    | scr ob => cases h; obtain rfl := sh.ex rfl; exact .inl (.inl ⟨rfl, vs, .inl (.inr ⟨_, ha⟩)⟩)
    | dK ks => cases h; exact .inr ⟨rfl, a, rfl, .inl ⟨_, (rd_of_dK ha sh).2⟩⟩
    | dT ks => cases h; exact .inr ⟨rfl, a, rfl, .inr ⟨_, (rd_of_dT ha sh).2⟩⟩
    | _ => cases h
  | _ => cases h
/-- o.m(es) by the rule of o's type -/
def tMth (X : Cx) (name : Str) (to : TE) (ta : TA) : TE := fun σ H Q => to σ H fun x H1 => ∃ T id r, PlainAttrs T ∧ Slot T name id ∧ typeOf (.builtin id) = pure (.type "method_descriptor") ∧ MtR X id r ∧ tyV2 X.K T x H1 ∧ ta σ H1 fun xs H2 => r x xs H2 Q
def notCall0 : Expr → Bool
  | .Call (.Name _ _) [] [] _ => false
  | _ => true
theorem base_plain {o : Expr} {name : Str} {env : Env} {w : Sem Value} (h : notCall0 o = true) : attributeBase o name env w = w := by
  unfold attributeBase
  split
  · cases h
  · rfl
section
variable {X : Cx} {o e : Expr} {es : List Expr} {to : TE} {ta : TA} {name : Str} {apos cpos : Pos}
theorem backTo_all {pos : Pos} {env : Env} : ∀ {es : List Expr}, es.all noStar = true → (backTo pos (starEach es env)).all (fun x => !x.1) = true
  | [], _ => rfl
  | e :: es, h => by
    rw [List.all_cons, Bool.and_eq_true] at h
    rw [starEach_cons h.1]
    show (true && (backTo pos (starEach es env)).all _) = true
    rw [backTo_all h.2]
    rfl
theorem pe_mth0 (ho : PE X o to) (hb : notCall0 o = true) (hline : (apos.endLine == cpos.line) = true) : PE X (.Call (.Attribute o name apos) [] [] cpos) (tMth X name to tNil) := by
  refine ⟨fun pins s σ H Q I h => ?_⟩
  refine wpAny_Call_method0_late (base_plain hb) hline (thn (ho.run pins s σ H _ I h) fun v s1 ⟨x, H1, I1, r1, T, id, r, pa, slot, hty, hm, ty, q1⟩ => ?_)
  obtain ⟨h1, h2⟩ := tyV2_is I1 r1 ty
  exact ⟨T, id, pa, slot, hty, h1, h2, Calls.callWith_builtin rfl (PySem.evalArgs_none (hm pins s1 σ H1 x [] v [] Q I1 r1 .nil q1))⟩
theorem pe_mth (ho : PE X o to) (ha : PA X (e :: es) ta) (hb : notCall0 o = true) (hline : (apos.endLine == cpos.line) = true) (ns : (e :: es).all noStar = true) (hfew : (e :: es).length < 30) : PE X (.Call (.Attribute o name apos) (e :: es) [] cpos) (tMth X name to ta) := by
  have ns' : noStar e = true ∧ es.all noStar = true := by simpa using ns
  have hs := starEach_cons (es := es) (env := X.env) ns'.1
  have hplain := backTo_plain (pos := cpos) (env := X.env) ns'.2
  refine ⟨fun pins s σ H Q I h => ?_⟩
  refine wpAny_Call_method_late (base_plain hb) (by
    rw [backTo_all ns]
    show (true && true && decide ((e :: es).length + 0 + 0 < 30)) = true
    simpa using hfew) hline rfl (thn (ho.run pins s σ H _ I h) fun v s1 ⟨x, H1, I1, r1, T, id, r, pa, slot, hty, hm, ty, q1⟩ => ?_)
  obtain ⟨h1, h2⟩ := tyV2_is I1 r1 ty
  refine ⟨T, id, pa, slot, hty, h1, h2, ?_⟩
  have hA := ha.run cpos pins s1 σ H1 _ I1 q1
  rw [hs] at hA ⊢
  refine Calls.callWith_builtin (by show (false || (backTo cpos (starEach es X.env)).any (·.1)) = false; rw [hplain] <;> rfl) (Calls.evalArgs_plain ?_)
  exact thn hA fun us s2 ⟨vs, H2, I2, r2, q2⟩ => hm pins s2 σ H2 x vs v us Q I2 r1 r2 q2
end
/-! ## the call of a method -/
def afterM (recv : Opd) (o : O) (as : List O) (c : Cf) (mf : Mf) (Q : DK) : Prop := match recv with
  | .sl i => ob c[i]? fun o2 => isBad o2 = false ∧ ob (mf o2 as) fun p => Q p.2 (c.set i p.1)
  | .ex _ => ob (mf o as) fun p => Q p.2 c
def vMth (mt : Mt) (recv : Opd) (ops : List Opd) : DE := fun E c Q => evOps [recv] E c fun r c1 => ob (opsO [recv] c1 r) fun ro => ob ro.head? fun o => ob (tyO o.sh) fun T => ob (mt T) fun mf => evOps ops E c1 fun as c2 => afterM recv o as c2 mf Q
theorem afterM_mono {recv : Opd} {o : O} {as : List O} {c : Cf} {mf : Mf} {Q Q' : DK} (h : ∀ o c, Q o c → Q' o c) (q : afterM recv o as c mf Q) : afterM recv o as c mf Q' := by
  unfold afterM at q ⊢
  split at q
  · obtain ⟨o2, e1, nb, q⟩ := ob_iff.mp q
    obtain ⟨p, e2, q⟩ := ob_iff.mp q
    exact ob_iff.mpr ⟨o2, e1, nb, ob_iff.mpr ⟨p, e2, h _ _ q⟩⟩
  · obtain ⟨p, e2, q⟩ := ob_iff.mp q
    exact ob_iff.mpr ⟨p, e2, h _ _ q⟩
theorem vMth_mono {mt : Mt} {recv : Opd} {ops : List Opd} (m1 : MonoO [recv]) (m2 : MonoO ops) : Mono (vMth mt recv ops) := fun E E' c Q Q' hE hQ h =>
  evOps_mono m1 _ _ _ _ _ hE (fun r c1 q => by
    obtain ⟨ro, e1, q⟩ := ob_iff.mp q
    obtain ⟨o, e2, q⟩ := ob_iff.mp q
    obtain ⟨T, e3, q⟩ := ob_iff.mp q
    obtain ⟨mf, e4, q⟩ := ob_iff.mp q
    exact ob_iff.mpr ⟨ro, e1, ob_iff.mpr ⟨o, e2, ob_iff.mpr ⟨T, e3, ob_iff.mpr ⟨mf, e4, evOps_mono m2 _ _ _ _ _ hE (fun as c2 q => afterM_mono hQ q) q⟩⟩⟩⟩) h
/-- a reading of one operand -/
theorem te_of {mg : Str → Option Value} {W : WX} {σ : L2.St} {H : Hp} {o : Opd} {R : V → Hp → Prop} (h : tas mg W [o] σ H fun vs H1 => ∀ x, vs = [x] → R x H1) : o.te mg W σ H R := by
  have q : o.te mg W σ H fun x H1 => ∀ x', [x] = [x'] → R x' H1 := h
  have e : (fun x H1 => ∀ x', [x] = [x'] → R x' H1) = R := by
    funext x H1
    exact propext ⟨fun z => z x rfl, fun z x' e => by cases e; exact z⟩
  rw [e] at q
  exact q
theorem vMth_run {X : Cx} {W : WX} {σ : L2.St} {H : Hp} {Q : VK} {mt : Mt} {name : Str} {recv : Opd} {ops : List Opd} (m1 : MonoO [recv]) (m2 : MonoO ops) (ex : ops.all isEx = true) (hmt : ∀ T mf, mt T = some mf → MethOk T name mf) (hc : X.calm = true) (hu : X.A.units + 65 < cLine)
    (h : liftE X.mg W (vMth mt recv ops) σ H Q) : tMth X name (recv.te X.mg W) (tas X.mg W ops) σ H Q := by
  obtain ⟨c, G, vsL, osL, sl, sp, h⟩ := h
  refine te_of (ops_run m1 sl sp h (fun _ _ _ q => q) fun ts c1 tvs H1 G1 g1 sl1 ht sp1 q => ?_)
  obtain ⟨ro, e1, q⟩ := ob_iff.mp q
  obtain ⟨x, o, F, ex1, ero, ow⟩ := one_sep sp1 ht sl1.len e1
  subst ero
  obtain ⟨o', e2, q⟩ := ob_iff.mp q
  obtain rfl : o = o' := Option.some.inj e2
  obtain ⟨T, e3, q⟩ := ob_iff.mp q
  obtain ⟨mf, e4, q⟩ := ob_iff.mp q
  obtain ⟨pa, id, slot, hty, hr⟩ := hmt T mf e4
  obtain ⟨r, mr, mu⟩ := hr X hc hu
  intro x' hx'
  rw [ex1] at hx'
  cases hx'
  refine ⟨T, id, r, pa, slot, hty, mr, tyO_at (ow.sw sp1.same) e3, ?_⟩
  -- the receiver's own value goes into the frame
  have fr1 : Sep G1 H1 (vals σ ++ (tvs ++ vsL)) (c1 ++ (ts ++ osL)) := SepA.rot (ws := tvs) (ps := ts) (vs2 := vals σ) (os2 := c1) sp1 ht sl1.len
  refine ops_run m2 sl1 fr1 (evOps_len ex m2 q) (fun n f c' z => KX.mores z g1 ht) fun as c2 avs H2 G2 g2 sl2 ha sp2 ⟨hlen, q⟩ => ?_
  rw [mergeV_ex ex (by rw [ha, hlen])]
  cases recv with
  | sl i =>
    obtain ⟨o2, e5, nb, q⟩ := ob_iff.mp q
    obtain ⟨p, e6, q⟩ := ob_iff.mp q
    have hx : (vals σ)[i]? = some x := by
      obtain ⟨o3, h1, h2⟩ := Option.bind_eq_some_iff.mp e1
      have z : mergeV [Opd.sl i] (vals σ) tvs = [(vals σ)[i]?.getD .non] := rfl
      rw [z] at ex1
      have hi : i < (vals σ).length := by rw [sl1.len]; exact (List.getElem?_eq_some_iff.mp h1).1
      rw [List.getElem?_eq_getElem hi] at ex1 ⊢
      simpa using ex1
    have s1 : Sep G2 H2 (vals σ ++ (avs ++ (tvs ++ vsL))) (c2 ++ (as ++ (ts ++ osL))) := SepA.rot (ws := avs) (ps := as) (vs2 := vals σ) (os2 := c2) sp2 ha sl2.len
    have s2 := slot_take s1 e5 hx
    have hcs : (vals σ).length = (c2.set i O.bad).length := by rw [List.length_set]; exact sl2.len
    have s3 : Sep G2 H2 (x :: (avs ++ (vals σ ++ (tvs ++ vsL)))) (o2 :: (as ++ (c2.set i O.bad ++ (ts ++ osL)))) := by
      have z := SepA.rot (ws := [x] ++ vals σ) (ps := [o2] ++ c2.set i O.bad) (vs2 := avs) (os2 := as) (vs := tvs ++ vsL) (os := ts ++ osL) (by simpa using s2) (by simp [hcs]) ha
      exact SepA.unone (v := x) (o := o2) (vs2 := avs) (os2 := as) (vs := vals σ ++ (tvs ++ vsL)) (os := c2.set i O.bad ++ (ts ++ osL)) (by simpa using z) ha
    refine mu G2 H2 x avs _ o2 as _ p Q ha s3 e6 fun v H3 G3 g3 s4 => ?_
    have s5 := s4.swap
    have s6 : Sep G3 H3 (x :: (vals σ ++ (v :: (tvs ++ vsL)))) (p.1 :: (c2.set i O.bad ++ (p.2 :: (ts ++ osL)))) := by
      have z := SepA.one (vs2 := [x] ++ vals σ) (os2 := [p.1] ++ c2.set i O.bad) (v := v) (o := p.2) (vs := tvs ++ vsL) (os := ts ++ osL) (by simpa using s4) (by simp [hcs])
      simpa using z
    have s7 := slot_put s6 (List.getElem?_eq_some_iff.mp e5).1 hx
    have s8 : Sep G3 H3 (v :: (vals σ ++ vsL)) (p.2 :: (c2.set i p.1 ++ osL)) := by
      have hc3 : (vals σ).length = (c2.set i p.1).length := by rw [List.length_set]; exact sl2.len
      have z := SepA.unone s7 hc3
      have z2 := SepA.rot (ws := [v] ++ vals σ) (ps := [p.2] ++ c2.set i p.1) (vs2 := tvs) (os2 := ts) (vs := vsL) (os := osL) (by simpa using z) (by simp [hc3]) ht
      simpa using dropN ht z2
    exact q v H3 G3 (g1.trans (g2.trans g3)) (sl2.setAt e5 nb) s8
  | ex t =>
    obtain ⟨p, e6, q9⟩ := ob_iff.mp q
    clear q
    cases ts with
    | nil => cases e1
    | cons t0 ts =>
      cases tvs with
      | nil => cases ht
      | cons w tvs =>
        cases e1
        cases ex1
        have ht' : tvs.length = ts.length := by simpa using ht
        have s1 : Sep G2 H2 ((avs ++ vals σ) ++ (x :: (tvs ++ vsL))) ((as ++ c2) ++ (o :: (ts ++ osL))) := by simpa using sp2
        have s2 := SepA.unone s1 (by simp [ha, sl2.len])
        refine mu G2 H2 x avs _ o as _ p Q ha (by simpa using s2) e6 fun v H3 G3 g3 s4 => ?_
        have s5 : Sep G3 H3 (v :: (vals σ ++ (tvs ++ vsL))) (p.2 :: (c2 ++ (ts ++ osL))) := s4.swap.tail
        have z2 := SepA.rot (ws := [v] ++ vals σ) (ps := [p.2] ++ c2) (vs2 := tvs) (os2 := ts) (vs := vsL) (os := osL) (by simpa using s5) (by simp [sl2.len]) ht'
        exact q9 v H3 G3 (g1.trans (g2.trans g3)) sl2 (by simpa using dropN ht' z2)
section
variable {Γ : Sg} {sc : Scope} {k : Nat} {e : Expr} {es : List Expr} {recv : Opd} {ops : List Opd} {name : Str} {apos cpos : Pos} {oe : Expr}
theorem VE.mth0 (ho : VO Γ sc k oe recv) (hb : notCall0 oe = true) (hline : (apos.endLine == cpos.line) = true) : VE Γ sc k (.Call (.Attribute oe name apos) [] [] cpos) (vMth (methOf name) recv []) :=
  ⟨vMth_mono ho.1 trivial, fun X W ok tk => (pe_mth0 (ho.2 X W ok tk) hb hline).impV fun σ H Q q => vMth_run (ops := []) ho.1 trivial rfl (fun T mf h => methOf_at h) ok.calm (room65 ok.room) q⟩
theorem VE.mth (ho : VO Γ sc k oe recv) (ha : VA Γ sc k (e :: es) ops) (ex : ops.all isEx = true) (hb : notCall0 oe = true) (hline : (apos.endLine == cpos.line) = true) (ns : (e :: es).all noStar = true) (hfew : (e :: es).length < 30) : VE Γ sc k (.Call (.Attribute oe name apos) (e :: es) [] cpos) (vMth (methOf name) recv ops) :=
  ⟨vMth_mono ho.1 ha.1, fun X W ok tk => (pe_mth (ho.2 X W ok tk) (ha.2 X W ok tk) hb hline ns hfew).impV fun σ H Q q => vMth_run ho.1 ha.1 ex (fun T mf h => methOf_at h) ok.calm (room65 ok.room) q⟩
end
end VS
namespace VS
open PySem PySem.Spec PyProof.Rows L2
/-! ## methods of a part: x[k].m(..) -/
def ixD : Tag → Nat → D → Option Nat
  | .lst, n, .int i => ixN n i
  | .tup, n, .int i => ixN n i
  | .scr _, n, .int i => ixN n i
  | .dK ks, _, d => (keyOf d).bind fun k => ks.findIdx? fun j => decide (j = k)
  | .dT ks, _, d => (tkeyOf d).bind fun k => ks.findIdx? fun j => decide (j = k)
  | _, _, _ => none
def rIxAll (K : PySem.W.Frag) : R2 := fun x y H Q => rIx K x y H Q ∨ rIxD x y H Q
theorem ixD_at {K : PySem.W.Frag} {G H : Hp} {a : Addr} {y w : V} {t : Tag} {ob : HO} {ws : List V} {d : D} {j : Nat} {Q : VK} (ha : H a = some ob) (sh : ShapeF t ws ob) (hy : Sw G H y d) (h : ixD t ws.length d = some j) (hw : ws[j]? = some w) (q : Q w H) : rIxAll K (.ref a) y H Q := by
  unfold ixD at h
  split at h
  · obtain rfl := sh.ex rfl
    exact .inl (.inl ⟨a, ws, _, w, rfl, sw_int hy, .inl (.inl ha), by unfold atI; rw [h]; exact hw, q⟩)
  · obtain rfl := sh.ex rfl
    exact .inl (.inr (.inl ⟨a, ws, _, w, rfl, sw_int hy, .inl (.inl ha), by unfold atI; rw [h]; exact hw, q⟩))
  · obtain rfl := sh.ex rfl
    exact .inl (.inl ⟨a, ws, _, w, rfl, sw_int hy, .inl (.inr ⟨_, ha⟩), by unfold atI; rw [h]; exact hw, q⟩)
  · obtain ⟨hk, hd⟩ := rd_of_dK ha sh
    obtain ⟨k, h1, h2⟩ := Option.bind_eq_some_iff.mp h
    exact .inr ⟨a, w, rfl, .inl ⟨_, k, hd, sw_key hy h1, by rw [valV_find hk, h2]; exact hw.symm⟩, q⟩
  · obtain ⟨hk, hd⟩ := rd_of_dT ha sh
    obtain ⟨k, h1, h2⟩ := Option.bind_eq_some_iff.mp h
    obtain ⟨b, rfl, hb⟩ := sw_tkey hy h1
    exact .inr ⟨a, w, rfl, .inr ⟨_, k, b, hd, rfl, hb, by rw [valV_find hk, h2]; exact hw.symm⟩, q⟩
  · cases h
/-- the parts -/
def partsT : O → Option (Tag × List O)
  | .own t ps => some (t, ps)
  | .fz (.nd t ds) => some (t, ds.map .fz)
  | _ => none
/-- the part is owned within an owned thing -/
def divesIn (o1 inner : O) : Option (Tag × List O) := match inner, o1 with
  | .own _ _, .own t ps => if t.mut = true then some (t, ps) else none
  | _, _ => none
def vMthI (mt : Mt) (i : Nat) (key : Opd) (ops : List Opd) : DE := fun E c Q => ob c[i]? fun o0 => isBad o0 = false ∧ evOps [key] E c fun ks c1 => ob c1[i]? fun o1 => isBad o1 = false ∧ ob (opsO [key] c1 ks) fun kl => ob kl.head? fun ko =>
  ob (partsT o1) fun tp => ob (ixD tp.1 tp.2.length ko.sh) fun j => ob tp.2[j]? fun inner => ob (tyO inner.sh) fun T => ob (mt T) fun mf => match divesIn o1 inner with
    | some (t, ps) => ∀ w : V, evOps ops E (c1.set i (.own t (ps.set j (.fz (.val w))))) fun as c2 => ob c2[i]? fun o2 => ob (partsT o2) fun tp2 => o2 = .own tp2.1 tp2.2 ∧ tp2.1.mut = true ∧ tp2.2[j]? = some (.fz (.val w)) ∧ ob (mf inner as) fun r => Q r.2 (c2.set i (.own tp2.1 (tp2.2.set j r.1)))
    | none => ob (inner.tip |> fun d => if isBad (.fz d) = true then none else some d) fun d => evOps ops E c1 fun as c2 => ob (mf (.fz d) as) fun r => Q r.2 c2
theorem vMthI_mono {mt : Mt} {i : Nat} {key : Opd} {ops : List Opd} (m1 : MonoO [key]) (m2 : MonoO ops) : Mono (vMthI mt i key ops) := fun E E' c Q Q' hE hQ h => by
  obtain ⟨o0, e0, nb, h⟩ := ob_iff.mp h
  refine ob_iff.mpr ⟨o0, e0, nb, evOps_mono m1 _ _ _ _ _ hE (fun ks c1 q => ?_) h⟩
  obtain ⟨o1, e1, nb1, q⟩ := ob_iff.mp q
  obtain ⟨kl, e2, q⟩ := ob_iff.mp q
  obtain ⟨ko, e3, q⟩ := ob_iff.mp q
  obtain ⟨tp, e4, q⟩ := ob_iff.mp q
  obtain ⟨j, e5, q⟩ := ob_iff.mp q
  obtain ⟨inner, e6, q⟩ := ob_iff.mp q
  obtain ⟨T, e7, q⟩ := ob_iff.mp q
  obtain ⟨mf, e8, q⟩ := ob_iff.mp q
  refine ob_iff.mpr ⟨o1, e1, nb1, ob_iff.mpr ⟨kl, e2, ob_iff.mpr ⟨ko, e3, ob_iff.mpr ⟨tp, e4, ob_iff.mpr ⟨j, e5, ob_iff.mpr ⟨inner, e6, ob_iff.mpr ⟨T, e7, ob_iff.mpr ⟨mf, e8, ?_⟩⟩⟩⟩⟩⟩⟩⟩
  cases hd : divesIn o1 inner with
  | some tps =>
    rw [hd] at q
    obtain ⟨t, ps⟩ := tps
    intro w
    refine evOps_mono m2 _ _ _ _ _ hE (fun as c2 q => ?_) (q w)
    obtain ⟨o2, e9, q⟩ := ob_iff.mp q
    obtain ⟨tp2, e10, q1, q2, q3, q⟩ := ob_iff.mp q
    obtain ⟨r, e11, q⟩ := ob_iff.mp q
    exact ob_iff.mpr ⟨o2, e9, ob_iff.mpr ⟨tp2, e10, q1, q2, q3, ob_iff.mpr ⟨r, e11, hQ _ _ q⟩⟩⟩
  | none =>
    rw [hd] at q
    obtain ⟨d, ed, q⟩ := ob_iff.mp q
    refine ob_iff.mpr ⟨d, ed, evOps_mono m2 _ _ _ _ _ hE (fun as c2 q => ?_) q⟩
    obtain ⟨r, e11, q⟩ := ob_iff.mp q
    exact ob_iff.mpr ⟨r, e11, hQ _ _ q⟩
/-- the method's call on what is held at the front -/
theorem mth_front {X : Cx} {W : WX} {σ : L2.St} {H : Hp} {Q : VK} {ops : List Opd} {r : V → List V → Hp → VK → Prop} {mf : Mf} (m2 : MonoO ops) (ex : ops.all isEx = true) (mu : MutR r mf) {c : Cf} {G : Hp} {vsL : List V} {osL : List O} {x : V} {o : O} {E : XP} {K : O × O → Cf → Prop} (sl : Slots σ c) (sp : Sep G H (x :: (vals σ ++ vsL)) (o :: (c ++ osL)))
    (h : evOps ops E c fun as c2 => ob (mf o as) fun p => K p c2) (hE : ∀ n f c', E n f c' → KX X.mg W σ vsL osL G n f c') (hK : ∀ p c' v H' G', Same G G' → Slots σ c' → Sep G' H' (v :: x :: (vals σ ++ vsL)) (p.2 :: p.1 :: (c' ++ osL)) → K p c' → Q v H') : tas X.mg W ops σ H fun xs H2 => r x xs H2 Q := by
  have fr : Sep G H (vals σ ++ (x :: vsL)) (c ++ (o :: osL)) := SepA.one sp sl.len
  refine ops_run m2 sl fr (evOps_len ex m2 h) (fun n f c' z => (hE n f c' z).more (Same.refl _)) fun as c2 avs H2 G2 g2 sl2 ha sp2 ⟨hlen, q⟩ => ?_
  rw [mergeV_ex ex (by rw [ha, hlen])]
  obtain ⟨p, e6, q⟩ := ob_iff.mp q
  have s1 : Sep G2 H2 ((avs ++ vals σ) ++ (x :: vsL)) ((as ++ c2) ++ (o :: osL)) := by simpa using sp2
  have s2 := SepA.unone s1 (by simp [ha, sl2.len])
  refine mu G2 H2 x avs _ o as _ p Q ha (by simpa using s2) e6 fun v H3 G3 g3 s4 => ?_
  exact hK p c2 v H3 G3 (g2.trans g3) sl2 s4 q
theorem vMthI_run {X : Cx} {W : WX} {σ : L2.St} {H : Hp} {Q : VK} {mt : Mt} {name : Str} {i : Nat} {key : Opd} {ops : List Opd} (m1 : MonoO [key]) (m2 : MonoO ops) (ex : ops.all isEx = true) (hmt : ∀ T mf, mt T = some mf → MethOk T name mf) (hc : X.calm = true) (hu : X.A.units + 65 < cLine)
    (h : liftE X.mg W (vMthI mt i key ops) σ H Q) : tMth X name (tOp (rIxAll X.K) (tVar i) (key.te X.mg W)) (tas X.mg W ops) σ H Q := by
  obtain ⟨c, G, vsL, osL, sl, sp, h⟩ := h
  obtain ⟨o0, e0, nb, h⟩ := ob_iff.mp h
  obtain ⟨x, ex0, ex1⟩ := sl.val e0 nb
  refine ⟨x, ex0, ?_⟩
  refine te_of (ops_run m1 sl sp h (fun _ _ _ q => q) fun ts c1 tvs H1 G1 g1 sl1 ht sp1 q => ?_)
  obtain ⟨o1, e1, nb1, qa⟩ := ob_iff.mp q
  obtain ⟨kl, e2, qb⟩ := ob_iff.mp qa
  clear q qa
  obtain ⟨y, ko, F, ey, ekl, ow⟩ := one_sep sp1 ht sl1.len e2
  subst ekl
  obtain ⟨ko', e3, qc⟩ := ob_iff.mp qb
  clear qb
  obtain rfl : ko = ko' := Option.some.inj e3
  obtain ⟨tp, e4, qd⟩ := ob_iff.mp qc
  obtain ⟨j, e5, qe⟩ := ob_iff.mp qd
  obtain ⟨inner, e6, qf⟩ := ob_iff.mp qe
  obtain ⟨T, e7, qg⟩ := ob_iff.mp qf
  obtain ⟨mf, e8, q⟩ := ob_iff.mp qg
  clear qc qd qe qf qg
  obtain ⟨pa, id, slot, hty, hr⟩ := hmt T mf e8
  obtain ⟨r, mr, mu⟩ := hr X hc hu
  intro y' hy'
  rw [ey] at hy'
  cases hy'
  have hi1 : i < c1.length := (List.getElem?_eq_some_iff.mp e1).1
  have spx := dropN ht sp1
  have swy : Sw G1 H1 y ko.sh := ow.sw sp1.same
  cases hd : divesIn o1 inner with
  | some tps =>
    rw [hd] at q
    obtain ⟨t, ps⟩ := tps
    have hown : o1 = .own t ps ∧ t.mut = true ∧ tp = (t, ps) := by
      unfold divesIn at hd
      split at hd
      · split at hd
        · cases hd; cases e4; exact ⟨rfl, by assumption, rfl⟩
        · cases hd
      · cases hd
    obtain ⟨rfl, hm, rfl⟩ := hown
    obtain ⟨a, obj, ws, w, hv, ha, sh, hl, hw, s2⟩ := SepA.dive spx (getElem?_app e1) e6 hm
    rw [getElem?_app ex1] at hv
    cases hv
    rw [set_app hi1] at s2
    refine ixD_at ha (.inl sh) swy (by rw [hl]; exact e5) hw ?_
    have swi := s2.sw1
    refine ⟨T, id, r, pa, slot, hty, mr, tyO_at swi e7, ?_⟩
    have sl1' : Slots σ (c1.set i (.own t (ps.set j (.fz (.val w))))) := sl1.setAt e1 nb1
    have q' : evOps ops (KX X.mg W σ vsL osL G) (c1.set i (.own t (ps.set j (.fz (.val w))))) fun as c2 => ob (mf inner as) fun p => ∃ t2 ps2, c2[i]? = some (.own t2 ps2) ∧ t2.mut = true ∧ ps2[j]? = some (.fz (.val w)) ∧ KE σ vsL osL G Q p.2 (c2.set i (.own t2 (ps2.set j p.1))) := by
      refine evOps_mono m2 _ _ _ _ _ (fun _ _ _ z => z) (fun as c2 z => ?_) (q w)
      obtain ⟨o2, e9, za⟩ := ob_iff.mp z
      obtain ⟨tp2, e10, z1, z2, z3, zb⟩ := ob_iff.mp za
      obtain ⟨p, e11, zc⟩ := ob_iff.mp zb
      subst z1
      exact ob_iff.mpr ⟨p, e11, tp2.1, tp2.2, e9, z2, z3, zc⟩
    refine mth_front m2 ex mu sl1' s2 q' (fun n f c' z => z.grow g1) fun p c' v H' G' g' sl' s4 ⟨t2, ps2, z1, z2, z3, z⟩ => ?_
    have s6 := SepA.rise (i := i + 1) s4.swap (t := t2) (ps := ps2) (by rw [List.getElem?_cons_succ]; exact getElem?_app z1) z3 z2
    rw [List.set_cons_succ, set_app (List.getElem?_eq_some_iff.mp z1).1] at s6
    exact z v H' G' (g1.trans g') (sl'.setAt z1 rfl) s6
  | none =>
    rw [hd] at q
    obtain ⟨d, ed, q9⟩ := ob_iff.mp q
    clear q
    have hdd : d = inner.tip := by
      dsimp only at ed
      split at ed
      · cases ed
      · exact (Option.some.inj ed).symm
    -- the part is copied
    have key : ∃ a obj ws w, x = .ref a ∧ H1 a = some obj ∧ ShapeF tp.1 ws obj ∧ ws.length = tp.2.length ∧ ws[j]? = some w ∧ Rp G1 w d := by
      obtain ⟨F, h0, nd, hG, hA, gs⟩ := spx
      obtain ⟨F3, F4, _, q3, q4⟩ := h0.split sl1.len
      obtain ⟨v, Ga, Gb, z1, z2, _⟩ := q3.take e1
      rw [ex1] at z1
      cases z1
      cases z2 with
      | @own a obj t vs os F' ha sh rr =>
        cases e4
        obtain ⟨v', Gc, Gd, z3, z4, _⟩ := rr.take e6
        exact ⟨a, obj, vs, v', rfl, ha, .inl sh, rr.length, z3, by rw [hdd]; exact z4.tip⟩
      | @fz _ d0 rr =>
        cases d0 with
        | nd t ds =>
          cases e4
          obtain ⟨a, obj, vs, rfl, ha, sh, r3⟩ := rr.sw gs
          dsimp only at e6
          rw [List.getElem?_map] at e6
          obtain ⟨d', hd', rfl⟩ := Option.map_eq_some_iff.mp e6
          obtain ⟨v', z3, z4⟩ := rps_at r3 hd'
          exact ⟨a, obj, vs, v', rfl, ha, sh, by rw [r3.length]; simp, z3, by rw [hdd]; exact z4⟩
        | _ => cases e4
    obtain ⟨a, obj, ws, w, rfl, ha, sh, hl, hw, rw'⟩ := key
    refine ixD_at ha sh swy (by rw [hl]; exact e5) hw ?_
    refine ⟨T, id, r, pa, slot, hty, mr, tyO_at (rw'.sw spx.same) ?_, ?_⟩
    · -- the kind is the same
      cases inner with
      | fz d0 => rw [hdd]; exact e7
      | own t0 ps0 =>
        rw [hdd] at ed
        cases ed
    · refine mth_front m2 ex mu sl1 (spx.cons rw') q9 (fun n f c' z => z.grow g1) fun p c' v H' G' g' sl' s4 z => ?_
      exact z v H' G' (g1.trans g') sl' s4.swap.tail
section
variable {Γ : Sg} {sc : Scope} {k : Nat} {e ke : Expr} {es : List Expr} {key : Opd} {ops : List Opd} {name x : Str} {apos cpos p spos : Pos} {i : Nat}
theorem VE.mthI0 (hx : slotOf Γ sc x = some i) (pn : plainName x = true) (hk : VO Γ sc k ke key) (n : isSlice ke = false) (hline : (apos.endLine == cpos.line) = true) : VE Γ sc k (.Call (.Attribute (.Subscript (.Name x p) ke spos) name apos) [] [] cpos) (vMthI (methOf name) i key []) :=
  ⟨vMthI_mono hk.1 trivial, fun X W ok tk => (pe_mth0 (pe_ix (ix_seq.or (ix_dict (by have := room65 ok.room; omega))) ((VO.sl (k := k) hx pn).2 X W ok tk) (hk.2 X W ok tk) (NoSl_of n)) rfl hline).impV fun σ H Q q => vMthI_run (ops := []) hk.1 trivial rfl (fun T mf h => methOf_at h) ok.calm (room65 ok.room) q⟩
theorem VE.mthI (hx : slotOf Γ sc x = some i) (pn : plainName x = true) (hk : VO Γ sc k ke key) (n : isSlice ke = false) (ha : VA Γ sc k (e :: es) ops) (ex : ops.all isEx = true) (hline : (apos.endLine == cpos.line) = true) (ns : (e :: es).all noStar = true) (hfew : (e :: es).length < 30) :
    VE Γ sc k (.Call (.Attribute (.Subscript (.Name x p) ke spos) name apos) (e :: es) [] cpos) (vMthI (methOf name) i key ops) :=
  ⟨vMthI_mono hk.1 ha.1, fun X W ok tk => (pe_mth (pe_ix (ix_seq.or (ix_dict (by have := room65 ok.room; omega))) ((VO.sl (k := k) hx pn).2 X W ok tk) (hk.2 X W ok tk) (NoSl_of n)) (ha.2 X W ok tk) rfl hline ns hfew).impV fun σ H Q q => vMthI_run hk.1 ha.1 ex (fun T mf h => methOf_at h) ok.calm (room65 ok.room) q⟩
end
end VS
namespace VS
open PySem PySem.Spec PyProof.Rows L2
/-! ## the block of a comprehension -/
theorem relS_free {sc : Scope} {x : Str} : ∀ {names : List (Str × NameKind)}, names.lookup x = some .free →
    (names.map fun (n, k) => if (k == NameKind.free && sc.kind == .function && sc.names.lookup n == some .cell) then (n, NameKind.cell) else (n, k)).lookup x = some .cell ∨
    (names.map fun (n, k) => if (k == NameKind.free && sc.kind == .function && sc.names.lookup n == some .cell) then (n, NameKind.cell) else (n, k)).lookup x = some .free
  | [], h => by simp at h
  | (n, k₀) :: r, h => by
    rw [List.lookup_cons] at h
    rw [List.map_cons]
    cases hx : x == n with
    | true =>
      rw [hx] at h
      cases h
      dsimp only
      split
      · left
        simp only [List.lookup_cons, hx]
      · right
        simp only [List.lookup_cons, hx]
    | false =>
      rw [hx] at h
      have ih := relS_free (sc := sc) (x := x) (names := r) h
      dsimp only
      split
      · simp only [List.lookup_cons, hx]
        exact ih
      · simp only [List.lookup_cons, hx]
        exact ih
theorem OkX.blk {Γ : Sg} {sc scope : Scope} {k : Nat} {X : Cx} (ok : OkX Γ sc k X) (hk : scope.kind = .function) (s : Shared) (H : Hp) (C : Addr) (cl : List (Str × Addr)) (fp : List Addr) : OkX Γ scope k (X.blk s H scope (compEnvC scope cl C X.env) fp) := by
  have hs : (X.blk s H scope (compEnvC scope cl C X.env) fp).env.scope = relS scope X.env.scope := rfl
  have hn : (relS scope X.env.scope).names = scope.names.map fun (n, k) => if (k == NameKind.free && X.env.scope.kind == .function && X.env.scope.names.lookup n == some .cell) then (n, NameKind.cell) else (n, k) := rfl
  refine ⟨ok.N, ok.nd, by rw [hs]; exact hk, fun x h => ?_, fun x h => ?_, fun x h => ?_, fun x h => ?_, fun x h => ⟨?_, ?_⟩, ok.calm, ok.room, ok.gd, PassesOwn.never, ok.g⟩
  · rw [hs]
    unfold Vis
    rw [hn]
    rcases h with h | h | h
    · exact .inl (lookup_relS_keep (by decide) h)
    · exact .inr (.inl (lookup_relS_keep (by decide) h))
    · exact .inr (relS_free h)
  · rw [hs, hn]
    exact relS_free h
  · show (relS scope X.env.scope).names.lookup x = _
    rw [hn]
    exact lookup_relS_keep (by decide) h
  · rw [hs, hn]
    exact lookup_relS_keep (by decide) h
  · rw [hs, hn]
    exact lookup_relS_keep (by decide) h
  · show (scope.names.lookup x == some .cell) = true
    rw [h]
    rfl
theorem takes_none {X : Cx} : Takes X (fun _ _ _ _ => False) := fun u s' ⟨_, _, _, _, _, _, _, _, _, _, _, _, _, _, _, _, w⟩ => w.elim
theorem blkOk_at {Γ : Sg} {sc scope : Scope} {own : List (Str × Nat)} {k : Nat} {X : Cx} (ok : OkX Γ sc k X) (h : blkC Γ.N sc scope own = true) : BlkOk X.N X.env.scope scope own := by
  obtain ⟨h1, h2, h3, h4, h5⟩ := blkOk_by h
  refine ⟨h1, h2, by rw [ok.N]; exact h3, fun y hy e => ?_, by rw [ok.N]; exact h5⟩
  rcases h4 y hy e with z | z
  · exact .inl (ok.cel _ z).1
  · exact ok.fre _ z
/-! ### slots hidden -/
def hide : List Nat → Cf → Cf × List O
  | [], c => (c, [])
  | i :: is, c => ((hide is c).1.set i O.bad, ((hide is c).1.getD i O.bad) :: (hide is c).2)
def restore : List Nat → List O → Cf → Cf
  | i :: is, o :: os, c => restore is os (c.set i o)
  | _, _, c => c
def dropAll : List Nat → Cf → Cf
  | [], c => c
  | i :: is, c => (dropAll is c).set i O.bad
theorem vals_setN {σ : L2.St} {i : Nat} : vals (σ.set i none) = (vals σ).set i .non := by
  unfold vals
  rw [List.map_set]
  rfl
theorem hide_len : ∀ {is : List Nat} {c : Cf}, (hide is c).1.length = c.length ∧ (hide is c).2.length = is.length
  | [], c => ⟨rfl, rfl⟩
  | i :: is, c => by
    obtain ⟨h1, h2⟩ := hide_len (is := is) (c := c)
    exact ⟨by unfold hide; rw [List.length_set]; exact h1, by unfold hide; simp [h2]⟩
theorem dropAll_len : ∀ {is : List Nat} {c : Cf}, (dropAll is c).length = c.length
  | [], c => rfl
  | i :: is, c => by unfold dropAll; rw [List.length_set]; exact dropAll_len
theorem hide_drop : ∀ {is : List Nat} {c : Cf}, (hide is c).1 = dropAll is c
  | [], c => rfl
  | i :: is, c => by unfold hide dropAll; rw [hide_drop]
theorem getD_at {c : Cf} {i : Nat} (h : i < c.length) : c[i]? = some (c.getD i O.bad) := by
  rw [List.getD_eq_getElem?_getD, List.getElem?_eq_getElem h]
  rfl
theorem hide_sep {G H : Hp} {vsL : List V} {osL : List O} {σ : L2.St} {c : Cf} (sl : Slots σ c) (sp : Sep G H (vals σ ++ vsL) (c ++ osL)) : ∀ {is : List Nat}, (∀ i ∈ is, i < σ.length) →
    ∃ kv, kv.length = is.length ∧ Slots (wipe σ is) (hide is c).1 ∧ Sep G H (vals (wipe σ is) ++ (kv ++ vsL)) ((hide is c).1 ++ ((hide is c).2 ++ osL)) ∧ (∀ {G' H' : Hp} {c' : Cf} {ws' : List V} {os' : List O}, c'.length = σ.length → (∀ i ∈ is, c'[i]? = some O.bad) → Sep G' H' (vals (wipe σ is) ++ (kv ++ ws')) (c' ++ ((hide is c).2 ++ os')) → Sep G' H' (vals σ ++ ws') (restore is (hide is c).2 c' ++ os'))
  | [], _ => ⟨[], rfl, sl, sp, fun _ _ s => s⟩
  | i :: is, hi => by
    obtain ⟨kv, h1, h2, h3, h4⟩ := hide_sep sl sp (is := is) fun j hj => hi j (List.mem_cons_of_mem _ hj)
    have hi0 := hi i (List.mem_cons_self ..)
    have hlen : (hide is c).1.length = σ.length := by rw [hide_len.1, sl.1]
    have hvl : (vals (wipe σ is)).length = σ.length := by simp [vals, wipe_length]
    have hg := getD_at (c := (hide is c).1) (i := i) (by omega)
    obtain ⟨v, hv, s1⟩ := h3.take (getElem?_app hg)
    have hv' : (vals (wipe σ is))[i]? = some v := by rw [List.getElem?_append_left (by omega)] at hv; exact hv
    rw [set_app (by omega)] at s1
    have s2 : Sep G H (v :: (vals (wipe σ (i :: is)) ++ (kv ++ vsL))) (((hide is c).1.getD i O.bad) :: ((hide is c).1.set i O.bad ++ ((hide is c).2 ++ osL))) := by
      have z := SepA.reval (i := i + 1) (v := V.non) s1 (by
        rw [List.getElem?_cons_succ, List.getElem?_append_left (by simp; omega)]
        exact List.getElem?_set_self (by omega))
      rw [List.set_cons_succ, set_app (by omega)] at z
      show Sep G H (v :: (vals ((wipe σ is).set i none) ++ _)) _
      rw [vals_setN]
      exact z
    refine ⟨v :: kv, by simp [h1], ?_, ?_, fun {G' H' c' ws' os'} hc hb s => ?_⟩
    · refine ⟨by simp [hide, wipe, h2.1], fun j o hj nj => ?_⟩
      unfold hide at hj
      by_cases e : i = j
      · subst e
        rw [List.getElem?_set_self (by omega)] at hj
        cases hj; cases nj
      · rw [List.getElem?_set_ne e] at hj
        obtain ⟨w, hw⟩ := h2.2 j o hj nj
        exact ⟨w, by unfold wipe; rw [List.getElem?_set_ne e]; exact hw⟩
    · exact SepA.one s2 (by
        show (vals ((wipe σ is).set i none)).length = _
        rw [vals_setN, List.length_set, hide_len.1, sl.1]; exact hvl)
    · show Sep G' H' (vals σ ++ ws') (restore is (hide is c).2 (c'.set i ((hide is c).1.getD i O.bad)) ++ os')
      have hbi := hb i (List.mem_cons_self ..)
      have hlw : (vals (wipe σ (i :: is))).length = c'.length := by
        show (vals ((wipe σ is).set i none)).length = _
        rw [vals_setN, List.length_set, hvl, hc]
      have s3 : Sep G' H' (v :: (vals (wipe σ (i :: is)) ++ (kv ++ ws'))) (((hide is c).1.getD i O.bad) :: (c' ++ ((hide is c).2 ++ os'))) := SepA.unone (by exact s) hlw
      have s4 := SepA.reval (i := i + 1) (v := v) s3 (by rw [List.getElem?_cons_succ]; exact getElem?_app hbi)
      rw [List.set_cons_succ, set_app (by rw [hlw, hc]; exact hi0)] at s4
      have e1 : (vals (wipe σ (i :: is))).set i v = vals (wipe σ is) := by
        show (vals ((wipe σ is).set i none)).set i v = _
        rw [vals_setN, List.set_set]
        apply List.ext_getElem?
        intro j
        by_cases e : i = j
        · subst e; rw [List.getElem?_set_self (by omega), hv']
        · rw [List.getElem?_set_ne e]
      rw [e1] at s4
      have s5 := SepA.put (i := i) s4 (getElem?_app hbi) (getElem?_app hv')
      rw [set_app (by omega)] at s5
      refine h4 (by simp [hc]) (fun j hj => ?_) s5
      by_cases e : i = j
      · subst e
        rw [List.getElem?_set_self (by omega)]
        congr 1
        -- it had been hidden before
        have : ∀ {is : List Nat}, i ∈ is → i < c.length → (hide is c).1[i]? = some O.bad := by
          intro is
          induction is with
          | nil => intro h; cases h
          | cons a as ih =>
            intro h hl
            unfold hide
            by_cases ea : a = i
            · subst ea
              exact List.getElem?_set_self (by rw [hide_len.1]; exact hl)
            · rw [List.getElem?_set_ne ea]
              rcases List.mem_cons.mp h with z | z
              · exact absurd z.symm ea
              · exact ih z hl
        rw [List.getD_eq_getElem?_getD, this hj (by rw [sl.1]; exact hi0)]
        rfl
      · rw [List.getElem?_set_ne e]
        exact hb j (List.mem_cons_of_mem _ hj)
/-- a turn's end: the own slots forgotten again -/
theorem drop_sep {G H : Hp} {ws : List V} {ps : List O} : ∀ {is : List Nat} {σ : L2.St} {c : Cf}, Slots σ c → Sep G H (vals σ ++ ws) (c ++ ps) → (∀ i ∈ is, i < σ.length) → Slots (wipe σ is) (dropAll is c) ∧ Sep G H (vals (wipe σ is) ++ ws) (dropAll is c ++ ps) ∧ ∀ i ∈ is, (dropAll is c)[i]? = some O.bad
  | [], σ, c, sl, sp, _ => ⟨sl, sp, fun _ h => by cases h⟩
  | i :: is, σ, c, sl, sp, hi => by
    obtain ⟨h1, h2, h3⟩ := drop_sep (is := is) sl sp fun j hj => hi j (List.mem_cons_of_mem _ hj)
    have hi0 := hi i (List.mem_cons_self ..)
    have hlen : (dropAll is c).length = σ.length := by rw [dropAll_len, sl.1]
    have hvl : (vals (wipe σ is)).length = σ.length := by simp [vals, wipe_length]
    refine ⟨⟨by simp [dropAll, wipe, h1.1], fun j o hj nj => ?_⟩, ?_, fun j hj => ?_⟩
    · unfold dropAll at hj
      by_cases e : i = j
      · subst e
        rw [List.getElem?_set_self (by omega)] at hj
        cases hj; cases nj
      · rw [List.getElem?_set_ne e] at hj
        obtain ⟨w, hw⟩ := h1.2 j o hj nj
        exact ⟨w, by unfold wipe; rw [List.getElem?_set_ne e]; exact hw⟩
    · have s1 := SepA.drop (i := i) h2
      rw [set_app (by omega)] at s1
      have s2 := SepA.reval (i := i) (v := V.non) s1 (getElem?_app (List.getElem?_set_self (by omega)))
      rw [set_app (by omega)] at s2
      show Sep G H (vals ((wipe σ is).set i none) ++ ws) _
      rw [vals_setN]
      exact s2
    · unfold dropAll
      by_cases e : i = j
      · subst e; exact List.getElem?_set_self (by omega)
      · rw [List.getElem?_set_ne e]
        rcases List.mem_cons.mp hj with z | z
        · exact absurd z.symm e
        · exact h3 j z
theorem restore_slots {σ : L2.St} : ∀ {is : List Nat} {ks : List O} {c : Cf}, c.length = σ.length → (∀ (j : Nat) (o : O), c[j]? = some o → isBad o = false → ∃ v, σ[j]? = some (some v)) → (∀ p ∈ is.zip ks, isBad p.2 = false → ∃ v, σ[p.1]? = some (some v)) → Slots σ (restore is ks c)
  | [], ks, c, hl, h, _ => ⟨by simpa [restore] using hl, by simpa [restore] using h⟩
  | i :: is, [], c, hl, h, _ => ⟨by simpa [restore] using hl, by simpa [restore] using h⟩
  | i :: is, k :: ks, c, hl, h, hk => by
    unfold restore
    refine restore_slots (by simp [hl]) (fun j o hj nj => ?_) fun p hp => hk p (List.mem_cons_of_mem _ hp)
    by_cases e : i = j
    · subst e
      by_cases hi : i < c.length
      · rw [List.getElem?_set_self hi] at hj
        cases hj
        exact hk (i, k) (List.mem_cons_self ..) nj
      · rw [List.getElem?_eq_none (by simp; omega)] at hj
        cases hj
    · rw [List.getElem?_set_ne e] at hj
      exact h j o hj nj
theorem hide_known {σ : L2.St} {c : Cf} (sl : Slots σ c) : ∀ {is : List Nat}, (∀ p ∈ is.zip (hide is c).2, isBad p.2 = false → ∃ v, σ[p.1]? = some (some v)) ∧ ∀ (j : Nat) (o : O), (hide is c).1[j]? = some o → isBad o = false → ∃ v, σ[j]? = some (some v)
  | [] => ⟨fun p h => by simp at h, sl.2⟩
  | i :: is => by
    obtain ⟨h1, h2⟩ := hide_known sl (is := is)
    refine ⟨fun p hp nb => ?_, fun j o hj nj => ?_⟩
    · unfold hide at hp
      rw [List.zip_cons_cons] at hp
      rcases List.mem_cons.mp hp with rfl | hp
      · rw [List.getD_eq_getElem?_getD] at nb
        cases e : (hide is c).1[i]? with
        | none => rw [e] at nb; cases nb
        | some o => rw [e] at nb; exact h2 i o e nb
      · exact h1 p hp nb
    · unfold hide at hj
      by_cases e : i = j
      · subst e
        by_cases hi : i < (hide is c).1.length
        · rw [List.getElem?_set_self hi] at hj; cases hj; cases nj
        · rw [List.getElem?_eq_none (by simp; omega)] at hj; cases hj
      · rw [List.getElem?_set_ne e] at hj
        exact h2 j o hj nj
theorem wipe_at {σ : L2.St} {j : Nat} : ∀ {is : List Nat}, j ∉ is → (wipe σ is)[j]? = σ[j]?
  | [], _ => rfl
  | i :: is, h => by
    unfold wipe
    rw [List.getElem?_set_ne (fun e : i = j => h (by rw [e]; exact List.mem_cons_self ..))]
    exact wipe_at fun z => h (List.mem_cons_of_mem _ z)
/-! ## [e for t in it if c] -/
def vLcL (vs : List Nat) (kp : Cf → Prop) (g : DG) (tt : DT) (te : DE) : List D → List O → Cf → (List O → Cf → Prop) → Prop
  | [], acc, c, k => kp c ∧ k acc c
  | d :: ds, acc, c, k => kp c ∧ g (.fz d) c fun c1 => tt noX c1 fun b c2 => if b = true then te noX c2 fun o c3 => acc.length < sizeLine ∧ vLcL vs kp g tt te ds (acc ++ [o]) (dropAll vs c3) k else vLcL vs kp g tt te ds acc (dropAll vs c2) k
def vLc (vs : List Nat) (ops : List Opd) (itf : Itf) (g : DG) (tt : DT) (te : DE) : DE := fun E c Q => evOps ops E c fun ts c1 => ob (opsO ops c1 ts) fun dl => ob (itf dl) fun items =>
  vLcL vs (keepOps ops c1) g tt te items [] (hide vs c1).1 fun acc c2 => Q (.own .lst acc) (restore vs (hide vs c1).2 c2)
theorem vLcL_mono {vs : List Nat} {kp : Cf → Prop} {g : DG} {tt : DT} {te : DE} (mg : MonoG g) (mt : MonoT tt) (me : Mono te) : ∀ {items : List D} {acc : List O} {c : Cf} {k k' : List O → Cf → Prop}, (∀ a c, k a c → k' a c) → vLcL vs kp g tt te items acc c k → vLcL vs kp g tt te items acc c k'
  | [], acc, c, k, k', hk, h => ⟨h.1, hk _ _ h.2⟩
  | d :: ds, acc, c, k, k', hk, h => ⟨h.1, mg _ _ _ _ (fun c1 q => mt _ _ _ _ _ (fun _ _ _ z => z) (fun b c2 q => by
      cases b with
      | true => exact me _ _ _ _ _ (fun _ _ _ z => z) (fun o c3 q => ⟨q.1, vLcL_mono mg mt me hk q.2⟩) q
      | false => exact vLcL_mono mg mt me hk q) q) h.2⟩
theorem vLc_mono {vs : List Nat} {ops : List Opd} {itf : Itf} {g : DG} {tt : DT} {te : DE} (m : MonoO ops) (mg : MonoG g) (mt : MonoT tt) (me : Mono te) : Mono (vLc vs ops itf g tt te) := fun E E' c Q Q' hE hQ h => evOps_mono m _ _ _ _ _ hE (fun ts c1 q => by
  obtain ⟨dl, e1, q⟩ := ob_iff.mp q
  obtain ⟨items, e2, q⟩ := ob_iff.mp q
  exact ob_iff.mpr ⟨dl, e1, ob_iff.mpr ⟨items, e2, vLcL_mono mg mt me (fun a c z => hQ _ _ z) q⟩⟩) h
theorem dropAll_len' {is : List Nat} {c : Cf} : (dropAll is c).length = c.length := dropAll_len
/-- at the end of the items or of a turn all own slots are forgotten -/
def Own0 (vs : List Nat) (c : Cf) : Prop := ∀ i ∈ vs, c[i]? = some O.bad
theorem wipe_in {j : Nat} : ∀ {is : List Nat} {τ : L2.St}, j ∈ is → (wipe τ is)[j]? = if j < τ.length then some none else none
  | [], _, h => by cases h
  | a :: as, τ, h => by
    unfold wipe
    by_cases e : a = j
    · subst e
      by_cases hl : a < τ.length
      · rw [if_pos hl, List.getElem?_set_self (by rw [wipe_length]; exact hl)]
      · rw [if_neg hl, List.getElem?_eq_none (by rw [List.length_set, wipe_length]; omega)]
    · rw [List.getElem?_set_ne e]
      rcases List.mem_cons.mp h with z | z
      · exact absurd z.symm e
      · exact wipe_in z
theorem pins_wipe {vs : List Nat} {σ σ2 : L2.St} (p : PinS vs (wipe σ vs) σ2) : wipe σ2 vs = wipe σ vs := by
  have hl : σ2.length = σ.length := by rw [p.1, wipe_length]
  apply List.ext_getElem?
  intro j
  by_cases hj : j ∈ vs
  · rw [wipe_in hj, wipe_in hj, hl]
  · rw [wipe_at hj, p.2 j hj]
theorem vLc_run {mg : Str → Option Value} {W : WX} {σ : L2.St} {H : Hp} {Q : VK} {vs : List Nat} {ops : List Opd} {itf : Itf} {g : DG} {tt : DT} {te : DE} {wi : TI} {r : List V → Hp → (It → Hp → Prop) → Prop} (m : MonoO ops) (mg' : MonoG g) (mt : MonoT tt) (me : Mono te) (pr : PiR r itf) (hw : ∀ σ H R, (tas mg W ops σ H fun vs H1 => r vs H1 R) → wi σ H R)
    (hvs : ∀ i ∈ vs, i < σ.length) (h : liftE mg W (vLc vs ops itf g tt te) σ H Q) : tLc wi (liftG vs g) (liftT mg (fun _ _ _ _ => False) tt) (liftE mg (fun _ _ _ _ => False) te) vs σ H Q := by
  obtain ⟨c, G, vsL, osL, sl, sp, h⟩ := h
  refine hw σ H _ ?_
  refine ops_run m sl sp h (fun _ _ _ q => q) fun ts c1 tvs H1 G1 g1 sl1 ht sp1 q => ?_
  obtain ⟨dl, e1, qa⟩ := ob_iff.mp q
  obtain ⟨items, e2, k⟩ := ob_iff.mp qa
  clear q qa
  obtain ⟨F0, ow0⟩ := ows_ops sp1 ht sl1.len e1
  have fz1 := fzOps_of (ops := ops) sp1 ht sl1.len
  refine pr G1 H1 _ dl F0 items _ sp1.same ow0 e2 fun J H1' G1' lk hJ => ?_
  have sp1 := lk.2 _ _ _ sp1
  have fz1 : FzOps G1' ops c1 (vals σ) := fun j hj d e => let ⟨v, q1, q2⟩ := fz1 j hj d e; ⟨v, q1, q2.mono lk.1⟩
  have g1 := g1.trans lk.1
  clear ow0
  generalize H1' = H1 at *
  generalize G1' = G1 at *
  intro D hD
  have sA : Sep G1 H1 (vals σ ++ (tvs ++ vsL)) (c1 ++ (ts ++ osL)) := SepA.rot (ws := tvs) (ps := ts) (vs2 := vals σ) (os2 := c1) sp1 ht sl1.len
  obtain ⟨kv, hkv, slB, sB, back⟩ := hide_sep sl1 sA hvs
  have hks := (hide_len (is := vs) (c := c1)).2
  have hbl : (vals (wipe σ vs)).length = (hide vs c1).1.length := by rw [slB.len]
  generalize hks' : (hide vs c1).2 = ks at *
  have hkk : kv.length = ks.length := by rw [hkv, hks]
  -- what holds ahead of a turn
  let St := fun (i : Nat) (H' : Hp) => ∃ (acc : List O) (c' : Cf) (G' : Hp), Same G1 G' ∧ Slots (wipe σ vs) c' ∧ Own0 vs c' ∧ Sep G' H' (vals (wipe σ vs) ++ (kv ++ (V.ref D :: (tvs ++ vsL)))) (c' ++ (ks ++ (O.own .lst acc :: (ts ++ osL)))) ∧
    vLcL vs (keepOps ops c1) g tt te (items.drop i) acc c' fun acc c2 => KE σ vsL osL G Q (.own .lst acc) (restore vs ks c2)
  refine ⟨fun i n H' => i + n = items.length ∧ St i H', ⟨items.length, by omega, [], (hide vs c1).1, G1, Same.refl _, slB, ?_, ?_, k⟩, ?_⟩
  · -- hidden
    intro i hi
    rw [hide_drop]
    have := (drop_sep (is := vs) sl1 sA hvs).2.2 i hi
    exact this
  · have s1 : Sep G1 (upd H1 D (.lst [])) (V.ref D :: (vals (wipe σ vs) ++ (kv ++ (tvs ++ vsL)))) (O.own .lst [] :: ((hide vs c1).1 ++ (ks ++ (ts ++ osL)))) := SepA.make (ws := []) (ps := []) sB hD rfl rfl rfl
    have s2 : Sep G1 (upd H1 D (.lst [])) (V.ref D :: ((vals (wipe σ vs) ++ kv) ++ (tvs ++ vsL))) (O.own .lst [] :: (((hide vs c1).1 ++ ks) ++ (ts ++ osL))) := by simpa using s1
    have s3 := SepA.one s2 (by simp [hbl, hkk])
    simpa using s3
  rintro i n H2 ⟨en, acc, c2, G2, g2, sl2, ow2, sp2, k2⟩
  have hc2 : c2.length = σ.length := by rw [sl2.1, wipe_length]
  have hvw : (vals (wipe σ vs)).length = c2.length := sl2.len
  -- the operands, as they stand
  have sws : keepOps ops c1 c2 → ∃ F, Ows G2 H2 (mergeV ops (vals σ) tvs) dl F := fun kp => by
    have s1 : Sep G2 H2 ((vals (wipe σ vs) ++ (kv ++ [V.ref D])) ++ (tvs ++ vsL)) ((c2 ++ (ks ++ [O.own .lst acc])) ++ (ts ++ osL)) := by simpa using sp2
    have s2 := SepA.rot (ws := vals (wipe σ vs) ++ (kv ++ [V.ref D])) (ps := c2 ++ (ks ++ [O.own .lst acc])) s1 (by simp [hvw, hkk]) ht
    have s3 : Sep G2 H2 (tvs ++ (vals (wipe σ vs) ++ ((kv ++ [V.ref D]) ++ vsL))) (ts ++ (c2 ++ ((ks ++ [O.own .lst acc]) ++ osL))) := by simpa using s2
    refine ows_keep (vs0 := vals σ) s3 ht hvw e1 (fun j hj d e => let ⟨v, q1, q2⟩ := fz1 j hj d e; ⟨v, q1, q2.mono g2⟩) kp fun j hj t os e => ?_
    have hn : j ∉ vs := fun z => by
      have z1 := kp j hj t os e
      rw [ow2 j z] at z1
      cases z1
    unfold vals
    rw [List.getElem?_map, List.getElem?_map, wipe_at hn]
  by_cases hi : i < items.length
  · have hd : items.drop i = items[i] :: items.drop (i + 1) := List.drop_eq_getElem_cons hi
    rw [hd] at k2
    obtain ⟨kp, k2⟩ := k2
    obtain ⟨F2, sw2⟩ := sws kp
    obtain ⟨go, st⟩ := (hJ i G2 H2 F2 g2 sp2.same sw2).1 items[i] (List.getElem?_eq_getElem hi)
    refine .inr ⟨go, fun H' => St (i + 1) H', fun H' q => ⟨n - 1, by omega, by omega, q⟩, fun x H3 hy => ?_⟩
    obtain ⟨G3, nw⟩ := st x H3 hy
    have sp3 := nw.2 _ _ _ sp2
    refine ⟨.fz items[i], c2, G3, _, _, sl2, sp3, ?_⟩
    refine mg' _ _ _ _ (fun c3 q3 => ?_) k2
    intro σ4 H4 G4 g4 p4 l4 sl4 sp4
    have hlv : ∀ i ∈ vs, i < σ4.length := fun i hi => by rw [l4, wipe_length]; exact hvs i hi
    -- the end of a turn
    have fin : ∀ {acc' : List O} {c' : Cf} {G' H' : Hp}, Same G4 G' → Slots σ4 c' → Sep G' H' (vals σ4 ++ (kv ++ (V.ref D :: (tvs ++ vsL)))) (c' ++ (ks ++ (O.own .lst acc' :: (ts ++ osL)))) → vLcL vs (keepOps ops c1) g tt te (items.drop (i + 1)) acc' (dropAll vs c') (fun acc c2 => KE σ vsL osL G Q (.own .lst acc) (restore vs ks c2)) → St (i + 1) H' := fun {acc' c' G' H'} g' sl' sp' q' => by
      obtain ⟨d1, d2, d3⟩ := drop_sep (is := vs) sl' sp' hlv
      rw [pins_wipe p4] at d1 d2
      exact ⟨acc', dropAll vs c', G', g2.trans (nw.1.trans (g4.trans g')), d1, d3, d2, q'⟩
    refine ⟨pins_wipe p4, liftT.of mt sl4 sp4 q3 (fun _ _ _ z => z.elim) fun b c5 H5 G5 g5 sl5 sp5 q5 => ?_⟩
    cases b with
    | false => exact fin g5 sl5 sp5 q5
    | true =>
      refine liftE.of me sl5 sp5 q5 (fun _ _ _ z => z.elim) fun o c6 v H6 G6 g6 sl6 sp6 ⟨hz, q6⟩ => ?_
      -- the list under way
      have s1 : Sep G6 H6 ((v :: (vals σ4 ++ kv)) ++ (V.ref D :: (tvs ++ vsL))) ((o :: (c6 ++ ks)) ++ (O.own .lst acc :: (ts ++ osL))) := by simpa using sp6
      have hlen6 : (v :: (vals σ4 ++ kv)).length = (o :: (c6 ++ ks)).length := by simp [sl6.len, hkk]
      have s2 := SepA.unone s1 hlen6
      obtain ⟨a, ws, ea, ha, hl, s3⟩ := sep_lst s2
      cases ea
      refine ⟨ws, ha, by rw [hl]; exact hz, ?_⟩
      have s4 : SepA [D] G6 H6 ((ws ++ [v]) ++ ((vals σ4 ++ kv) ++ (tvs ++ vsL))) ((acc ++ [o]) ++ ((c6 ++ ks) ++ (ts ++ osL))) := by simpa using s3
      have s5 := SepA.close (t := .lst) s4 (by simp [hl]) rfl rfl
      have s6 := SepA.one s5 (by simp [sl6.len, hkk])
      exact fin (g5.trans g6) sl6 (by simpa using s6) q6
  · have hd : items.drop i = [] := List.drop_eq_nil_of_le (by omega)
    rw [hd] at k2
    obtain ⟨kp, k2⟩ := k2
    obtain ⟨F2, sw2⟩ := sws kp
    refine .inl ⟨(hJ i G2 H2 F2 g2 sp2.same sw2).2 (by omega), ?_⟩
    have s1 := back (ws' := V.ref D :: (tvs ++ vsL)) hc2 ow2 sp2
    have hrl : (restore vs ks c2).length = c2.length := by
      have : ∀ {is : List Nat} {ks : List O} {c : Cf}, (restore is ks c).length = c.length := by
        intro is
        induction is with
        | nil => intro ks c; rfl
        | cons a as ih => intro ks c; cases ks with
          | nil => rfl
          | cons k ks => unfold restore; rw [ih]; simp
      exact this
    have slR : Slots σ (restore vs ks c2) := by
      refine restore_slots hc2 (fun j o hj nj => ?_) ?_
      · obtain ⟨v, hv⟩ := sl2.2 j o hj nj
        exact ⟨v, (wipe_some hv).1⟩
      · rw [← hks']
        exact (hide_known sl1).1
    have s2 := SepA.unone s1 (by rw [slR.len])
    have s3 : Sep G2 H2 ((V.ref D :: vals σ) ++ (tvs ++ vsL)) ((O.own .lst acc :: restore vs ks c2) ++ (ts ++ osL)) := by simpa using s2
    have s4 := SepA.rot s3 (by simp [slR.len]) ht
    exact k2 _ H2 G2 (g1.trans g2) slR (by simpa using dropN ht s4)
end VS
namespace VS
open PySem PySem.Spec PyProof.Rows L2
/-! ## enumerate over a tuple -/
section
variable {prog : Program} {w : World} {A : Around} {E : Value → Shared → Prop} {s : Shared}
set_option maxHeartbeats 1000000 in
theorem new_enum1 {v : Value} {o : Obj} {Hd : Heap → Prop} (B : Begins v o Hd) :
    Meets (Builtin.«enumerate.__new__» ⟨[.type "enumerate", v], []⟩) (fun _ R s => Hd s.heap ∧
      R (.ok (.ret (.ref (s.heap.push o).objs.size))) { s with heap := (s.heap.push o).push { cls := .type "enumerate", data := .fields #[.none, .bool false, .ref s.heap.objs.size, rawInt 0, .none, .none] } }) :=
  .of_wp fun prog w A R s h => by
    obtain ⟨hp, g, d, tk, os⟩ := s
    obtain ⟨h1, h⟩ := h
    have hsub := sub_enumerate
    have q1 : ∀ {A' : Around} {E : Value → Shared → Prop} {Q : Value → Shared → Prop}, Q (.ref hp.objs.size) ⟨hp.push o, g, d, tk, os⟩ → wpAny (model prog w) A' (pyIter v) Q E ⟨hp, g, d, tk, os⟩ :=
      fun q => B.iter prog w _ _ ⟨hp, g, d, tk, os⟩ _ h1 q
    wp_walk using q1
    refine wpAny_stack_any fun st => wpAny_pure ?_
    split
    · rename_i c _ _ _ _ _
      cases (c == Value.type "enumerate")
      · wp_walk using q1
        exact ⟨_, rfl, h⟩
      · wp_walk using q1
        exact ⟨_, rfl, h⟩
    · wp_walk using q1
      exact ⟨_, rfl, h⟩
theorem enum1_begins {v : Value} {o : Obj} {Hd : Heap → Prop} {Q : Value → Shared → Prop} (B : Begins v o Hd) (h1 : Hd s.heap)
    (h : ∀ h', IsEnum h' (s.heap.objs.size + 1) s.heap.objs.size 0 .none → h'.get? s.heap.objs.size = some o → (∀ b o, s.heap.get? b = some o → h'.get? b = some o) → Q (.ref (s.heap.objs.size + 1)) { s with heap := h' }) :
    wpAny (model prog w) A (call (.type "enumerate") [v]) Q E s := by
  refine callType_new F.called_enumerate (by decide) (F.typeCall_enumerate_1 _) (F.newCall_enumerate_1 _) (fun obj => F.args_object_init_2 obj _) F.entry_enumerate_new (new_enum1 B) ⟨h1, ?_⟩
  have hz : (s.heap.push o).objs.size = s.heap.objs.size + 1 := Heap.size_push ..
  show _ ∧ _
  rw [hz]
  have he : IsEnum ((s.heap.push o).push { cls := .type "enumerate", data := .fields #[.none, .bool false, .ref s.heap.objs.size, rawInt 0, .none, .none] }) (s.heap.objs.size + 1) s.heap.objs.size 0 .none := by
    have := Heap.get?_push_size (s.heap.push o) (o := { cls := .type "enumerate", data := .fields #[.none, .bool false, .ref s.heap.objs.size, rawInt 0, .none, .none] }) rfl
    rw [hz] at this; exact this
  exact ⟨⟨_, he, rfl⟩, h _ he (Heap.get?_push_of_some _ (Heap.get?_push_size _ B.free)) fun b o x => Heap.get?_push_of_some _ (Heap.get?_push_of_some _ x)⟩
end
/-- the tuple at a, each item in a new pair -/
def IteT (K : PySem.W.Frag) (a : Addr) : It :=
  ⟨fun i H => ∃ (xs : List V) (x : V), SqT K H a xs ∧ xs[i]? = some x, fun i H v H' => ∃ T x, v = .ref T ∧ H T = none ∧ H' = upd H T (.tup [.int (i : Nat), x]) ∧ ∀ xs, SqT K H a xs → xs[i]? = some x, fun i H => ∃ xs : List V, SqT K H a xs ∧ xs.length = i⟩
theorem turn_enumT {P : Program} {w : World} {K : PySem.W.Frag} {elts : List Expr} {kk : Nat} {tpos : Pos} (a e it : Addr) (hae : a ≠ e) (hai : a ≠ it) :
    Turn P w K (.Tuple elts kk tpos) (IteT K a) [e, it] e (fun i h => (∃ old, IsEnum h e it ((i : Nat) : Int) old) ∧ h.IsTupleIter it a i ∧ e ≠ it) where
  mem := by simp
  obj := fun i h st b hb => by
    obtain ⟨⟨old, he⟩, ⟨o, ho, hc, hd⟩, _⟩ := st
    have e' : b = e ∨ b = it := by simpa using hb
    rcases e' with z | z
    · rw [z]; exact ⟨_, he, fun v q => nomatch q⟩
    · rw [z]; exact ⟨o, ho, fun v q => by rw [hd] at q; cases q⟩
  keep := fun i h h' st k => let ⟨⟨old, he⟩, hi, hne⟩ := st; ⟨⟨old, k e (by simp) _ he⟩, hi.at fun o q => k it (by simp) o q, hne⟩
  item := by
    intro X hP hw hK hc i pins s σ H E I hf st hg
    subst hP hw hK
    obtain ⟨⟨old, he⟩, hit, hne⟩ := st
    obtain ⟨xs, x, hq, hx⟩ := hg
    obtain ⟨its, rv, p, hz⟩ := I.tuple hq
    obtain ⟨u, hu, ru⟩ := rv.get hx
    have hel : e < s.heap.objs.size := Heap.lt_size he
    have hil : it < s.heap.objs.size := by obtain ⟨_, q, _⟩ := hit; exact Heap.lt_size q
    have Dr := Draws.tuple (prog := X.prog) (w := X.w) (A := X.A.in1) (I.ok.hd hc) it a hai its.toArray
    have hlt : i < its.toArray.size := by
      have := (List.getElem?_eq_some_iff.mp hu).1
      simpa using this
    refine wpAny_pyNext_enum_itemC Dr he ⟨hit, p⟩ hlt hne (by simp only [List.mem_cons, List.not_mem_nil, or_false, not_or]; exact ⟨hne, fun z => hae z.symm⟩) fun x' h' tk hx' ho hit' hT hsz hk => ?_
    have ex : x' = u := by
      have h1 : its[i]? = some x' := by simpa using hx'
      rw [hu] at h1
      exact (Option.some.inj h1).symm
    subst ex
    refine ⟨_, rfl, wpAny_letOwnedTupleGo_enum (s := { s with heap := h', toks := tk + 1 }) ho fun h'' he' sb => ?_⟩
    have hT2 : h''.get? s.heap.objs.size = some { cls := .type "tuple", data := .seq #[.int i tk, x'] } := (sb.2 _ (Nat.ne_of_gt hel)).trans hT
    have new : ObjOk X.prog X.w (upd H s.heap.objs.size (.tup [.int (i : Nat), x])) h'' s.heap.objs.size (.tup [.int (i : Nat), x]) :=
      ⟨by show 2 ≤ sizeLine; decide, [.int i tk, x'], .cons ⟨_, rfl⟩ (.cons ru .nil), ⟨_, hT2, rfl, _, rfl⟩⟩
    have I1 : Inv X pins σ (upd H s.heap.objs.size (.tup [.int (i : Nat), x])) { s with heap := h'', toks := tk + 1 } :=
      I.turnedNew (ch := [e, it]) (fun b ob hb q => (sb.2 b (fun z => hb (by simp [z]))).trans (hk b ob (fun z => hb (by simp [z])) (fun z => hb (by simp [z])) q)) hf (Nat.le_refl _) new
    refine ⟨.ref s.heap.objs.size, _, I1, rfl, ⟨_, x, rfl, I.hok.fresh (Nat.le_refl _), rfl, fun ys hy => by rw [I.tuple_inj hy hq]; exact hx⟩, ⟨⟨x', ?_⟩, hit'.1.at fun o q => (sb.2 it (Ne.symm hne)).trans q, hne⟩, fun b hb => ?_⟩
    · have e1 : ((i + 1 : Nat) : Int) = (i : Int) + 1 := by omega
      rw [e1]; exact he'
    · have hb' : b < s.heap.objs.size := by
        have e' : b = e ∨ b = it := by simpa using hb
        rcases e' with z | z
        · rw [z]; exact hel
        · rw [z]; exact hil
      rw [upd_ne (Nat.ne_of_lt hb')]
      exact (hf b hb).1
  done := by
    intro X hP hw hK hc i pins s σ H E I hf st hg
    subst hP hw hK
    obtain ⟨⟨old, he⟩, hit, hne⟩ := st
    obtain ⟨xs, hq, hx⟩ := hg
    obtain ⟨its, rv, p, hz⟩ := I.tuple hq
    obtain ⟨f0, f1, f2, f3, f4, f5⟩ := hf it (by simp)
    have hl := rv.length
    have Dr := Draws.tuple (prog := X.prog) (w := X.w) (A := X.A.in1) (I.ok.hd hc) it a hai its.toArray
    have hi : i = its.toArray.size := by rw [List.size_toArray, ← hl, hx]
    subst hi
    exact wpAny_pyNext_enum_endD Dr he ⟨hit, p⟩ fun h' eb => ⟨rfl, I.turned (t' := s.toks) (fun b o hb q => eb b o hb q) f0 f1 f3 f4 f5⟩
  self := fun A i s Q E st h => let ⟨⟨_, he⟩, _⟩ := st; wpAny_pyIter_enum he h
end VS
namespace VS
open PySem PySem.Spec PyProof.Rows L2
/-! ## a frozen dict is locked, then walked -/
def Lk (H : Hp) (k : Hp → Prop) : Prop := k H ∨ ∃ d u, H d = some u ∧ Mut (some u) ∧ ∀ od, k (upd H d (.frz od u))
def tLk (t : TE) : TE := fun σ H Q => t σ H fun x H1 => Lk H1 fun H2 => Q x H2
theorem pe_lk {X : Cx} {e : Expr} {t : TE} (h : PE X e t) : PE X e (tLk t) := by
  refine ⟨fun pins s σ H Q I q => ?_⟩
  refine thn (h.run pins s σ H _ I q) fun v s1 ⟨x, H1, I1, r, q⟩ => ?_
  rcases q with q | ⟨d, u, hd, mu, q⟩
  · exact ⟨x, H1, I1, r, q⟩
  · obtain ⟨od, I2⟩ := I1.lock hd mu
    exact ⟨x, _, I2, r, q od⟩
def updG (G : Hp) (a : Addr) (o : HO) : Hp := fun b => if b = a then some o else G b
theorem lock_sep {G H : Hp} {d : Addr} {u : HO} {od : Obj} (hu : IsDi u) (hG : G d = some u) (hH : H d = some u) : LockS G H (updG G d (.frz od u)) (upd H d (.frz od u)) := by
  have gg : Same G (updG G d (.frz od u)) := fun a o e => by
    unfold updG
    by_cases z : a = d
    · subst z
      rw [if_pos rfl]
      rw [hG] at e
      cases e
      exact .inr ⟨hu, od, rfl⟩
    · rw [if_neg z]; exact .inl e
  refine ⟨gg, fun A vs os ⟨F, h0, nd, hGn, hA, g⟩ => ?_⟩
  have nd' : ∀ b ∈ A ++ F, b ≠ d := fun b hb z => by
    have := hGn b hb
    rw [z, hG] at this
    cases this
  refine ⟨F, h0.chg gg (fun b hb => upd_ne (nd' b (List.mem_append_right _ hb))) (fun b o hb f => ?_), nd, fun b hb => ?_, fun b hb => ?_, fun a o e => ?_⟩
  · rw [upd_ne]
    · exact hb
    · rintro rfl
      rw [hH] at hb
      cases hb
      cases u <;> first | exact False.elim hu | exact False.elim f
  · unfold updG
    rw [if_neg (nd' b hb)]
    exact hGn b hb
  · obtain ⟨x, hx, nx⟩ := hA b hb
    exact ⟨x, by rw [upd_ne (nd' b (List.mem_append_left _ hb))]; exact hx, nx⟩
  · unfold updG at e
    by_cases z : a = d
    · subst z
      rw [if_pos rfl] at e
      cases e
      exact .inl upd_same
    · rw [if_neg z] at e
      rw [upd_ne z]
      exact g a o e
theorem lock_known {G H : Hp} {d : Addr} {u : HO} {od : Obj} (hu : IsDi u) (hG : G d = some u) (hH : H d = some (.frz od u)) : LockS G H (updG G d (.frz od u)) H := by
  have gg : Same G (updG G d (.frz od u)) := fun a o e => by
    unfold updG
    by_cases z : a = d
    · subst z
      rw [if_pos rfl]
      rw [hG] at e
      cases e
      exact .inr ⟨hu, od, rfl⟩
    · rw [if_neg z]; exact .inl e
  refine ⟨gg, fun A vs os ⟨F, h0, nd, hGn, hA, g⟩ => ?_⟩
  have nd' : ∀ b ∈ A ++ F, b ≠ d := fun b hb z => by
    have := hGn b hb
    rw [z, hG] at this
    cases this
  refine ⟨F, h0.chg gg (fun _ _ => rfl) (fun _ _ h _ => h), nd, fun b hb => ?_, hA, fun a o e => ?_⟩
  · unfold updG
    rw [if_neg (nd' b hb)]
    exact hGn b hb
  · unfold updG at e
    by_cases z : a = d
    · subst z
      rw [if_pos rfl] at e
      cases e
      exact .inl hH
    · rw [if_neg z] at e
      exact g a o e
theorem LockS.refl {G H : Hp} : LockS G H G H := ⟨Same.refl _, fun _ _ _ s => s⟩
theorem updG_at {G : Hp} {d : Addr} {o : HO} : updG G d o d = some o := by unfold updG; rw [if_pos rfl]
theorem mut_di {u : HO} (h : IsDi u) : Mut (some u) := by cases u <;> first | exact False.elim h | trivial
/-- a frozen dict can be had locked -/
theorem lk_of {G H : Hp} {d : Addr} {u o : HO} {k : Hp → Prop} (g : Same G H) (hu : IsDi u) (hG : G d = some o) (ho : o = u ∨ ∃ ob, o = .frz ob u) (h : ∀ od G' H', LockS G H G' H' → G' d = some (.frz od u) → H' d = some (.frz od u) → k H') : Lk H k := by
  rcases ho with rfl | ⟨ob, rfl⟩
  · rcases g _ _ hG with e | ⟨_, ob, e⟩
    · exact .inr ⟨d, o, e, mut_di hu, fun od => h od _ _ (lock_sep hu hG e) updG_at upd_same⟩
    · exact .inl (h ob _ _ (lock_known hu hG e) updG_at e)
  · have e : H d = some (.frz ob u) := g.ex hG (fun z => z)
    exact .inl (h ob G H .refl hG e)
/-! ### any sequence -/
def rAnyI (K : PySem.W.Frag) : V → Hp → (It → Hp → Prop) → Prop := fun x H R => (∃ a, x = .ref a ∧ (∃ xs, SqL K H a xs) ∧ R (Itl K a) H) ∨ (∃ a, x = .ref a ∧ (∃ xs, SqT K H a xs) ∧ R (Itt K a) H) ∨ (∃ z, x = .str z ∧ R (Its z) H) ∨
  ∃ d o, x = .ref d ∧ ((∃ kvs, H d = some (.frz o (.dK kvs)) ∧ R (Itk d o kvs) H) ∨ ∃ kvs, H d = some (.frz o (.dT kvs)) ∧ R (Itkt d o kvs) H)
theorem pi_any {X : Cx} {tg e : Expr} {te : TE} (he : PE X e te) : PI X tg e (fun σ H R => te σ H fun x H1 => rAnyI X.K x H1 R) := by
  refine ⟨fun pins s σ H R I h => ?_⟩
  refine thn (he.run pins s σ H _ I h) fun v s1 ⟨x, H1, I1, r1, q1⟩ => ?_
  rcases q1 with ⟨a, e, ⟨xs, hq⟩, q⟩ | ⟨a, e, ⟨xs, hq⟩, q⟩ | ⟨z, e, q⟩ | ⟨d, o, e, q⟩
  · subst e
    cases r1
    obtain ⟨its, rv, p, hz⟩ := I1.list hq
    refine wpAny_pyIter_list p.isList ?_
    exact pi_one (tk := s1.toks) I1 _ (turn_list a _) ⟨_, Heap.get?_push_size _ rfl, rfl, rfl⟩ q
  · subst e
    cases r1
    obtain ⟨its, rv, p, hz⟩ := I1.tuple hq
    refine wpAny_pyIter_tuple (show s1.heap.IsTuple a its.toArray from p) ?_
    exact pi_one (tk := s1.toks) I1 _ (turn_tuple a _) ⟨_, Heap.get?_push_size _ rfl, rfl, rfl⟩ q
  · subst e
    obtain ⟨t, rfl⟩ := r1
    cases ha : z.cps.all (· < 128)
    · exact wpAny_pyIter_wide ha (pi_one (tk := s1.toks) I1 _ (turn_str _ z t "str_iterator" (.inr rfl)) ⟨_, Heap.get?_push_size _ rfl, rfl, rfl⟩ q)
    · exact wpAny_pyIter_ascii ha (pi_one (tk := s1.toks) I1 _ (turn_str _ z t "str_ascii_iterator" (.inl rfl)) ⟨_, Heap.get?_push_size _ rfl, rfl, rfl⟩ q)
  · subst e
    obtain rfl : v = Value.ref d := r1
    rcases q with ⟨kvs, hd, q⟩ | ⟨kvs, hd, q⟩
    · obtain ⟨hs, hgd, hx, es, ep, vs, hdt, hsz, kv, hm⟩ := I1.frzK hd
      refine iter_keys hs hgd hx hdt (pi_one (tk := s1.toks) I1 _ (turn_keys _ hdt) ⟨_, Heap.get?_push_size _ rfl, rfl, ?_⟩ q)
      rw [hsz] <;> rfl
    · obtain ⟨hs, hgd, hx, es, ep, hdt, hsz, ent⟩ := I1.frzT hd
      refine iter_keys hs hgd hx hdt (pi_one (tk := s1.toks) I1 _ (turn_keysT _ hdt) ⟨_, Heap.get?_push_size _ rfl, rfl, ?_⟩ q)
      rw [hsz] <;> rfl
def chD (c : Nat) : D := .str ⟨#[c]⟩
/-- the items of a sequence; of a frozen dict the keys -/
def itAny : Itf := fun os => match os with
  | [.fz (.nd (.dK ks) _)] => some (ks.map keyD)
  | [.fz (.nd (.dT ks) _)] => some (ks.map fun k => .nd .tup (k.map keyD))
  | [.own (.lkK _ _ ks) _] => some (ks.map keyD)
  | [.own (.lkT _ _ ks) _] => some (ks.map fun k => .nd .tup (k.map keyD))
  | [o] => match o.sh with
    | .str z => some (z.cps.toList.map chD)
    | d => seqOf d
  | _ => none
theorem NewS.of_rp {G H : Hp} {v : V} {d : D} (r : Rp G v d) : NewS G H G H v (.fz d) := .old r
theorem keyD_rp {G : Hp} {k : Key} : Rp G (kV k) (keyD k) := by cases k <;> first | exact .int | exact .str
theorem zip_get {α β : Type} {xs : List α} {ys : List β} {i : Nat} {a : α} (h : xs.length = ys.length) (hx : xs[i]? = some a) : ∃ b, ys[i]? = some b ∧ (xs.zip ys)[i]? = some (a, b) := by
  have hi : i < ys.length := by rw [← h]; exact (List.getElem?_eq_some_iff.mp hx).1
  refine ⟨ys[i], List.getElem?_eq_getElem hi, ?_⟩
  rw [List.getElem?_zip_eq_some]
  exact ⟨hx, List.getElem?_eq_getElem hi⟩
theorem seqs_turn {K : PySem.W.Frag} {H : Hp} {v : V} {o : O} {xs : List D} (h : seqOf o.sh = some xs) {G : Hp} {F : List Addr} (g : Same G H) (ow : Ow G H v o F) : ∃ a vs, v = .ref a ∧ (SqL K H a vs ∨ SqT K H a vs) ∧ Rps G vs xs := seqOf_v (ow.sw g) h
/-- lists are no tuples -/
def isTupD : D → Bool
  | .nd .tup _ => true
  | _ => false
theorem seqL_at {K : PySem.W.Frag} {G H : Hp} {v : V} {d : D} {xs : List D} (s : Sw G H v d) (h : seqOf d = some xs) (n : isTupD d = false) : ∃ a vs, v = .ref a ∧ SqL K H a vs ∧ Rps G vs xs := by
  unfold seqOf at h
  split at h
  · cases h
    obtain ⟨a, vs, rfl, ha, r⟩ := sw_lst s
    exact ⟨a, vs, rfl, .inl (.inl ha), r⟩
  · cases h
    obtain ⟨a, o, vs, rfl, ha, sh, r⟩ := s
    obtain rfl := sh.ex rfl
    exact ⟨a, vs, rfl, .inl (.inr ⟨_, ha⟩), r⟩
  · cases n
  · cases h
theorem seqT_at {K : PySem.W.Frag} {G H : Hp} {v : V} {d : D} {xs : List D} (s : Sw G H v d) (h : seqOf d = some xs) (n : isTupD d = true) : ∃ a vs, v = .ref a ∧ SqT K H a vs ∧ Rps G vs xs := by
  unfold seqOf at h
  split at h
  · cases n
  · cases n
  · cases h
    obtain ⟨a, vs, rfl, ha, r⟩ := sw_tup s
    exact ⟨a, vs, rfl, .inl (.inl ha), r⟩
  · cases h
/-- the list, the tuple at an address, as the heap has it -/
theorem itl_d {K : PySem.W.Frag} {G0 : Hp} {a : Addr} {o : O} {xs : List D} (h : seqOf o.sh = some xs) (n : isTupD o.sh = false) : ItD G0 (Itl K a) [.ref a] [o] xs := fun i G H F g0 g ow => by
  cases ow with
  | cons ow r =>
    cases r
    obtain ⟨a', vs, e, sq, rp⟩ := seqL_at (K := K) (ow.sw g) h n
    cases e
    refine ⟨fun d hd => ?_, fun hi => ⟨vs, sq, by rw [rp.length, hi]; exact Nat.le_refl _⟩⟩
    obtain ⟨v, hv, rv⟩ := rps_at rp hd
    refine ⟨⟨vs, v, sq, hv⟩, fun x H' ⟨e, hx⟩ => ?_⟩
    subst e
    have := hx vs sq
    rw [hv] at this
    cases this
    exact ⟨G, .old rv⟩
theorem itt_d {K : PySem.W.Frag} {G0 : Hp} {a : Addr} {o : O} {xs : List D} (h : seqOf o.sh = some xs) (n : isTupD o.sh = true) : ItD G0 (Itt K a) [.ref a] [o] xs := fun i G H F g0 g ow => by
  cases ow with
  | cons ow r =>
    cases r
    obtain ⟨a', vs, e, sq, rp⟩ := seqT_at (K := K) (ow.sw g) h n
    cases e
    refine ⟨fun d hd => ?_, fun hi => ⟨vs, sq, by rw [rp.length, hi]; exact Nat.le_refl _⟩⟩
    obtain ⟨v, hv, rv⟩ := rps_at rp hd
    refine ⟨⟨vs, v, sq, hv⟩, fun x H' ⟨e, hx⟩ => ?_⟩
    subst e
    have := hx vs sq
    rw [hv] at this
    cases this
    exact ⟨G, .old rv⟩
theorem str_size {z : Str} : (z.cps.toList.map chD).length = z.cps.size := by simp
/-- a locked dict stays locked -/
theorem lk_stays {G0 G H : Hp} {d : Addr} {ob : Obj} {u : HO} (g0 : Same G0 G) (g : Same G H) (h : G0 d = some (.frz ob u)) : G d = some (.frz ob u) ∧ H d = some (.frz ob u) := by
  have h1 := g0.ex h (fun z => z)
  exact ⟨h1, g.ex h1 (fun z => z)⟩
theorem any_pi {K : PySem.W.Frag} : PiR (fun vs H R => ∃ x, vs = [x] ∧ Lk H fun H2 => rAnyI K x H2 R) itAny := fun G H vs os F items R g ow e q => by
  unfold itAny at e
  split at e
  · rename_i ks ds
    cases e
    cases ow with
    | cons ow r =>
      cases r
      cases ow with
      | fz rp =>
        cases rp with
        | @nd d o _ vs _ hG sh r =>
          obtain ⟨hk, ho⟩ := sh.dK
          refine ⟨_, rfl, lk_of g (u := .dK (ks.zip vs)) trivial hG ho fun od G' H' lk e1 e2 => ?_⟩
          refine .inr (.inr (.inr ⟨d, od, rfl, .inl ⟨_, e2, q _ H' G' lk fun i G2 H2 F2 g0 g2 _ => ?_⟩⟩))
          obtain ⟨z1, z2⟩ := lk_stays g0 g2 e1
          have hz : (ks.zip vs).length = ks.length := by rw [List.length_zip, hk, Nat.min_self]
          refine ⟨fun dd hd => ?_, fun hi => ⟨z2, by rw [hz, hi]; simp⟩⟩
          rw [List.getElem?_map] at hd
          obtain ⟨k, hk1, rfl⟩ := Option.map_eq_some_iff.mp hd
          have hlt := (List.getElem?_eq_some_iff.mp hk1).1
          refine ⟨⟨z2, by rw [hz]; exact hlt⟩, fun x H3 ⟨e3, k', v', hkv, ex⟩ => ?_⟩
          subst e3
          obtain ⟨v2, hv2, hzz⟩ := zip_get hk hk1
          rw [hzz] at hkv
          cases hkv
          subst ex
          exact ⟨G2, .old keyD_rp⟩
  · rename_i ks ds
    cases e
    cases ow with
    | cons ow r =>
      cases r
      cases ow with
      | fz rp =>
        cases rp with
        | @nd d o _ vs _ hG sh r =>
          obtain ⟨hk, ho⟩ := sh.dT
          refine ⟨_, rfl, lk_of g (u := .dT (ks.zip vs)) trivial hG ho fun od G' H' lk e1 e2 => ?_⟩
          refine .inr (.inr (.inr ⟨d, od, rfl, .inr ⟨_, e2, q _ H' G' lk fun i G2 H2 F2 g0 g2 _ => ?_⟩⟩))
          obtain ⟨z1, z2⟩ := lk_stays g0 g2 e1
          have hz : (ks.zip vs).length = ks.length := by rw [List.length_zip, hk, Nat.min_self]
          refine ⟨fun dd hd => ?_, fun hi => ⟨z2, by rw [hz, hi]; simp⟩⟩
          rw [List.getElem?_map] at hd
          obtain ⟨k, hk1, rfl⟩ := Option.map_eq_some_iff.mp hd
          have hlt := (List.getElem?_eq_some_iff.mp hk1).1
          refine ⟨⟨z2, by rw [hz]; exact hlt⟩, fun x H3 ⟨e3, k', v', qa, hkv, ex, hq⟩ => ?_⟩
          subst e3
          obtain ⟨v2, hv2, hzz⟩ := zip_get hk hk1
          rw [hzz] at hkv
          cases hkv
          subst ex
          exact ⟨_, .more (fun A ws os s => s.cons (rp_tkey g2 hq)) (Same.refl _)⟩
  · rename_i od lvs ks ps
    cases e
    cases ow with
    | cons ow r =>
      cases r
      cases ow with
      | @own d o _ vs _ _ hH sh r =>
        obtain ⟨rfl, hk, rfl⟩ := sh
        refine ⟨_, rfl, .inl (.inr (.inr (.inr ⟨d, od, rfl, .inl ⟨_, hH, q _ H G .refl fun i G2 H2 F2 g0 g2 ow2 => ?_⟩⟩)))⟩
        have z2 : H2 d = some (.frz od (.dK (ks.zip vs))) := by
          cases ow2 with
          | cons ow2 r2 =>
            cases r2
            cases ow2 with
            | own h2 sh2 _ =>
              obtain ⟨rfl, _, rfl⟩ := sh2
              exact h2
        have hz : (ks.zip vs).length = ks.length := by rw [List.length_zip, hk, Nat.min_self]
        refine ⟨fun dd hd => ?_, fun hi => ⟨z2, by rw [hz, hi]; simp⟩⟩
        rw [List.getElem?_map] at hd
        obtain ⟨k, hk1, rfl⟩ := Option.map_eq_some_iff.mp hd
        have hlt := (List.getElem?_eq_some_iff.mp hk1).1
        refine ⟨⟨z2, by rw [hz]; exact hlt⟩, fun x H3 ⟨e3, k', v', hkv, ex⟩ => ?_⟩
        subst e3
        obtain ⟨v2, hv2, hzz⟩ := zip_get hk hk1
        rw [hzz] at hkv
        cases hkv
        subst ex
        exact ⟨G2, .old keyD_rp⟩
  · rename_i od lvs ks ps
    cases e
    cases ow with
    | cons ow r =>
      cases r
      cases ow with
      | @own d o _ vs _ _ hH sh r =>
        obtain ⟨rfl, hk, rfl⟩ := sh
        refine ⟨_, rfl, .inl (.inr (.inr (.inr ⟨d, od, rfl, .inr ⟨_, hH, q _ H G .refl fun i G2 H2 F2 g0 g2 ow2 => ?_⟩⟩)))⟩
        have z2 : H2 d = some (.frz od (.dT (ks.zip vs))) := by
          cases ow2 with
          | cons ow2 r2 =>
            cases r2
            cases ow2 with
            | own h2 sh2 _ =>
              obtain ⟨rfl, _, rfl⟩ := sh2
              exact h2
        have hz : (ks.zip vs).length = ks.length := by rw [List.length_zip, hk, Nat.min_self]
        refine ⟨fun dd hd => ?_, fun hi => ⟨z2, by rw [hz, hi]; simp⟩⟩
        rw [List.getElem?_map] at hd
        obtain ⟨k, hk1, rfl⟩ := Option.map_eq_some_iff.mp hd
        have hlt := (List.getElem?_eq_some_iff.mp hk1).1
        refine ⟨⟨z2, by rw [hz]; exact hlt⟩, fun x H3 ⟨e3, k', v', qa, hkv, ex, hq⟩ => ?_⟩
        subst e3
        obtain ⟨v2, hv2, hzz⟩ := zip_get hk hk1
        rw [hzz] at hkv
        cases hkv
        subst ex
        exact ⟨_, .more (fun A ws os s => s.cons (rp_tkey g2 hq)) (Same.refl _)⟩
  · rename_i o _ _ _ _
    cases ow with
    | cons ow r =>
      cases r
      split at e
      · rename_i z hz
        cases e
        have sw := ow.sw g
        rw [hz] at sw
        obtain rfl := sw_str sw
        refine ⟨_, rfl, .inl (.inr (.inr (.inl ⟨z, rfl, q _ H G .refl fun i G2 H2 F2 g0 g2 _ => ?_⟩)))⟩
        refine ⟨fun dd hd => ?_, fun hi => by show z.cps.size ≤ i; rw [hi, str_size]; exact Nat.le_refl _⟩
        rw [List.getElem?_map] at hd
        obtain ⟨c, hc, rfl⟩ := Option.map_eq_some_iff.mp hd
        have hc2 : z.cps[i]? = some c := by simpa using hc
        refine ⟨by show i < z.cps.size; exact (Array.getElem?_eq_some_iff.mp hc2).1, fun x H3 ⟨e3, c', hc', ex⟩ => ?_⟩
        subst e3
        rw [hc2] at hc'
        cases hc'
        subst ex
        exact ⟨G2, .old .str⟩
      · cases hn : isTupD o.sh with
        | false =>
          obtain ⟨a, vs, rfl, sq, rp⟩ := seqL_at (K := K) (ow.sw g) e hn
          exact ⟨_, rfl, .inl (.inl ⟨a, rfl, ⟨vs, sq⟩, q _ H G .refl (itl_d e hn)⟩)⟩
        | true =>
          obtain ⟨a, vs, rfl, sq, rp⟩ := seqT_at (K := K) (ow.sw g) e hn
          exact ⟨_, rfl, .inl (.inr (.inl ⟨a, rfl, ⟨vs, sq⟩, q _ H G .refl (itt_d e hn)⟩))⟩
  · cases e
section
variable {Γ : Sg} {sc : Scope} {k : Nat} {tg e : Expr} {o : Opd} {ops : List Opd}
theorem te_one {mg : Str → Option Value} {W : WX} {σ : L2.St} {H : Hp} {o : Opd} {R : V → Hp → Prop} (q : tas mg W [o] σ H fun vs H1 => ∃ x, vs = [x] ∧ R x H1) : o.te mg W σ H R := unone1 q
theorem VI.any (h : VO Γ sc k e o) : VI Γ sc k tg e [o] itAny := ⟨h.1, fun X W ok tk => ⟨_, _, pi_any (pe_lk (h.2 X W ok tk)), any_pi (K := X.K), fun σ H R q => by
  show o.te X.mg W σ H fun x H1 => Lk H1 fun H2 => rAnyI X.K x H2 R
  exact unone1 q⟩⟩
/-! ### range -/
def smallI (i : Int) : Bool := smallB 4611686018427387903 i
def rngD (lo : Int) (n : Nat) (c : Int) : List D := (List.range n).map fun i => .int (lo + (i : Nat) * c)
def itRng1 : Itf := fun os => match os with
  | [.fz (.int j)] => if smallI j = true then some (rngD 0 j.toNat 1) else none
  | _ => none
def itRng2 : Itf := fun os => match os with
  | [.fz (.int i), .fz (.int j)] => if smallI i = true ∧ smallI j = true then some (rngD i (j - i).toNat 1) else none
  | _ => none
def itRng3 : Itf := fun os => match os with
  | [.fz (.int i), .fz (.int j), .fz (.int c)] => if smallI i = true ∧ smallI j = true ∧ c = -1 then some (rngD i (i - j).toNat (-1)) else none
  | _ => none
theorem rng_turn {G0 : Hp} {lo c : Int} {n : Nat} {vs : List V} {os : List O} : ItD G0 (Itc lo c n) vs os (rngD lo n c) := fun i G H F g0 g ow => by
  refine ⟨fun d hd => ?_, fun hi => by show n ≤ i; rw [hi]; simp [rngD]⟩
  unfold rngD at hd
  rw [List.getElem?_map] at hd
  obtain ⟨m, hm, rfl⟩ := Option.map_eq_some_iff.mp hd
  obtain ⟨h1, h2⟩ := List.getElem?_eq_some_iff.mp hm
  rw [List.getElem_range] at h2
  subst h2
  rw [List.length_range] at h1
  refine ⟨h1, fun x H' ⟨e, ex⟩ => ?_⟩
  subst e ex
  exact ⟨G, .old .int⟩
theorem rng_turn1 {G0 : Hp} {lo : Int} {n : Nat} {vs : List V} {os : List O} : ItD G0 (Itr lo n) vs os (rngD lo n 1) := fun i G H F g0 g ow => by
  refine ⟨fun d hd => ?_, fun hi => by show n ≤ i; rw [hi]; simp [rngD]⟩
  unfold rngD at hd
  rw [List.getElem?_map] at hd
  obtain ⟨m, hm, rfl⟩ := Option.map_eq_some_iff.mp hd
  obtain ⟨h1, h2⟩ := List.getElem?_eq_some_iff.mp hm
  rw [List.getElem_range] at h2
  subst h2
  rw [List.length_range] at h1
  refine ⟨h1, fun x H' ⟨e, ex⟩ => ?_⟩
  subst e ex
  rw [Int.mul_one]
  exact ⟨G, .old .int⟩
theorem fz_int {G H : Hp} {v : V} {i : Int} {F : List Addr} (h : Ow G H v (.fz (.int i)) F) : v = .int i := by cases h with | fz r => cases r; rfl
theorem small_at {i : Int} (h : smallI i = true) : -(2 ^ 62) ≤ i ∧ i < 2 ^ 62 := by
  have := smallB_iff.mp h
  omega
variable {e1 e2 e3 : Expr} {o1 o2 o3 : Opd} {p pos : Pos}
theorem VI.rng1 (g : isGl sc "range" = true) (hb : Γ.blt "range" = true) (ha : VA Γ sc k [e1] [o1]) (ns : [e1].all noStar = true) : VI Γ sc k tg (.Call (.Name "range" p) [e1] [] pos) [o1] itRng1 := ⟨ha.1, fun X W ok tk => by
  have ns' : noStar e1 = true := by simpa using ns
  refine ⟨_, fun vs H1 R => ∃ j : Int, vs = [.int j] ∧ -(2 ^ 62) ≤ j ∧ j < 2 ^ 62 ∧ R (Itr 0 j.toNat) H1, pi_range1 (ok.gl _ (isGl_at g)) (ok.g.blt _ hb) (ha.2 X W ok tk) (starEach_cons ns'), fun G H vs os F items R g ow e q => ?_, fun σ H R q => q⟩
  unfold itRng1 at e
  split at e
  · split at e
    · rename_i j hs
      cases e
      cases ow with
      | cons a r =>
        cases r
        obtain rfl := fz_int a
        obtain ⟨h1, h2⟩ := small_at hs
        exact ⟨j, rfl, h1, h2, q _ H G .refl rng_turn1⟩
    · cases e
  · cases e⟩
theorem VI.rng2 (g : isGl sc "range" = true) (hb : Γ.blt "range" = true) (ha : VA Γ sc k [e1, e2] [o1, o2]) (ns : [e1, e2].all noStar = true) : VI Γ sc k tg (.Call (.Name "range" p) [e1, e2] [] pos) [o1, o2] itRng2 := ⟨ha.1, fun X W ok tk => by
  have ns' : noStar e1 = true ∧ noStar e2 = true := by simpa using ns
  have hs2 : starEach [e1, e2] X.env = [(false, eval e1 X.env), (false, eval e2 X.env)] := by rw [starEach_cons ns'.1, starEach_cons ns'.2]; rfl
  refine ⟨_, fun vs H1 R => ∃ i j : Int, vs = [.int i, .int j] ∧ (-(2 ^ 62) ≤ i ∧ i < 2 ^ 62 ∧ -(2 ^ 62) ≤ j ∧ j < 2 ^ 62) ∧ R (Itr i (j - i).toNat) H1, pi_range2 (ok.gl _ (isGl_at g)) (ok.g.blt _ hb) (ha.2 X W ok tk) hs2 (by rw [starEach_cons ns'.2]; rfl), fun G H vs os F items R g ow e q => ?_, fun σ H R q => q⟩
  unfold itRng2 at e
  split at e
  · split at e
    · rename_i i j hs
      cases e
      cases ow with
      | cons a r => cases r with
        | cons b r =>
          cases r
          obtain rfl := fz_int a
          obtain rfl := fz_int b
          obtain ⟨h1, h2⟩ := small_at hs.1
          obtain ⟨h3, h4⟩ := small_at hs.2
          exact ⟨i, j, rfl, ⟨h1, h2, h3, h4⟩, q _ H G .refl rng_turn1⟩
    · cases e
  · cases e⟩
theorem VI.rng3 (g : isGl sc "range" = true) (hb : Γ.blt "range" = true) (ha : VA Γ sc k [e1, e2, e3] [o1, o2, o3]) (ns : [e1, e2, e3].all noStar = true) : VI Γ sc k tg (.Call (.Name "range" p) [e1, e2, e3] [] pos) [o1, o2, o3] itRng3 := ⟨ha.1, fun X W ok tk => by
  have ns' : noStar e1 = true ∧ noStar e2 = true ∧ noStar e3 = true := by simpa using ns
  refine ⟨_, fun vs H1 R => ∃ (i j c : Int) (n : Nat), vs = [.int i, .int j, .int c] ∧ RgC i j c n ∧ R (Itc i c n) H1, pi_range3 (ok.gl _ (isGl_at g)) (ok.g.blt _ hb) (ha.2 X W ok tk) (starEach_cons ns'.1) (backTo_plain (by simp [ns'.2.1, ns'.2.2])), fun G H vs os F items R g ow e q => ?_, fun σ H R q => q⟩
  unfold itRng3 at e
  split at e
  · split at e
    · rename_i i j c hs
      cases e
      cases ow with
      | cons a r => cases r with
        | cons b r => cases r with
          | cons d r =>
            cases r
            obtain rfl := fz_int a
            obtain rfl := fz_int b
            obtain rfl := fz_int d
            obtain ⟨h1, h2⟩ := small_at hs.1
            obtain ⟨h3, h4⟩ := small_at hs.2.1
            obtain rfl := hs.2.2
            exact ⟨i, j, -1, _, rfl, RgC.neg h1 h2 h3 h4, q _ H G .refl rng_turn⟩
    · cases e
  · cases e⟩
/-! ### enumerate, zip -/
def enumD : Nat → List D → List D
  | _, [] => []
  | n, d :: ds => .nd .tup [.int (n : Nat), d] :: enumD (n + 1) ds
theorem enumD_len : ∀ {ds : List D} {n : Nat}, (enumD n ds).length = ds.length
  | [], _ => rfl
  | d :: ds, n => by rw [enumD, List.length_cons, List.length_cons, enumD_len]
theorem enumD_at : ∀ {ds : List D} {n i : Nat} {d : D}, (enumD n ds)[i]? = some d → ∃ e, ds[i]? = some e ∧ d = .nd .tup [.int ((n + i : Nat)), e]
  | [], n, i, d, h => by simp [enumD] at h
  | e :: ds, n, 0, d, h => by
    simp only [enumD, List.getElem?_cons_zero, Option.some.injEq] at h
    exact ⟨e, rfl, h.symm⟩
  | e :: ds, n, i + 1, d, h => by
    rw [enumD, List.getElem?_cons_succ] at h
    obtain ⟨e', h1, h2⟩ := enumD_at h
    refine ⟨e', by simpa using h1, ?_⟩
    rw [h2, show n + 1 + i = n + (i + 1) by omega]
def itEnum : Itf := fun os => match os with
  | [o] => (seqOf o.sh).map (enumD 0)
  | _ => none
theorem rps_pair {G : Hp} {a b : V} {d e : D} (h1 : Rp G a d) (h2 : Rp G b e) : Rps G [a, b] [d, e] := .cons h1 (.cons h2 .nil)
theorem pi_enumA {X : Cx} {e : Expr} {ta : TA} {p pos tpos : Pos} {elts : List Expr} {kk : Nat} (hg : Gl X "enumerate") (hm : X.mg "enumerate" = none) (ha : PA X [e] ta) (hs : starEach [e] X.env = [(false, eval e X.env)]) :
    PI X (.Tuple elts kk tpos) (.Call (.Name "enumerate" p) [e] [] pos) (fun σ H R => ta σ H fun vs H1 => (∃ a xs, vs = [.ref a] ∧ SqL X.K H1 a xs ∧ R (Ite X.K a) H1) ∨ ∃ a xs, vs = [.ref a] ∧ SqT X.K H1 a xs ∧ R (IteT X.K a) H1) := by
  refine ⟨fun pins s σ H R I h => ?_⟩
  refine Call_ (ld_blt I hg hm boot_enumerate (PyProof.Rows.callWith_type1 (thn (ha.run pos pins s σ H _ I h) fun us s1 ⟨vs, H1, I1, r1, q1⟩ => ?_) hs rfl))
  have fp : ∀ b ∈ [s1.heap.objs.size + 1, s1.heap.objs.size], FpOk X pins H1 b := fun b hb => by
    have e' : b = s1.heap.objs.size + 1 ∨ b = s1.heap.objs.size := by simpa using hb
    have hle : s1.heap.objs.size ≤ b := by
      rcases e' with z | z
      · rw [z]; exact Nat.le_add_right _ _
      · rw [z]; exact Nat.le_refl _
    exact I1.fpOk hle (I1.hok.fresh hle)
  rcases q1 with ⟨a, xs, ex, hq, q⟩ | ⟨a, xs, ex, hq, q⟩
  · subst ex
    rw [Vals.ref1 r1]
    obtain ⟨its, rv, p', hz⟩ := I1.list hq
    refine call_enumerate_list p'.isList fun h' he hit hsz hk => wpAny_pyIter_enum he ?_
    have I2 : Inv X pins σ H1 { s1 with heap := h' } := I1.kept (t' := s1.toks) hk
    exact ⟨s1.heap.objs.size + 1, [s1.heap.objs.size + 1, s1.heap.objs.size], _, _, H1, rfl, I2, turn_enum a (s1.heap.objs.size + 1) s1.heap.objs.size, ⟨⟨.none, he⟩, hit, Nat.succ_ne_self _⟩, fp, q⟩
  · subst ex
    rw [Vals.ref1 r1]
    obtain ⟨its, rv, p', hz⟩ := I1.tuple hq
    have hal : a < s1.heap.objs.size := by obtain ⟨o, ho, _⟩ := p'; exact Heap.lt_size ho
    refine enum1_begins (begins_tuple a its.toArray) (show s1.heap.IsTuple a its.toArray from p') fun h' he hit hk => wpAny_pyIter_enum he ?_
    have I2 : Inv X pins σ H1 { s1 with heap := h' } := I1.kept (t' := s1.toks) hk
    exact ⟨s1.heap.objs.size + 1, [s1.heap.objs.size + 1, s1.heap.objs.size], _, _, H1, rfl, I2, turn_enumT a (s1.heap.objs.size + 1) s1.heap.objs.size (Nat.ne_of_lt (Nat.lt_succ_of_lt hal)) (Nat.ne_of_lt hal), ⟨⟨.none, he⟩, ⟨_, hit, rfl, rfl⟩, Nat.succ_ne_self _⟩, fp, q⟩
theorem VI.enum {elts : List Expr} {kk : Nat} {tpos : Pos} (g : isGl sc "enumerate" = true) (hb : Γ.blt "enumerate" = true) (ha : VA Γ sc k [e1] [o1]) (ns : [e1].all noStar = true) : VI Γ sc k (.Tuple elts kk tpos) (.Call (.Name "enumerate" p) [e1] [] pos) [o1] itEnum := ⟨ha.1, fun X W ok tk => by
  have ns' : noStar e1 = true := by simpa using ns
  refine ⟨_, _, pi_enumA (ok.gl _ (isGl_at g)) (ok.g.blt _ hb) (ha.2 X W ok tk) (starEach_cons ns'), fun G H vs os F items R g ow e q => ?_, fun σ H R q => q⟩
  unfold itEnum at e
  split at e
  · rename_i o
    obtain ⟨xs, h1, rfl⟩ := Option.map_eq_some_iff.mp e
    cases ow with
    | cons ow r =>
      cases r
      have pair : ∀ {G2 H2 : Hp} {i : Nat} {d : D} {v : V} {T : Addr} {ds : List D} {vs' : List V}, Same G2 H2 → Rps G2 vs' ds → (enumD 0 ds)[i]? = some d → vs'[i]? = some v → H2 T = none → ∃ G3, NewS G2 H2 G3 (upd H2 T (.tup [.int (i : Nat), v])) (.ref T) (.fz d) := fun {G2 H2 i d v T ds vs'} g2 rp hd hv hT => by
        obtain ⟨e', h3, rfl⟩ := enumD_at hd
        obtain ⟨v', hv', rv⟩ := rps_at rp h3
        rw [hv] at hv'
        cases hv'
        rw [Nat.zero_add]
        exact NewS.tup g2 hT (rps_pair .int rv)
      cases hn : isTupD o.sh with
      | false =>
        obtain ⟨a, vs, rfl, sq, rp⟩ := seqL_at (K := X.K) (ow.sw g) h1 hn
        refine .inl ⟨a, vs, rfl, sq, q _ H G .refl fun i G2 H2 F2 g0 g2 ow2 => ?_⟩
        cases ow2 with
        | cons ow2 r2 =>
          cases r2
          obtain ⟨a', vs2, ea, sq2, rp2⟩ := seqL_at (K := X.K) (ow2.sw g2) h1 hn
          cases ea
          refine ⟨fun d hd => ?_, fun hi => ⟨vs2, sq2, by rw [rp2.length, hi, enumD_len]; exact Nat.le_refl _⟩⟩
          obtain ⟨e', h3, _⟩ := enumD_at hd
          obtain ⟨v, hv, rv⟩ := rps_at rp2 h3
          refine ⟨⟨vs2, v, sq2, hv⟩, fun x H' ⟨T, x', e3, hT, e4, hx⟩ => ?_⟩
          have hx2 := hx vs2 sq2
          subst e3 e4
          exact pair g2 rp2 hd hx2 hT
      | true =>
        obtain ⟨a, vs, rfl, sq, rp⟩ := seqT_at (K := X.K) (ow.sw g) h1 hn
        refine .inr ⟨a, vs, rfl, sq, q _ H G .refl fun i G2 H2 F2 g0 g2 ow2 => ?_⟩
        cases ow2 with
        | cons ow2 r2 =>
          cases r2
          obtain ⟨a', vs2, ea, sq2, rp2⟩ := seqT_at (K := X.K) (ow2.sw g2) h1 hn
          cases ea
          refine ⟨fun d hd => ?_, fun hi => ⟨vs2, sq2, by rw [rp2.length, hi, enumD_len]⟩⟩
          obtain ⟨e', h3, _⟩ := enumD_at hd
          obtain ⟨v, hv, rv⟩ := rps_at rp2 h3
          refine ⟨⟨vs2, v, sq2, hv⟩, fun x H' ⟨T, x', e3, hT, e4, hx⟩ => ?_⟩
          have hx2 := hx vs2 sq2
          subst e3 e4
          exact pair g2 rp2 hd hx2 hT
  · cases e⟩
def zipD : List D → List D → List D
  | a :: as, b :: bs => .nd .tup [a, b] :: zipD as bs
  | _, _ => []
theorem zipD_at : ∀ {xs ys : List D} {i : Nat} {d : D}, (zipD xs ys)[i]? = some d → ∃ a b, xs[i]? = some a ∧ ys[i]? = some b ∧ d = .nd .tup [a, b]
  | [], _, i, d, h => by simp [zipD] at h
  | _ :: _, [], i, d, h => by simp [zipD] at h
  | a :: xs, b :: ys, 0, d, h => by
    simp only [zipD, List.getElem?_cons_zero, Option.some.injEq] at h
    exact ⟨a, b, rfl, rfl, h.symm⟩
  | a :: xs, b :: ys, i + 1, d, h => by
    rw [zipD, List.getElem?_cons_succ] at h
    obtain ⟨a', b', h1, h2, h3⟩ := zipD_at h
    exact ⟨a', b', by simpa using h1, by simpa using h2, h3⟩
theorem zipD_len : ∀ {xs ys : List D}, (zipD xs ys).length = min xs.length ys.length
  | [], _ => by simp [zipD]
  | _ :: _, [] => by simp [zipD]
  | a :: xs, b :: ys => by rw [zipD, List.length_cons, zipD_len, List.length_cons, List.length_cons]; omega
def itZip : Itf := fun os => match os with
  | [o1, o2] => if isTupD o1.sh = isTupD o2.sh then (seqOf o1.sh).bind fun xs => (seqOf o2.sh).map fun ys => zipD xs ys else none
  | _ => none
theorem VI.zip {elts : List Expr} {kk : Nat} {tpos : Pos} (g : isGl sc "zip" = true) (hb : Γ.blt "zip" = true) (ha : VA Γ sc k [e1, e2] [o1, o2]) (ns : [e1, e2].all noStar = true) : VI Γ sc k (.Tuple elts kk tpos) (.Call (.Name "zip" p) [e1, e2] [] pos) [o1, o2] itZip := ⟨ha.1, fun X W ok tk => by
  have ns' : noStar e1 = true ∧ noStar e2 = true := by simpa using ns
  refine ⟨_, fun vs H1 R => ∃ a b xs ys, vs = [.ref a, .ref b] ∧ ((SqL X.K H1 a xs ∧ SqL X.K H1 b ys ∧ R (Itz X.K a b) H1) ∨ (SqT X.K H1 a xs ∧ SqT X.K H1 b ys ∧ R (RZ.ItzT X.K a b) H1)), RZ.pi_zipA (ok.gl _ (isGl_at g)) (ok.g.blt _ hb) (ha.2 X W ok tk) (starEach_cons ns'.1) (backTo_plain (by simp [ns'.2])), fun G H vs os F items R g ow e q => ?_, fun σ H R q => q⟩
  unfold itZip at e
  split at e
  · rename_i q1 q2
    split at e
    · rename_i hne
      obtain ⟨xs, h1, e⟩ := Option.bind_eq_some_iff.mp e
      obtain ⟨ys, h2, rfl⟩ := Option.map_eq_some_iff.mp e
      have pair : ∀ {G2 H2 : Hp} {i : Nat} {d : D} {v w : V} {T : Addr} {vs' ws' : List V}, Same G2 H2 → Rps G2 vs' xs → Rps G2 ws' ys → (zipD xs ys)[i]? = some d → vs'[i]? = some v → ws'[i]? = some w → H2 T = none → ∃ G3, NewS G2 H2 G3 (upd H2 T (.tup [v, w])) (.ref T) (.fz d) := fun {G2 H2 i d v w T vs' ws'} g2 rp rp' hd hv hw hT => by
        obtain ⟨a', b', h3, h4, rfl⟩ := zipD_at hd
        obtain ⟨v', hv', rv⟩ := rps_at rp h3
        obtain ⟨w', hw', rw'⟩ := rps_at rp' h4
        rw [hv] at hv'
        rw [hw] at hw'
        cases hv'
        cases hw'
        exact NewS.tup g2 hT (rps_pair rv rw')
      cases ow with
      | cons ow r => cases r with
        | cons ow' r =>
          cases r
          cases hn : isTupD q1.sh with
          | false =>
            have hn' : isTupD q2.sh = false := by rw [← hne]; exact hn
            obtain ⟨a, vs, rfl, sq, rp⟩ := seqL_at (K := X.K) (ow.sw g) h1 hn
            obtain ⟨b, ws, rfl, sq', rp'⟩ := seqL_at (K := X.K) (ow'.sw g) h2 hn'
            refine ⟨a, b, vs, ws, rfl, .inl ⟨sq, sq', q _ H G .refl fun i G2 H2 F2 g0 g2 ow2 => ?_⟩⟩
            cases ow2 with
            | cons ow2 r2 => cases r2 with
              | cons ow3 r2 =>
                cases r2
                obtain ⟨_, vs2, ea, sq2, rp2⟩ := seqL_at (K := X.K) (ow2.sw g2) h1 hn
                cases ea
                obtain ⟨_, ws2, ea, sq3, rp3⟩ := seqL_at (K := X.K) (ow3.sw g2) h2 hn'
                cases ea
                refine ⟨fun d hd => ?_, fun hi => ⟨vs2, ws2, sq2, sq3, by rw [zipD_len] at hi; rw [rp2.length, rp3.length]; omega⟩⟩
                obtain ⟨a', b', h3, h4, _⟩ := zipD_at hd
                obtain ⟨v, hv, rv⟩ := rps_at rp2 h3
                obtain ⟨w, hw, rw'⟩ := rps_at rp3 h4
                refine ⟨⟨vs2, ws2, v, w, sq2, sq3, hv, hw⟩, fun x H' ⟨T, x', y', e3, hT, e4, hx, hy⟩ => ?_⟩
                have hx2 := hx vs2 sq2
                have hy2 := hy ws2 sq3
                subst e3 e4
                exact pair g2 rp2 rp3 hd hx2 hy2 hT
          | true =>
            have hn' : isTupD q2.sh = true := by rw [← hne]; exact hn
            obtain ⟨a, vs, rfl, sq, rp⟩ := seqT_at (K := X.K) (ow.sw g) h1 hn
            obtain ⟨b, ws, rfl, sq', rp'⟩ := seqT_at (K := X.K) (ow'.sw g) h2 hn'
            refine ⟨a, b, vs, ws, rfl, .inr ⟨sq, sq', q _ H G .refl fun i G2 H2 F2 g0 g2 ow2 => ?_⟩⟩
            cases ow2 with
            | cons ow2 r2 => cases r2 with
              | cons ow3 r2 =>
                cases r2
                obtain ⟨_, vs2, ea, sq2, rp2⟩ := seqT_at (K := X.K) (ow2.sw g2) h1 hn
                cases ea
                obtain ⟨_, ws2, ea, sq3, rp3⟩ := seqT_at (K := X.K) (ow3.sw g2) h2 hn'
                cases ea
                refine ⟨fun d hd => ?_, fun hi => ⟨vs2, ws2, sq2, sq3, by rw [zipD_len] at hi; rw [rp2.length, rp3.length]; omega⟩⟩
                obtain ⟨a', b', h3, h4, _⟩ := zipD_at hd
                obtain ⟨v, hv, rv⟩ := rps_at rp2 h3
                obtain ⟨w, hw, rw'⟩ := rps_at rp3 h4
                refine ⟨⟨vs2, ws2, v, w, sq2, sq3, hv, hw⟩, fun x H' ⟨T, x', y', e3, hT, e4, hx, hy⟩ => ?_⟩
                have hx2 := hx vs2 sq2
                have hy2 := hy ws2 sq3
                subst e3 e4
                exact pair g2 rp2 rp3 hd hx2 hy2 hT
    · cases e
  · cases e⟩
end
end VS
namespace VS
open PySem PySem.Spec PyProof.Rows L2
/-! ### d.values(), d.items() -/
def itVals : Itf := fun os => match os with
  | [.fz (.nd (.dK ks) ds)] => some ds
  | _ => none
def itItems : Itf := fun os => match os with
  | [.fz (.nd (.dK ks) ds)] => some (zipD (ks.map keyD) ds)
  | _ => none
section
variable {Γ : Sg} {sc : Scope} {k : Nat} {tg e : Expr} {o : Opd} {ops : List Opd} {apos cpos : Pos}
theorem zip_get2 {α β : Type} {xs : List α} {ys : List β} {i : Nat} {b : β} (h : xs.length = ys.length) (hx : ys[i]? = some b) : ∃ a, xs[i]? = some a ∧ (xs.zip ys)[i]? = some (a, b) := by
  have hi : i < xs.length := by rw [h]; exact (List.getElem?_eq_some_iff.mp hx).1
  refine ⟨xs[i], List.getElem?_eq_getElem hi, ?_⟩
  rw [List.getElem?_zip_eq_some]
  exact ⟨List.getElem?_eq_getElem hi, hx⟩
theorem VI.vals (h : VO Γ sc k e o) (hb : notCall0 e = true) (hl : (apos.endLine == cpos.line) = true) : VI Γ sc k tg (.Call (.Attribute e "values" apos) [] [] cpos) [o] itVals := ⟨h.1, fun X W ok tk => by
  refine ⟨_, fun vs H R => ∃ x, vs = [x] ∧ Lk H fun H2 => ∃ d ob kvs, x = .ref d ∧ H2 d = some (.frz ob (.dK kvs)) ∧ R (Itd d ob kvs) H2, pi_values (pe_lk (h.2 X W ok tk)) (base_plain hb) hl, fun G H vs os F items R g ow e q => ?_, fun σ H R q => unone1 q⟩
  unfold itVals at e
  split at e
  · rename_i ks ds
    cases e
    cases ow with
    | cons ow r =>
      cases r
      cases ow with
      | fz rp =>
        cases rp with
        | @nd d o _ vs _ hG sh r =>
          obtain ⟨hk, ho⟩ := sh.dK
          refine ⟨_, rfl, lk_of g (u := .dK (ks.zip vs)) trivial hG ho fun od G' H' lk e1 e2 => ?_⟩
          refine ⟨d, od, _, rfl, e2, q _ H' G' lk fun i G2 H2 F2 g0 g2 _ => ?_⟩
          obtain ⟨z1, z2⟩ := lk_stays g0 g2 e1
          have hz : (ks.zip vs).length = vs.length := by rw [List.length_zip, hk, Nat.min_self]
          have r2 := r.mono (lk.1.trans g0)
          refine ⟨fun dd hd => ?_, fun hi => ⟨z2, by rw [hz, hi, r.length]; exact Nat.le_refl _⟩⟩
          obtain ⟨v, hv, rv⟩ := rps_at r2 hd
          have hlt := (List.getElem?_eq_some_iff.mp hv).1
          refine ⟨⟨z2, by rw [hz]; exact hlt⟩, fun x H3 ⟨e3, k', hkv⟩ => ?_⟩
          subst e3
          obtain ⟨k2, hk2, hzz⟩ := zip_get2 hk hv
          rw [hzz] at hkv
          cases hkv
          exact ⟨G2, .old rv⟩
  · cases e⟩
theorem VI.items {elts : List Expr} {kk : Nat} {tpos : Pos} (h : VO Γ sc k e o) (hb : notCall0 e = true) (hl : (apos.endLine == cpos.line) = true) : VI Γ sc k (.Tuple elts kk tpos) (.Call (.Attribute e "items" apos) [] [] cpos) [o] itItems := ⟨h.1, fun X W ok tk => by
  refine ⟨_, fun vs H R => ∃ x, vs = [x] ∧ Lk H fun H2 => ∃ d ob kvs, x = .ref d ∧ H2 d = some (.frz ob (.dK kvs)) ∧ R (Iti d ob kvs) H2, pi_items (pe_lk (h.2 X W ok tk)) (base_plain hb) hl, fun G H vs os F items R g ow e q => ?_, fun σ H R q => unone1 q⟩
  unfold itItems at e
  split at e
  · rename_i ks ds
    cases e
    cases ow with
    | cons ow r =>
      cases r
      cases ow with
      | fz rp =>
        cases rp with
        | @nd d o _ vs _ hG sh r =>
          obtain ⟨hk, ho⟩ := sh.dK
          refine ⟨_, rfl, lk_of g (u := .dK (ks.zip vs)) trivial hG ho fun od G' H' lk e1 e2 => ?_⟩
          refine ⟨d, od, _, rfl, e2, q _ H' G' lk fun i G2 H2 F2 g0 g2 _ => ?_⟩
          obtain ⟨z1, z2⟩ := lk_stays g0 g2 e1
          have hz : (ks.zip vs).length = vs.length := by rw [List.length_zip, hk, Nat.min_self]
          have r2 := r.mono (lk.1.trans g0)
          refine ⟨fun dd hd => ?_, fun hi => ⟨z2, by rw [hz, hi, zipD_len, List.length_map, r.length.symm, hk, Nat.min_self]; exact Nat.le_refl _⟩⟩
          obtain ⟨a', b', h3, h4, rfl⟩ := zipD_at hd
          obtain ⟨v, hv, rv⟩ := rps_at r2 h4
          have hlt := (List.getElem?_eq_some_iff.mp hv).1
          obtain ⟨k2, hk2, hzz⟩ := zip_get2 hk hv
          rw [List.getElem?_map, hk2] at h3
          cases h3
          refine ⟨⟨z2, by rw [hz]; exact hlt⟩, fun x H3 ⟨T, k', v', hkv, ex, hT, e3⟩ => ?_⟩
          rw [hzz] at hkv
          cases hkv
          subst ex e3
          exact NewS.tup g2 hT (rps_pair keyD_rp rv)
  · cases e⟩
/-- any iterable is no set display -/
def notSet : Expr → Bool
  | .Set .. => false
  | _ => true
theorem folded_no {e : Expr} (h : notSet e = true) (env : Env) (x : Value) : foldedSetIterable e env x = pure x := by
  cases e <;> first | rfl | cases h
/-! ## comprehensions, as values -/
def vYes : DT := fun E c Q => Q true c
theorem vYes_mono : MonoT vYes := fun E E' c Q Q' hE hQ h => hQ _ _ h
def VTs (Γ : Sg) (sc : Scope) (k : Nat) (ifs : List Expr) (t : DT) : Prop := MonoT t ∧ ∀ X W, OkX Γ sc k X → Takes X W → PTs X ifs (liftT X.mg W t)
theorem _root_.L2.PTs.impV {X : Cx} {ifs : List Expr} {t u : TT} (h : PTs X ifs t) (hi : ∀ σ H Q, u σ H Q → t σ H Q) : PTs X ifs u := ⟨fun pins s σ H Q I q => h.run pins s σ H Q I (hi _ _ _ q)⟩
theorem VTs.nil : VTs Γ sc k [] vYes := ⟨vYes_mono, fun X W ok tk => pts_nil.impV fun σ H Q ⟨c, G, vsL, osL, sl, sp, q⟩ => q H G (Same.refl _) sl sp⟩
theorem VTs.one {c : Expr} {t : DT} (h : VT Γ sc k c t) : VTs Γ sc k [c] t := ⟨h.1, fun X W ok tk => pts_one (h.2 X W ok tk)⟩
variable {scope : Scope} {own : List (Str × Nat)} {elt iter : Expr} {ifs : List Expr} {g : DG} {tt : DT} {te : DE} {itf : Itf} {pos : Pos}
theorem own_lt {X : Cx} {own : List (Str × Nat)} (ok : OkX Γ sc k X) (hB : blkC Γ.N sc scope own = true) {σ : L2.St} (hl : σ.length = X.N.length) : ∀ i ∈ own.map (·.2), i < σ.length := fun i hi => by
  obtain ⟨p, hp, rfl⟩ := List.mem_map.mp hi
  have := (blkOk_by hB).ix p hp
  rw [hl, ok.N]
  exact (List.getElem?_eq_some_iff.mp this).1
theorem _root_.L2.PE.impL {X : Cx} {e : Expr} {t u : TE} (h : PE X e t) (hi : ∀ σ H Q, σ.length = X.N.length → u σ H Q → t σ H Q) : PE X e u := ⟨fun pins s σ H Q I q => h.run pins s σ H Q I (hi _ _ _ I.len q)⟩
theorem VE.lc (hi : VI Γ sc k tg iter ops itf) (hg : VG Γ scope k (own.map (·.2)) tg g) (ht : VTs Γ scope k ifs tt) (he : VE Γ scope k elt te) (hB : blkC Γ.N sc scope own = true) (hs : notSet iter = true) :
    VE Γ sc k (.ListComp elt [⟨tg, iter, ifs, 0⟩] scope pos) (vLc (own.map (·.2)) ops itf g tt te) := by
  refine ⟨vLc_mono hi.1 hg.1 ht.1 he.1, fun X W ok tk => ?_⟩
  obtain ⟨wi, r, h1, h2, h3⟩ := hi.2 X W ok tk
  have kf := (blkOk_by hB).kind
  refine (pe_lc (g := liftG (own.map (·.2)) g) (tt := liftT X.mg (fun _ _ _ _ => False) tt) (te := liftE X.mg (fun _ _ _ _ => False) te) ok.calm ok.nd h1 (blkOk_at ok hB) (fun s H C cl fp => hg.2 _ (ok.blk kf s H C cl fp)) (fun s H C cl fp => ht.2 _ _ (ok.blk kf s H C cl fp) takes_none) (fun s H C cl fp => he.2 _ _ (ok.blk kf s H C cl fp) takes_none) (folded_no hs _)).impL fun σ H Q hl q => ?_
  exact vLc_run hi.1 hg.1 ht.1 he.1 h2 h3 (own_lt ok hB hl) q
/-- name = [..], on one line, the name no name of the block -/
def swC (sc scope : Scope) (y : Str) (py pos : Pos) : Bool := (match sc.names.lookup y with
  | some .local => true
  | _ => false) && (py.line == pos.line) && !(scope.names.any fun (n, k) => n == y && (k == .local || k == .cell))
theorem swC_at {sc scope : Scope} {y : Str} {py pos : Pos} (h : swC sc scope y py pos = true) : sc.names.lookup y = some .local ∧ (py.line == pos.line) = true ∧ (scope.names.any fun (n, k) => n == y && (k == .local || k == .cell)) = false := by
  unfold swC at h
  simp only [Bool.and_eq_true, Bool.not_eq_true'] at h
  refine ⟨?_, h.1.2, h.2⟩
  have := h.1.1
  split at this
  · assumption
  · cases this
/-- .. the name a cell: stored as any other value -/
def swN (sc : Scope) (y : Str) : Bool := match sc.names.lookup y with
  | some .cell => true
  | _ => false
variable {P : List Nat} {y : Str} {py spos : Pos} {i : Nat}
theorem VSt.asgLc (hx : asgOf Γ sc y = some i) (hP : i ∈ P) (sw : swC sc scope y py pos = true) (hi : VI Γ sc k tg iter ops itf) (hg : VG Γ scope k (own.map (·.2)) tg g) (ht : VTs Γ scope k ifs tt) (he : VE Γ scope k elt te) (hB : blkC Γ.N sc scope own = true) (hs : notSet iter = true) :
    VSt Γ sc k P (.Assign [.Name y py] (.ListComp elt [⟨tg, iter, ifs, 0⟩] scope pos) spos) (vAsg i (vLc (own.map (·.2)) ops itf g tt te)) := by
  have m := vLc_mono hi.1 hg.1 ht.1 he.1 (vs := own.map (·.2)) (itf := itf)
  refine ⟨vAsg_mono m, fun X W ok tk => ⟨fun pins s σ H D I q => ?_⟩⟩
  obtain ⟨wi, r, h1, h2, h3⟩ := hi.2 X W ok tk
  obtain ⟨w1, w2, w3⟩ := swC_at sw
  obtain ⟨n1, n2⟩ := asgOf_at hx
  have kf := (blkOk_by hB).kind
  have hyl := ok.loc y w1
  refine (ps_setLc (i := i) (g := liftG (own.map (·.2)) g) (tt := liftT X.mg (fun _ _ _ _ => False) tt) (te := liftE X.mg (fun _ _ _ _ => False) te) ok.calm ok.nd (by rw [ok.N]; exact n1) hyl (sw_true ok.kind hyl w2 w3) h1 (blkOk_at ok hB) (fun s H C cl fp => hg.2 _ (ok.blk kf s H C cl fp)) (fun s H C cl fp => ht.2 _ _ (ok.blk kf s H C cl fp) takes_none) (fun s H C cl fp => he.2 _ _ (ok.blk kf s H C cl fp) takes_none) (folded_no hs _)).run pins s σ H D I ?_
  have q2 := vAsg_run (n := 0) m (by rw [I.len, ok.N]; exact (List.getElem?_eq_some_iff.mp n1).1) hP q
  have hl := I.len
  exact vLc_run hi.1 hg.1 ht.1 he.1 h2 h3 (own_lt ok hB hl) q2
theorem swap_cell {elt : Expr} {gs : List Comprehension} {scope : Scope} {pos py : Pos} {y : Str} {l : Nat} {env : Env} (hk : env.scope.kind = .function) (hy : env.scope.names.lookup y = some .cell) : swapsWith (.ListComp elt gs scope pos) (some (.Name y py)) l env = pure false := by
  have ky : env.kindOf y = some .cell := hy
  have hb : env.blockKind = .function := by unfold Env.blockKind; rw [hk]; rfl
  unfold swapsWith
  simp only [hb, ky]
  rfl
theorem swN_at {sc : Scope} {y : Str} (h : swN sc y = true) : sc.names.lookup y = some .cell := by
  unfold swN at h
  split at h
  · assumption
  · cases h
theorem VSt.asgLcN {gs : List Comprehension} {t : DE} (hx : asgOf Γ sc y = some i) (hP : i ∈ P) (sw : swN sc y = true) (h : VE Γ sc k (.ListComp elt gs scope pos) t) : VSt Γ sc k P (.Assign [.Name y py] (.ListComp elt gs scope pos) spos) (vAsg i t) := by
  obtain ⟨h1, h3⟩ := asgOf_at hx
  refine ⟨vAsg_mono h.1, fun X W ok tk => ?_⟩
  obtain ⟨q1, q2⟩ := ok.loc' h3
  refine (ps_set (i := i) ok.nd (by rw [ok.N]; exact h1) q1 (h.2 X W ok tk) (swap_cell ok.kind (ok.cel _ (swN_at sw)).1) q2).impL fun D σ H hl q => ?_
  exact vAsg_run (n := 0) h.1 (by rw [hl, ok.N]; exact (List.getElem?_eq_some_iff.mp h1).1) hP q
end
end VS
namespace VS
open PySem PySem.Spec PyProof.Rows L2
/-! ## {k: v for t in it if c} -/
def putP {κ : Type} [DecidableEq κ] (ks : List κ) (os : List O) (k : κ) (v : O) : List κ × List O := if hasK ks k = true then (ks, setKs ks os k (.fz v.view)) else (ks ++ [k], os ++ [v])
theorem putO_P {κ : Type} [DecidableEq κ] {tg : List κ → Tag} {ks : List κ} {os : List O} {k : κ} {v : O} : putO tg ks os k v = .own (tg (putP ks os k v).1) (putP ks os k v).2 := by
  unfold putO putP
  split <;> rfl
def vDcL (vs : List Nat) (kp : Cf → Prop) (g : DG) (tt : DT) (tk tv : DE) : List D → List Key → List O → Cf → (List Key → List O → Cf → Prop) → Prop
  | [], ks, os, c, k => kp c ∧ k ks os c
  | d :: ds, ks, os, c, k => kp c ∧ g (.fz d) c fun c1 => tt noX c1 fun b c2 => if b = true then tk noX c2 fun ko c3 => tv noX c3 fun vo c4 => ob (keyOf ko.sh) fun kk => os.length < sizeLine ∧ vDcL vs kp g tt tk tv ds (putP ks os kk vo).1 (putP ks os kk vo).2 (dropAll vs c4) k else vDcL vs kp g tt tk tv ds ks os (dropAll vs c2) k
def vDc (vs : List Nat) (ops : List Opd) (itf : Itf) (g : DG) (tt : DT) (tk tv : DE) : DE := fun E c Q => evOps ops E c fun ts c1 => ob (opsO ops c1 ts) fun dl => ob (itf dl) fun items =>
  vDcL vs (keepOps ops c1) g tt tk tv items [] [] (hide vs c1).1 fun ks os c2 => Q (.own (.dK ks) os) (restore vs (hide vs c1).2 c2)
theorem vDcL_mono {vs : List Nat} {kp : Cf → Prop} {g : DG} {tt : DT} {tk tv : DE} (mg : MonoG g) (mt : MonoT tt) (mk : Mono tk) (mv : Mono tv) : ∀ {items : List D} {ks : List Key} {os : List O} {c : Cf} {k k' : List Key → List O → Cf → Prop}, (∀ a b c, k a b c → k' a b c) → vDcL vs kp g tt tk tv items ks os c k → vDcL vs kp g tt tk tv items ks os c k'
  | [], ks, os, c, k, k', hk, h => ⟨h.1, hk _ _ _ h.2⟩
  | d :: ds, ks, os, c, k, k', hk, h => ⟨h.1, mg _ _ _ _ (fun c1 q => mt _ _ _ _ _ (fun _ _ _ z => z) (fun b c2 q => by
      cases b with
      | true => exact mk _ _ _ _ _ (fun _ _ _ z => z) (fun o c3 q => mv _ _ _ _ _ (fun _ _ _ z => z) (fun vo c4 q => by
          obtain ⟨kk, e, z1, z2⟩ := ob_iff.mp q
          exact ob_iff.mpr ⟨kk, e, z1, vDcL_mono mg mt mk mv hk z2⟩) q) q
      | false => exact vDcL_mono mg mt mk mv hk q) q) h.2⟩
theorem vDc_mono {vs : List Nat} {ops : List Opd} {itf : Itf} {g : DG} {tt : DT} {tk tv : DE} (m : MonoO ops) (mg : MonoG g) (mt : MonoT tt) (mk : Mono tk) (mv : Mono tv) : Mono (vDc vs ops itf g tt tk tv) := fun E E' c Q Q' hE hQ h => evOps_mono m _ _ _ _ _ hE (fun ts c1 q => by
  obtain ⟨dl, e1, q⟩ := ob_iff.mp q
  obtain ⟨items, e2, q⟩ := ob_iff.mp q
  exact ob_iff.mpr ⟨dl, e1, ob_iff.mpr ⟨items, e2, vDcL_mono mg mt mk mv (fun a b c z => hQ _ _ z) q⟩⟩) h
theorem vDc_run {mg : Str → Option Value} {W : WX} {σ : L2.St} {H : Hp} {Q : VK} {vs : List Nat} {ops : List Opd} {itf : Itf} {g : DG} {tt : DT} {tk tv : DE} {wi : TI} {r : List V → Hp → (It → Hp → Prop) → Prop} (m : MonoO ops) (mg' : MonoG g) (mt : MonoT tt) (mk : Mono tk) (mv : Mono tv) (pr : PiR r itf) (hw : ∀ σ H R, (tas mg W ops σ H fun vs H1 => r vs H1 R) → wi σ H R)
    (hvs : ∀ i ∈ vs, i < σ.length) (h : liftE mg W (vDc vs ops itf g tt tk tv) σ H Q) : tDc wi (liftG vs g) (liftT mg (fun _ _ _ _ => False) tt) (liftE mg (fun _ _ _ _ => False) tk) (liftE mg (fun _ _ _ _ => False) tv) vs σ H Q := by
  obtain ⟨c, G, vsL, osL, sl, sp, h⟩ := h
  refine hw σ H _ ?_
  refine ops_run m sl sp h (fun _ _ _ q => q) fun ts c1 tvs H1 G1 g1 sl1 ht sp1 q => ?_
  obtain ⟨dl, e1, qa⟩ := ob_iff.mp q
  obtain ⟨items, e2, k⟩ := ob_iff.mp qa
  clear q qa
  obtain ⟨F0, ow0⟩ := ows_ops sp1 ht sl1.len e1
  have fz1 := fzOps_of (ops := ops) sp1 ht sl1.len
  refine pr G1 H1 _ dl F0 items _ sp1.same ow0 e2 fun J H1' G1' lk hJ => ?_
  have sp1 := lk.2 _ _ _ sp1
  have fz1 : FzOps G1' ops c1 (vals σ) := fun j hj d e => let ⟨v, q1, q2⟩ := fz1 j hj d e; ⟨v, q1, q2.mono lk.1⟩
  have g1 := g1.trans lk.1
  clear ow0
  generalize H1' = H1 at *
  generalize G1' = G1 at *
  intro D hD
  have sA : Sep G1 H1 (vals σ ++ (tvs ++ vsL)) (c1 ++ (ts ++ osL)) := SepA.rot (ws := tvs) (ps := ts) (vs2 := vals σ) (os2 := c1) sp1 ht sl1.len
  obtain ⟨kv, hkv, slB, sB, back⟩ := hide_sep sl1 sA hvs
  have hks := (hide_len (is := vs) (c := c1)).2
  have hbl : (vals (wipe σ vs)).length = (hide vs c1).1.length := by rw [slB.len]
  generalize hks' : (hide vs c1).2 = ks0 at *
  have hkk : kv.length = ks0.length := by rw [hkv, hks]
  let St := fun (i : Nat) (H' : Hp) => ∃ (ks : List Key) (acc : List O) (c' : Cf) (G' : Hp), Same G1 G' ∧ Slots (wipe σ vs) c' ∧ Own0 vs c' ∧ Sep G' H' (vals (wipe σ vs) ++ (kv ++ (V.ref D :: (tvs ++ vsL)))) (c' ++ (ks0 ++ (O.own (.dK ks) acc :: (ts ++ osL)))) ∧
    vDcL vs (keepOps ops c1) g tt tk tv (items.drop i) ks acc c' fun ks acc c2 => KE σ vsL osL G Q (.own (.dK ks) acc) (restore vs ks0 c2)
  refine ⟨fun i n H' => i + n = items.length ∧ St i H', ⟨items.length, by omega, [], [], (hide vs c1).1, G1, Same.refl _, slB, ?_, ?_, k⟩, ?_⟩
  · intro i hi
    rw [hide_drop]
    exact (drop_sep (is := vs) sl1 sA hvs).2.2 i hi
  · have s1 : Sep G1 (upd H1 D (.dK [])) (V.ref D :: (vals (wipe σ vs) ++ (kv ++ (tvs ++ vsL)))) (O.own (.dK []) [] :: ((hide vs c1).1 ++ (ks0 ++ (ts ++ osL)))) := SepA.make (ws := []) (ps := []) (o := .dK []) sB hD rfl ⟨rfl, rfl⟩ rfl
    have s2 : Sep G1 (upd H1 D (.dK [])) (V.ref D :: ((vals (wipe σ vs) ++ kv) ++ (tvs ++ vsL))) (O.own (.dK []) [] :: (((hide vs c1).1 ++ ks0) ++ (ts ++ osL))) := by simpa using s1
    have s3 := SepA.one s2 (by simp [hbl, hkk])
    simpa using s3
  rintro i n H2 ⟨en, ks, acc, c2, G2, g2, sl2, ow2, sp2, k2⟩
  have hc2 : c2.length = σ.length := by rw [sl2.1, wipe_length]
  have hvw : (vals (wipe σ vs)).length = c2.length := sl2.len
  have sws : keepOps ops c1 c2 → ∃ F, Ows G2 H2 (mergeV ops (vals σ) tvs) dl F := fun kp => by
    have s1 : Sep G2 H2 ((vals (wipe σ vs) ++ (kv ++ [V.ref D])) ++ (tvs ++ vsL)) ((c2 ++ (ks0 ++ [O.own (.dK ks) acc])) ++ (ts ++ osL)) := by simpa using sp2
    have s2 := SepA.rot (ws := vals (wipe σ vs) ++ (kv ++ [V.ref D])) (ps := c2 ++ (ks0 ++ [O.own (.dK ks) acc])) s1 (by simp [hvw, hkk]) ht
    have s3 : Sep G2 H2 (tvs ++ (vals (wipe σ vs) ++ ((kv ++ [V.ref D]) ++ vsL))) (ts ++ (c2 ++ ((ks0 ++ [O.own (.dK ks) acc]) ++ osL))) := by simpa using s2
    refine ows_keep (vs0 := vals σ) s3 ht hvw e1 (fun j hj d e => let ⟨v, q1, q2⟩ := fz1 j hj d e; ⟨v, q1, q2.mono g2⟩) kp fun j hj t os e => ?_
    have hn : j ∉ vs := fun z => by
      have z1 := kp j hj t os e
      rw [ow2 j z] at z1
      cases z1
    unfold vals
    rw [List.getElem?_map, List.getElem?_map, wipe_at hn]
  by_cases hi : i < items.length
  · have hd : items.drop i = items[i] :: items.drop (i + 1) := List.drop_eq_getElem_cons hi
    rw [hd] at k2
    obtain ⟨kp, k2⟩ := k2
    obtain ⟨F2, sw2⟩ := sws kp
    obtain ⟨go, st⟩ := (hJ i G2 H2 F2 g2 sp2.same sw2).1 items[i] (List.getElem?_eq_getElem hi)
    refine .inr ⟨go, fun H' => St (i + 1) H', fun H' q => ⟨n - 1, by omega, by omega, q⟩, fun x H3 hy => ?_⟩
    obtain ⟨G3, nw⟩ := st x H3 hy
    have sp3 := nw.2 _ _ _ sp2
    refine ⟨.fz items[i], c2, G3, _, _, sl2, sp3, ?_⟩
    refine mg' _ _ _ _ (fun c3 q3 => ?_) k2
    intro σ4 H4 G4 g4 p4 l4 sl4 sp4
    have hlv : ∀ i ∈ vs, i < σ4.length := fun i hi => by rw [l4, wipe_length]; exact hvs i hi
    have fin : ∀ {ks' : List Key} {acc' : List O} {c' : Cf} {G' H' : Hp}, Same G4 G' → Slots σ4 c' → Sep G' H' (vals σ4 ++ (kv ++ (V.ref D :: (tvs ++ vsL)))) (c' ++ (ks0 ++ (O.own (.dK ks') acc' :: (ts ++ osL)))) → vDcL vs (keepOps ops c1) g tt tk tv (items.drop (i + 1)) ks' acc' (dropAll vs c') (fun ks acc c2 => KE σ vsL osL G Q (.own (.dK ks) acc) (restore vs ks0 c2)) → St (i + 1) H' := fun {ks' acc' c' G' H'} g' sl' sp' q' => by
      obtain ⟨d1, d2, d3⟩ := drop_sep (is := vs) sl' sp' hlv
      rw [pins_wipe p4] at d1 d2
      exact ⟨ks', acc', dropAll vs c', G', g2.trans (nw.1.trans (g4.trans g')), d1, d3, d2, q'⟩
    refine ⟨pins_wipe p4, liftT.of mt sl4 sp4 q3 (fun _ _ _ z => z.elim) fun b c5 H5 G5 g5 sl5 sp5 q5 => ?_⟩
    cases b with
    | false => exact fin g5 sl5 sp5 q5
    | true =>
      refine liftE.of mk sl5 sp5 q5 (fun _ _ _ z => z.elim) fun ko c6 kval H6 G6 g6 sl6 sp6 q6 => ?_
      have swk := sp6.sw1
      -- the key's value behind
      have sp6' : Sep G6 H6 (vals σ4 ++ (kval :: (kv ++ (V.ref D :: (tvs ++ vsL))))) (c6 ++ (ko :: (ks0 ++ (O.own (.dK ks) acc :: (ts ++ osL))))) := SepA.one sp6 sl6.len
      refine liftE.of mv sl6 sp6' q6 (fun _ _ _ z => z.elim) fun vo c7 v H7 G7 g7 sl7 sp7 q7 => ?_
      obtain ⟨kk, ek, hz, q8⟩ := ob_iff.mp q7
      have hky : kval = kV kk := sw_key swk ek
      -- the key's value is dropped, the dict comes to the front
      have s1 : Sep G7 H7 ((v :: vals σ4) ++ (kval :: (kv ++ (V.ref D :: (tvs ++ vsL))))) ((vo :: c7) ++ (ko :: (ks0 ++ (O.own (.dK ks) acc :: (ts ++ osL))))) := by simpa using sp7
      have s2 := (SepA.unone s1 (by simp [sl7.len])).tail
      have s3 : Sep G7 H7 ((v :: (vals σ4 ++ kv)) ++ (V.ref D :: (tvs ++ vsL))) ((vo :: (c7 ++ ks0)) ++ (O.own (.dK ks) acc :: (ts ++ osL))) := by simpa using s2
      have s4 := SepA.unone s3 (by simp [sl7.len, hkk])
      obtain ⟨a, ws, ea, ha, hk1, hw1, G8, g8, s5⟩ := put_sep1 (k := kk) shape_dK (fun _ => rfl) (SepA.swap s4)
      cases ea
      refine ⟨_, kk, hky, ha, by rw [List.length_zip, hk1, Nat.min_self, hw1]; exact hz, ?_⟩
      rw [putO_P] at s5
      have s6 := SepA.one s5 (by simp [sl7.len, hkk])
      exact fin (g5.trans (g6.trans (g7.trans g8))) sl7 (by simpa using s6) q8
  · have hd : items.drop i = [] := List.drop_eq_nil_of_le (by omega)
    rw [hd] at k2
    obtain ⟨kp, k2⟩ := k2
    obtain ⟨F2, sw2⟩ := sws kp
    refine .inl ⟨(hJ i G2 H2 F2 g2 sp2.same sw2).2 (by omega), ?_⟩
    have s1 := back (ws' := V.ref D :: (tvs ++ vsL)) hc2 ow2 sp2
    have slR : Slots σ (restore vs ks0 c2) := by
      refine restore_slots hc2 (fun j o hj nj => ?_) ?_
      · obtain ⟨v, hv⟩ := sl2.2 j o hj nj
        exact ⟨v, (wipe_some hv).1⟩
      · rw [← hks']
        exact (hide_known sl1).1
    have s2 := SepA.unone s1 (by rw [slR.len])
    have s3 : Sep G2 H2 ((V.ref D :: vals σ) ++ (tvs ++ vsL)) ((O.own (.dK ks) acc :: restore vs ks0 c2) ++ (ts ++ osL)) := by simpa using s2
    have s4 := SepA.rot s3 (by simp [slR.len]) ht
    exact k2 _ H2 G2 (g1.trans g2) slR (by simpa using dropN ht s4)
section
variable {Γ : Sg} {sc : Scope} {k : Nat} {tg e : Expr} {ops : List Opd} {scope : Scope} {own : List (Str × Nat)} {kx vx iter : Expr} {ifs : List Expr} {g : DG} {tt : DT} {tk tv : DE} {itf : Itf} {pos : Pos} {P : List Nat} {y : Str} {py spos : Pos} {i : Nat}
theorem VE.dc (hi : VI Γ sc k tg iter ops itf) (hg : VG Γ scope k (own.map (·.2)) tg g) (ht : VTs Γ scope k ifs tt) (hk : VE Γ scope k kx tk) (hv : VE Γ scope k vx tv) (hB : blkC Γ.N sc scope own = true) (hs : notSet iter = true) :
    VE Γ sc k (.DictComp kx vx [⟨tg, iter, ifs, 0⟩] scope pos) (vDc (own.map (·.2)) ops itf g tt tk tv) := by
  refine ⟨vDc_mono hi.1 hg.1 ht.1 hk.1 hv.1, fun X W ok tk' => ?_⟩
  obtain ⟨wi, r, h1, h2, h3⟩ := hi.2 X W ok tk'
  have kf := (blkOk_by hB).kind
  refine (pe_dc (g := liftG (own.map (·.2)) g) (tt := liftT X.mg (fun _ _ _ _ => False) tt) (tk := liftE X.mg (fun _ _ _ _ => False) tk) (tv := liftE X.mg (fun _ _ _ _ => False) tv) ok.calm ok.nd h1 (blkOk_at ok hB) (fun s H C cl fp => hg.2 _ (ok.blk kf s H C cl fp)) (fun s H C cl fp => ht.2 _ _ (ok.blk kf s H C cl fp) takes_none)
    (fun s H C cl fp => hk.2 _ _ (ok.blk kf s H C cl fp) takes_none) (fun s H C cl fp => hv.2 _ _ (ok.blk kf s H C cl fp) takes_none) (folded_no hs _)).impL fun σ H Q hl q => ?_
  exact vDc_run hi.1 hg.1 ht.1 hk.1 hv.1 h2 h3 (own_lt ok hB hl) q
theorem swD_true {kx vx : Expr} {gs : List Comprehension} {scope : Scope} {pos py : Pos} {y : Str} {l : Nat} {env : Env} (hk : env.scope.kind = .function) (hy : env.scope.names.lookup y = some .local) (hl : (py.line == pos.line) = true)
    (ha : (scope.names.any fun (n, k) => n == y && (k == .local || k == .cell)) = false) : swapsWith (.DictComp kx vx gs scope pos) (some (.Name y py)) l env = pure true := by
  have ky : env.kindOf y = some .local := hy
  have hb : env.blockKind = .function := by unfold Env.blockKind; rw [hk]; rfl
  unfold swapsWith
  simp only [hb, ky, ha, Expr.pos, hl]
  rfl
theorem swD_cell {kx vx : Expr} {gs : List Comprehension} {scope : Scope} {pos py : Pos} {y : Str} {l : Nat} {env : Env} (hk : env.scope.kind = .function) (hy : env.scope.names.lookup y = some .cell) : swapsWith (.DictComp kx vx gs scope pos) (some (.Name y py)) l env = pure false := by
  have ky : env.kindOf y = some .cell := hy
  have hb : env.blockKind = .function := by unfold Env.blockKind; rw [hk]; rfl
  unfold swapsWith
  simp only [hb, ky]
  rfl
theorem ps_setDc {X : Cx} {i : Nat} {y : Str} {py : Pos} {kx vx tg iter : Expr} {ifs : List Expr} {scope : Scope} {own : List (Str × Nat)} {pos spos : Pos} {wi : TI} {g : TG} {tt : TT} {tk tv : TE} (hc : X.calm = true) (hN : X.N.Nodup) (hy : X.N[i]? = some y) (hyl : X.env.scope.names.lookup y = some .local)
    (hsw : swapsWith (.DictComp kx vx [⟨tg, iter, ifs, 0⟩] scope pos) (some (.Name y py)) spos.line X.env = pure true) (hi : PI X tg iter wi) (ok : BlkOk X.N X.env.scope scope own)
    (hg : ∀ (s : Shared) (H : Hp) (C : Addr) (cl : List (Str × Addr)) (fp : List Addr), PG (X.blk s H scope (compEnvC scope cl C X.env) fp) tg g) (ht : ∀ (s : Shared) (H : Hp) (C : Addr) (cl : List (Str × Addr)) (fp : List Addr), PTs (X.blk s H scope (compEnvC scope cl C X.env) fp) ifs tt)
    (hk : ∀ (s : Shared) (H : Hp) (C : Addr) (cl : List (Str × Addr)) (fp : List Addr), PE (X.blk s H scope (compEnvC scope cl C X.env) fp) kx tk)
    (he : ∀ (s : Shared) (H : Hp) (C : Addr) (cl : List (Str × Addr)) (fp : List Addr), PE (X.blk s H scope (compEnvC scope cl C X.env) fp) vx tv) (hs : ∀ x, foldedSetIterable iter X.env x = pure x) :
    PS X (.Assign [.Name y py] (.DictComp kx vx [⟨tg, iter, ifs, 0⟩] scope pos) spos) (tAsg (tDc wi g tt tk tv (own.map (·.2))) (gName i)) := by
  refine ⟨fun pins s σ H D I h => ?_⟩
  rw [exec_Assign_Name_used _ _ _ _ hsw]
  refine wpAny_bind (wpAny_standAt (wpAny_bind ?_))
  show wpAny _ X.A (do let _ ← comprehension (.DictComp kx vx [⟨tg, iter, ifs, 0⟩] scope pos) scope X.env (firstIterPos [⟨tg, iter, ifs, 0⟩] pos) newDict false (eval iter X.env) (some (assign (.Name y py) X.env))) _ _ s
  have h : tDc wi g tt tk tv (own.map (·.2)) σ H (fun x H1 => gName i x σ H1 D.nx) := h
  refine wpAny_bind (thn (dc_core (Qf := fun _ s' => SP X pins D .next s') hc hN I hi ok hg ht hk he hs h fun L C s' m H' I' q hn f => ?_) fun _ s' hq => wpAny_pure (wpAny_pure hq))
  show wpAny _ _ (assign (.Name y py) X.env (.ref L)) _ _ _
  refine wpAny_assign_Name (store_ok2 (v := V.ref L) I' hN hy (.inl hyl) rfl (fun s2 I2 ⟨a, sb, ha⟩ => ?_) (.inr hyl))
  obtain ⟨f0, f1, f2, f3, f4, f5⟩ := f
  have haC : C ≠ a := by
    rcases ha with z | z
    · rw [z]; exact f1
    · exact fun e => f4 y a z e.symm
  refine ⟨m, hn.sameBut sb haC, fun h3 sb3 => ?_⟩
  exact ⟨_, H', I2.turned (t' := s2.toks) (fun b o hb e => (sb3.2 b hb).trans e) f0 f1 f3 f4 f5, q⟩
theorem VSt.asgDc (hx : asgOf Γ sc y = some i) (hP : i ∈ P) (sw : swC sc scope y py pos = true) (hi : VI Γ sc k tg iter ops itf) (hg : VG Γ scope k (own.map (·.2)) tg g) (ht : VTs Γ scope k ifs tt) (hk : VE Γ scope k kx tk) (hv : VE Γ scope k vx tv) (hB : blkC Γ.N sc scope own = true) (hs : notSet iter = true) :
    VSt Γ sc k P (.Assign [.Name y py] (.DictComp kx vx [⟨tg, iter, ifs, 0⟩] scope pos) spos) (vAsg i (vDc (own.map (·.2)) ops itf g tt tk tv)) := by
  have m := vDc_mono hi.1 hg.1 ht.1 hk.1 hv.1 (vs := own.map (·.2)) (itf := itf)
  refine ⟨vAsg_mono m, fun X W ok tk' => ⟨fun pins s σ H D I q => ?_⟩⟩
  obtain ⟨wi, r, h1, h2, h3⟩ := hi.2 X W ok tk'
  obtain ⟨w1, w2, w3⟩ := swC_at sw
  obtain ⟨n1, n2⟩ := asgOf_at hx
  have kf := (blkOk_by hB).kind
  have hyl := ok.loc y w1
  refine (ps_setDc (i := i) (g := liftG (own.map (·.2)) g) (tt := liftT X.mg (fun _ _ _ _ => False) tt) (tk := liftE X.mg (fun _ _ _ _ => False) tk) (tv := liftE X.mg (fun _ _ _ _ => False) tv) ok.calm ok.nd (by rw [ok.N]; exact n1) hyl (swD_true ok.kind hyl w2 w3) h1 (blkOk_at ok hB)
    (fun s H C cl fp => hg.2 _ (ok.blk kf s H C cl fp)) (fun s H C cl fp => ht.2 _ _ (ok.blk kf s H C cl fp) takes_none) (fun s H C cl fp => hk.2 _ _ (ok.blk kf s H C cl fp) takes_none) (fun s H C cl fp => hv.2 _ _ (ok.blk kf s H C cl fp) takes_none) (folded_no hs _)).run pins s σ H D I ?_
  have q2 := vAsg_run (n := 0) m (by rw [I.len, ok.N]; exact (List.getElem?_eq_some_iff.mp n1).1) hP q
  have hl := I.len
  exact vDc_run hi.1 hg.1 ht.1 hk.1 hv.1 h2 h3 (own_lt ok hB hl) q2
theorem VSt.asgDcN {gs : List Comprehension} {t : DE} (hx : asgOf Γ sc y = some i) (hP : i ∈ P) (sw : swN sc y = true) (h : VE Γ sc k (.DictComp kx vx gs scope pos) t) : VSt Γ sc k P (.Assign [.Name y py] (.DictComp kx vx gs scope pos) spos) (vAsg i t) := by
  obtain ⟨h1, h3⟩ := asgOf_at hx
  refine ⟨vAsg_mono h.1, fun X W ok tk => ?_⟩
  obtain ⟨q1, q2⟩ := ok.loc' h3
  refine (ps_set (i := i) ok.nd (by rw [ok.N]; exact h1) q1 (h.2 X W ok tk) (swD_cell ok.kind (ok.cel _ (swN_at sw)).1) q2).impL fun D σ H hl q => ?_
  exact vAsg_run (n := 0) h.1 (by rw [hl, ok.N]; exact (List.getElem?_eq_some_iff.mp h1).1) hP q
end
end VS
namespace VS
open PySem PySem.Spec PyProof.Rows L2
/-! ## t[::-1] of a tuple -/
section
variable {prog : Program} {w : World} {A : Around} {E : Value → Shared → Prop} {s : Shared}
theorem adj_rev (n : Nat) : Builtin.Slice.sliceAdjust none none (-1) (n : Int) = ((n : Int) - 1, -1) := by
  unfold Builtin.Slice.sliceAdjust
  simp
theorem places_rev (n : Nat) : Builtin.Slice.slicePlaces ((n : Int) - 1) (-1) (-1) = n := by
  unfold Builtin.Slice.slicePlaces
  simp
  omega
theorem applied_rev {sl : Addr} {vl vu vs : Value} {n : Nat} {Q : Int × Int × Nat → Shared → Prop} (hs : s.heap.IsSliceOf sl vl vu vs) (pl : IsPart vl none) (pu : IsPart vu none) (ps : IsPart vs (some (-1)))
    (h : Q ((n : Int) - 1, -1, n) s) : wpAny (model prog w) A (Builtin.Slice.sliceApplied (.ref sl) (pure (n : Int))) Q E s := by
  obtain ⟨os, hos, hcs, hds⟩ := id hs
  unfold Builtin.Slice.sliceApplied Builtin.Slice.sliceFields
  refine wpAny_bind (wpAny_bind (wpAny_field hos hds (x := vl) rfl (wpAny_bind (wpAny_field hos hds (x := vu) rfl (wpAny_bind (wpAny_field hos hds (x := vs) rfl (wpAny_pure ?_)))))))
  refine wpAny_bind (HT.slicePart_ ps ?_)
  show wpAny _ _ (if ((-1 : Int) == 0) = true then _ else _) _ _ s
  rw [if_neg (by decide)]
  refine wpAny_bind (HT.slicePart_ pl (wpAny_bind (HT.slicePart_ pu (wpAny_bind (wpAny_pure ?_)))))
  show wpAny _ _ (match Builtin.Slice.sliceAdjust none none (-1) (n : Int) with | (lo, hi) => pure (lo, (-1 : Int), Builtin.Slice.slicePlaces lo hi (-1))) _ _ s
  rw [adj_rev n]
  show wpAny _ _ (pure ((n : Int) - 1, (-1 : Int), Builtin.Slice.slicePlaces ((n : Int) - 1) (-1) (-1))) _ _ s
  rw [places_rev]
  exact wpAny_pure h
theorem filterMap_some {α β : Type} {f : α → Option β} {g : α → β} : ∀ {l : List α}, (∀ m ∈ l, f m = some (g m)) → l.filterMap f = l.map g
  | [], _ => rfl
  | a :: l, h => by rw [List.filterMap_cons, h a (List.mem_cons_self ..), List.map_cons, filterMap_some fun m hm => h m (List.mem_cons_of_mem _ hm)]
theorem pick_rev (xs : Array Value) : ((List.range xs.size).filterMap fun (m : Nat) => xs[(((xs.size : Int) - 1) + (m : Int) * (-1)).toNat]?).toArray = xs.toList.reverse.toArray := by
  congr 1
  have e : (List.range xs.size).filterMap (fun (m : Nat) => xs[(((xs.size : Int) - 1) + (m : Int) * (-1)).toNat]?) = (List.range xs.size).map (fun m => xs.toList.reverse.getD m .none) := by
    refine filterMap_some fun m hm => ?_
    have hm' : m < xs.size := List.mem_range.mp hm
    have e1 : (((xs.size : Int) - 1) + (m : Int) * (-1)).toNat = xs.size - 1 - m := by omega
    rw [e1]
    have h2 : xs.size - 1 - m < xs.size := by omega
    rw [Array.getElem?_eq_getElem h2]
    rw [List.getD_eq_getElem?_getD, List.getElem?_eq_getElem (by simpa using hm')]
    simp [List.getElem_reverse]
  rw [e]
  apply List.ext_getElem
  · simp
  · intro i h1 h2
    simp only [List.getElem_map, List.getElem_range, List.getD_eq_getElem?_getD, List.getElem?_eq_getElem h2, Option.getD_some]
theorem getItem_tuple_rev {t sl : Addr} {items : Array Value} {vl vu vs : Value} {Q : Value → Shared → Prop} (ht : IsTup s.heap t items) (hs : s.heap.IsSliceOf sl vl vu vs) (pl : IsPart vl none) (pu : IsPart vu none) (ps : IsPart vs (some (-1)))
    (h : Q (.ref s.heap.objs.size) { s with heap := s.heap.push { cls := .type "tuple", data := .seq items.toList.reverse.toArray } }) (hsz : items.size ≤ sizeLine) : wpAny (model prog w) A (getItem (.ref t) (.ref sl)) Q E s := by
  have hok : sizeOk (.seq items.toList.reverse.toArray) := by
    show items.toList.reverse.toArray.size ≤ sizeLine
    rw [List.size_toArray, List.length_reverse, Array.length_toList]
    exact hsz
  obtain ⟨os, hos, hcs, hds⟩ := id hs
  have hTs : s.TypeIs (.ref sl) "slice" := ⟨os, hos, hcs⟩
  unfold getItem
  try with_reducible refine wpAny_holding ?_
  first | refine wpAny_bind (wpAny_pure ?_) | skip
  refine wpAny_bind (wpAny_sequenceKey ht.typeIs (by decide) ?_)
  refine wpAny_bind (wpAny_callSpecial?_slot (name := Str.ofString "__getitem__") ht.typeIs PyProof.Rows.slot_tuple_getitem
    (wpAny_call_entry PyProof.Rows.slot_tuple_getitem ht.typeIs entry_tuple_getitem ?_ (args_tuple_getitem _ _)))
  show wpAny _ _ (Builtin.Tuple.tupleItemsOf (.ref t) >>= _) _ _ s
  refine wpAny_bind (tupleItemsOf_ ht ?_)
  refine wpAny_bind (wpAny_typeOf hTs ?_)
  rw [if_pos (by decide)]
  refine wpAny_bind (applied_rev hs pl pu ps ?_)
  have hno : ¬ ((((items.size : Int) - 1 == 0 && (-1 : Int) == 1 && items.size == items.size) = true)) := by
    intro q
    rw [Bool.and_eq_true, Bool.and_eq_true] at q
    exact absurd q.1.2 (by decide)
  show wpAny _ _ (if (((items.size : Int) - 1 == 0 && (-1 : Int) == 1 && items.size == items.size) = true) then _ else _) _ _ s
  rw [if_neg hno, pick_rev]
  first
    | exact wpAny_bind (m := Builtin.Tuple.tupleExact _) (wpAny_newObj_type (wpAny_pure ⟨_, rfl, wpAny_pure h⟩) hok)
    | exact wpAny_bind (m := Builtin.Tuple.tupleExact _) (wpAny_newObj_type (wpAny_bind (wpAny_pure (wpAny_pure ⟨_, rfl, wpAny_pure h⟩))) hok)
    | exact wpAny_bind (wpAny_bind (m := Builtin.Tuple.tupleExact _) (wpAny_newObj_type (wpAny_pure (wpAny_pure ⟨_, rfl, wpAny_pure h⟩)) hok))
    | exact wpAny_bind (wpAny_bind (m := Builtin.Tuple.tupleExact _) (wpAny_newObj_type (wpAny_pure ⟨_, rfl, wpAny_pure h⟩) hok))
end
def rRevA (K : PySem.W.Frag) : V → Hp → VK → Prop := fun x H1 Q => (∃ a xs, x = .ref a ∧ SqL K H1 a xs ∧ ∀ p, H1 p = none → Q (.ref p) (upd H1 p (.lst xs.reverse))) ∨ ∃ a xs, x = .ref a ∧ SqT K H1 a xs ∧ ∀ p, H1 p = none → Q (.ref p) (upd H1 p (.tup xs.reverse))
theorem pe_revA {X : Cx} {e : Expr} {te : TE} {k : Nat} {p1 p2 p3 pos : Pos} (he : PE X e te) : PE X (.Subscript e (.Slice none none (some (.UnaryOp .USub (.Constant (.int 1) k p1) p2)) p3) pos) (fun σ H Q => te σ H fun x H1 => rRevA X.K x H1 Q) := by
  refine ⟨fun pins s σ H Q I h => ?_⟩
  refine Subscript_ (thn (he.run pins s σ H _ I h) fun v s1 ⟨x, H1, I1, r1, q1⟩ => ?_)
  have hst : PO X (some (.UnaryOp .USub (.Constant (.int 1) k p1) p2)) (tPart (tUn (rU fun i => .int (-i)) (tC (.int 1)))) := po_some (pe_un un_neg pe_int)
  refine wpAny_Slice (thn (po_none.run pins s1 σ H1 (fun o H2 => o = none ∧ H2 = H1) I1 ⟨rfl, rfl⟩) fun vl s2 ⟨l, H2, I2, pl, el, e2⟩ => ?_)
  subst el e2
  refine thn (po_none.run pins s2 σ H2 (fun o H3 => o = none ∧ H3 = H2) I2 ⟨rfl, rfl⟩) fun vu s3 ⟨u, H3, I3, pu, eu, e3⟩ => ?_
  subst eu e3
  refine thn (hst.run pins s3 σ H3 (fun o H4 => o = some (-1) ∧ H4 = H3) I3 ⟨1, rfl, -1, rfl, rfl, rfl⟩) fun vs s4 ⟨o, H4, I4, ps, eo, e4⟩ => ?_
  subst eo e4
  have I5 : Inv X pins σ H4 { s4 with heap := s4.heap.push { cls := .type "slice", data := .fields #[vl, vu, vs] } } := I4.kept (t' := s4.toks) fun b ob q => Heap.get?_push_of_some _ q
  rcases q1 with ⟨a, xs, ex, hx, q⟩ | ⟨a, xs, ex, hx, q⟩
  · subst ex
    cases r1
    obtain ⟨its, r, ht, hz⟩ := I5.list hx
    have hlen := r.length
    show wpAny (model X.prog X.w) X.A (subscriptTail e (.Slice none none (some (.UnaryOp .USub (.Constant (.int 1) k p1) p2)) p3) (.ref a) (.ref s4.heap.objs.size)) (EP X pins σ Q) X.xe { s4 with heap := s4.heap.push { cls := .type "slice", data := .fields #[vl, vu, vs] } }
    refine tail_any (ops := [.ref a, .ref s4.heap.objs.size]) ht.isList.typeIs (PySem.slot_list_getitem.lookup) ?_ (by with_unfolding_all rfl)
    refine wpAny_getItem_list_slice ht.isList (Heap.IsSliceOf.new _ vl vu vs) pl pu ps (by decide) ?_ (by rw [List.size_toArray]; omega)
    rw [PySem.W.krv_pick]
    refine ⟨.ref _, _, I5.laid (t' := s4.toks) (o := .lst xs.reverse) (fun b ob q => Heap.get?_push_of_some _ q) (Nat.le_refl _) ?_, rfl, q _ (I5.hok.fresh (Nat.le_refl _))⟩
    exact ⟨by rw [List.length_reverse]; exact hz, _, 0, r.reverse, Heap.get?_push_size _ rfl⟩
  · subst ex
    cases r1
    obtain ⟨its, r, ht, hz⟩ := I5.tuple hx
    have hlen := r.length
    show wpAny (model X.prog X.w) X.A (subscriptTail e (.Slice none none (some (.UnaryOp .USub (.Constant (.int 1) k p1) p2)) p3) (.ref a) (.ref s4.heap.objs.size)) (EP X pins σ Q) X.xe { s4 with heap := s4.heap.push { cls := .type "slice", data := .fields #[vl, vu, vs] } }
    refine tail_any (ops := [.ref a, .ref s4.heap.objs.size]) ht.typeIs (PyProof.Rows.slot_tuple_getitem.lookup) ?_ (by with_unfolding_all rfl)
    refine getItem_tuple_rev ht (Heap.IsSliceOf.new _ vl vu vs) pl pu ps ?_ (by rw [List.size_toArray]; omega)
    refine ⟨.ref _, _, I5.laid (t' := s4.toks) (o := .tup xs.reverse) (fun b ob q => Heap.get?_push_of_some _ q) (Nat.le_refl _) ?_, rfl, q _ (I5.hok.fresh (Nat.le_refl _))⟩
    exact ⟨by rw [List.length_reverse]; exact hz, _, r.reverse, IsTup.new _ _⟩
def bfRev : Bf := fun ds => match ds with
  | [.nd .tup xs] => some (.fz (.nd .tup xs.reverse))
  | [d] => (lstOf d).map fun xs => .own .lst (xs.reverse.map O.fz)
  | _ => none
theorem Rps.reverse {G : Hp} : ∀ {vs : List V} {ds : List D}, Rps G vs ds → Rps G vs.reverse ds.reverse
  | _, _, .nil => .nil
  | _, _, .cons a r => by rw [List.reverse_cons, List.reverse_cons]; exact (Rps.reverse r).append (.cons a .nil)
section
variable {Γ : Sg} {sc : Scope} {k : Nat} {e : Expr} {o : Opd} {kk : Nat} {p1 p2 p3 pos : Pos}
theorem VE.rev (h : VO Γ sc k e o) : VE Γ sc k (.Subscript e (.Slice none none (some (.UnaryOp .USub (.Constant (.int 1) kk p1) p2)) p3) pos) (vPure [o] (bfD bfRev)) := by
  refine ⟨vPure_mono h.1, fun X W ok tk => (pe_revA (h.2 X W ok tk)).impV fun σ H Q q => ?_⟩
  refine unone1 (vPure_run (r := fun vs H Q => ∃ x, vs = [x] ∧ rRevA X.K x H Q) h.1 (PureR.up fun G H vs ds o Q gs s e q => ?_) q)
  unfold bfRev at e
  split at e
  · cases e
    obtain ⟨x, rfl, hx⟩ := sws1 s
    obtain ⟨a, vs, rfl, ha, r⟩ := sw_tup hx
    refine ⟨_, rfl, .inr ⟨a, vs, rfl, .inl (.inl ha), fun p hp => ?_⟩⟩
    obtain ⟨G', nw⟩ := NewS.tup gs hp r.reverse
    exact q _ _ _ nw
  · obtain ⟨xs, h1, rfl⟩ := Option.map_eq_some_iff.mp e
    obtain ⟨x, rfl, hx⟩ := sws1 s
    obtain ⟨a, vs, rfl, sq, r⟩ := lstOf_v (K := X.K) hx h1
    exact ⟨_, rfl, .inl ⟨a, vs, rfl, sq, fun p hp => q _ _ _ (.made hp r.reverse rfl rfl)⟩⟩
  · cases e
/-! ## {k: v, ..} -/
def keyE : Expr → Option Key
  | .Constant (.int i) _ _ => some (.inl i)
  | .Constant (.str x) _ _ => some (.inr x)
  | _ => none
def keysE : List (Option Expr) → Option (List Key)
  | [] => some []
  | some e :: r => (keyE e).bind fun k => (keysE r).map (k :: ·)
  | none :: _ => none
def putAll : List Key → List O → List Key → List O → List Key × List O
  | ks, os, k :: r, v :: vs => putAll (putP ks os k v).1 (putP ks os k v).2 r vs
  | ks, os, _, _ => (ks, os)
def vDisp (ks : List Key) (ops : List Opd) : DE := fun E c Q => evOps ops E c fun os c1 => Q (.own (.dK (putAll [] [] ks os).1) (putAll [] [] ks os).2) c1
theorem vDisp_mono {ks : List Key} {ops : List Opd} (m : MonoO ops) : Mono (vDisp ks ops) := fun E E' c Q Q' hE hQ h => evOps_mono m _ _ _ _ _ hE (fun o c q => hQ _ _ q) h
theorem keyE_pe {X : Cx} {e : Expr} {k : Key} (h : keyE e = some k) : PE X e (tC (kV k)) := by
  unfold keyE at h
  split at h
  · cases h; exact pe_int
  · cases h; exact pe_str
  · cases h
theorem disp_sep {G H : Hp} {p : Addr} : ∀ {ks2 : List Key} {ys vs ws : List V} {os os2 : List O} {ks : List Key} {ps : List O}, ys.length = ks2.length → os.length = ks2.length → ks.length = ws.length → H p = some (.dK (ks.zip ws)) → Sep G H (ys ++ (.ref p :: vs)) (os ++ (.own (.dK ks) ps :: os2)) →
    ∃ G', Same G G' ∧ Sep G' (upd H p (.dK (mergeK (ks.zip ws) (ks2.zip ys)))) (.ref p :: vs) (.own (.dK (putAll ks ps ks2 os).1) (putAll ks ps ks2 os).2 :: os2)
  | [], [], vs, ws, [], os2, ks, ps, _, _, _, hp, s => ⟨G, Same.refl _, by
      show Sep G (upd H p (.dK (ks.zip ws))) _ _
      rw [upd_self hp]; exact s⟩
  | [], _ :: _, _, _, _, _, _, _, h, _, _, _, _ => by cases h
  | [], [], _, _, _ :: _, _, _, _, _, h, _, _, _ => by cases h
  | _ :: _, [], _, _, _, _, _, _, h, _, _, _, _ => by cases h
  | _ :: _, _ :: _, _, _, [], _, _, _, _, h, _, _, _ => by cases h
  | k :: ks2, y :: ys, vs, ws, o :: os, os2, ks, ps, h1, h2, hk, hp, s => by
    have l1 : ys.length = ks2.length := by simpa using h1
    have l2 : os.length = ks2.length := by simpa using h2
    have s1 : Sep G H ((y :: ys) ++ (.ref p :: vs)) ((o :: os) ++ (.own (.dK ks) ps :: os2)) := s
    have s2 := SepA.unone s1 (by simp [l1, l2])
    obtain ⟨a, ws', ea, ha, hk', hw', G1, g1, s3⟩ := put_sep1 (k := k) shape_dK (fun _ => rfl) (SepA.swap s2)
    cases ea
    rw [hp] at ha
    have ez : ks.zip ws = ks.zip ws' := by injection ha with e; injection e
    rw [putO_P] at s3
    have s4 := SepA.one s3 (by rw [l1, l2])
    have hz : putK (ks.zip ws') k y = (putP ks ps k o).1.zip (if hasK ks k = true then setKs ks ws' k y else ws' ++ [y]) := by
      rw [putK_zip hk']
      unfold putP
      split <;> rfl
    have hl : (putP ks ps k o).1.length = (if hasK ks k = true then setKs ks ws' k y else ws' ++ [y]).length := by
      unfold putP
      split
      · rw [setKs_len hk']; exact hk'
      · simp [hk']
    obtain ⟨G2, g2, s5⟩ := disp_sep (ks2 := ks2) (ys := ys) (os := os) (ws := if hasK ks k = true then setKs ks ws' k y else ws' ++ [y]) l1 l2 hl (by rw [upd_same, hz]) s4
    rw [upd_upd] at s5
    refine ⟨G2, g1.trans g2, ?_⟩
    show Sep G2 (upd H p (.dK (mergeK (putK (ks.zip ws) k y) (ks2.zip ys)))) _ _
    rw [ez, hz]
    exact s5
theorem tPairs_of {mg : Str → Option Value} {W : WX} {σ : L2.St} : ∀ {ks : List Key} {ops : List Opd} {H : Hp} {Q : List (V × V) → Hp → Prop}, MonoO ops → ks.length = ops.length → tas mg W ops σ H (fun ys H1 => Q ((ks.map kV).zip ys) H1) → tPairs ((ks.map fun k => tC (kV k)).zip (ops.map fun o => o.te mg W)) σ H Q
  | [], [], H, Q, m, hl, h => h
  | [], _ :: _, _, _, _, h, _ => by cases h
  | _ :: _, [], _, _, _, h, _ => by cases h
  | k :: ks, .sl i :: r, H, Q, m, hl, h => by
    obtain ⟨v, e, h⟩ := h
    exact ⟨v, e, tPairs_of (ks := ks) (ops := r) m (by simpa using hl) h⟩
  | k :: ks, .ex t :: r, H, Q, m, hl, h => by
    have h1 : liftE mg W t σ H fun v H1 => tas mg W r σ H1 fun vs H2 => Q (((k :: ks).map kV).zip (v :: vs)) H2 := h
    exact liftE_imp m.1 h1 fun v H1 q => tPairs_of (ks := ks) (ops := r) m.2 (by simpa using hl) q
theorem pps_of {X : Cx} {W : WX} {pos : Pos} : ∀ {keys : List (Option Expr)} {vals : List Expr} {ks : List Key} {ops : List Opd}, keysE keys = some ks → (∀ q ∈ vals.zip ops, PE X q.1 (q.2.te X.mg W)) → keys.length = vals.length → vals.length = ops.length →
    PPs X pos keys vals ((ks.map fun k => tC (kV k)).zip (ops.map fun o => o.te X.mg W))
  | [], [], ks, [], h, _, _, _ => by cases h; exact pps_nil
  | [], [], _, _ :: _, _, _, _, h => by cases h
  | [], _ :: _, _, _, _, _, h, _ => by cases h
  | _ :: _, [], _, _, _, _, h, _ => by cases h
  | _ :: _, _ :: _, _, [], _, _, _, h => by cases h
  | none :: _, _ :: _, _, _ :: _, h, _, _, _ => by cases h
  | some e :: keys, v :: vals, ks, o :: ops, h, hv, h1, h2 => by
    obtain ⟨k, e1, h⟩ := Option.bind_eq_some_iff.mp h
    obtain ⟨ks', e2, rfl⟩ := Option.map_eq_some_iff.mp h
    exact pps_cons (keyE_pe e1) (hv (v, o) (List.mem_cons_self ..)) (pps_of e2 (fun q hq => hv q (List.mem_cons_of_mem _ hq)) (by simpa using h1) (by simpa using h2))
def VAs (Γ : Sg) (sc : Scope) (k : Nat) (es : List Expr) (ops : List Opd) : Prop := MonoO ops ∧ es.length = ops.length ∧ ∀ X W, OkX Γ sc k X → Takes X W → ∀ q ∈ es.zip ops, PE X q.1 (q.2.te X.mg W)
theorem VAs.nil : VAs Γ sc k [] [] := ⟨trivial, rfl, fun _ _ _ _ q h => by cases h⟩
theorem VAs.cons {es : List Expr} {ops : List Opd} (h : VO Γ sc k e o) (r : VAs Γ sc k es ops) : VAs Γ sc k (e :: es) (o :: ops) := by
  refine ⟨?_, by simp [r.2.1], fun X W ok tk q hq => ?_⟩
  · have h1 := h.1
    cases o with
    | sl i => exact r.1
    | ex t => exact ⟨h1.1, r.1⟩
  · rw [List.zip_cons_cons] at hq
    rcases List.mem_cons.mp hq with rfl | hq
    · exact h.2 X W ok tk
    · exact r.2.2 X W ok tk q hq
theorem keysE_all : ∀ {keys : List (Option Expr)} {ks : List Key}, keysE keys = some ks → keys.all (·.isSome) = true ∧ ks.length = keys.length
  | [], _, h => by cases h; exact ⟨rfl, rfl⟩
  | none :: _, _, h => by cases h
  | some e :: r, _, h => by
    obtain ⟨k, e1, h⟩ := Option.bind_eq_some_iff.mp h
    obtain ⟨ks', e2, rfl⟩ := Option.map_eq_some_iff.mp h
    obtain ⟨h1, h2⟩ := keysE_all e2
    exact ⟨by rw [List.all_cons, h1]; rfl, by rw [List.length_cons, List.length_cons, h2]⟩
theorem zip_kv (ks : List Key) (ys : List V) : (ks.zip ys).map (fun kv => (kV kv.1, kv.2)) = (ks.map kV).zip ys := by
  induction ks generalizing ys with
  | nil => rfl
  | cons k ks ih => cases ys with
    | nil => rfl
    | cons y ys => simp only [List.zip_cons_cons, List.map_cons, ih]
theorem VE.disp {keys : List (Option Expr)} {es : List Expr} {ks : List Key} {ops : List Opd} (hk : keysE keys = some ks) (ha : VAs Γ sc k es ops) (ex : ops.all isEx = true) (hl : keys.length = es.length) (h0 : keys ≠ []) (h15 : keys.length ≤ 15) : VE Γ sc k (.Dict keys es pos) (vDisp ks ops) := by
  refine ⟨vDisp_mono ha.1, fun X W ok tk => ?_⟩
  obtain ⟨hall, hkl⟩ := keysE_all hk
  refine (pe_disp (pps_of hk (ha.2.2 X W ok tk) hl ha.2.1) hall hl h0 h15).impV fun σ H Q ⟨c, G, vsL, osL, sl, sp, q⟩ => fun p hp => ?_
  have hko : ks.length = ops.length := by rw [hkl, hl, ha.2.1]
  refine tPairs_of ha.1 hko ?_
  have s1 : Sep G (upd H p (.dK [])) (.ref p :: (vals σ ++ vsL)) (.own (.dK []) [] :: (c ++ osL)) := SepA.make (ws := []) (ps := []) (o := .dK []) sp hp rfl ⟨rfl, rfl⟩ rfl
  have s2 := SepA.one s1 sl.len
  refine ops_run ha.1 sl s2 (evOps_len ex ha.1 q) (fun n f c' z => KX.more z (Same.refl _)) fun ts c' tvs H' G' g sl' ht sp' ⟨hlen, k⟩ => ?_
  rw [mergeV_ex ex (by rw [ht, hlen])]
  have s3 : Sep G' H' ((tvs ++ vals σ) ++ (.ref p :: vsL)) ((ts ++ c') ++ (.own (.dK []) [] :: osL)) := by simpa using sp'
  have s4 := SepA.unone s3 (by simp [ht, sl'.len])
  obtain ⟨a, ob, ws, ea, ha', sh, hw, _⟩ := SepA.open_ s4
  cases ea
  obtain ⟨hkk, rfl⟩ := sh
  have hws : ws = [] := List.eq_nil_of_length_eq_zero (by rw [hw]; rfl)
  subst hws
  refine ⟨ha', ks.zip tvs, (zip_kv ks tvs).symm, by rw [List.length_zip]; omega, ?_⟩
  have s5 : Sep G' H' (tvs ++ (.ref p :: (vals σ ++ vsL))) (ts ++ (.own (.dK []) [] :: (c' ++ osL))) := SepA.one (by simpa using s4) ht
  obtain ⟨G2, g2, s6⟩ := disp_sep (ks2 := ks) (ys := tvs) (os := ts) (ws := []) (ks := []) (by rw [ht, hlen, hko]) (by rw [hlen, hko]) rfl ha' s5
  exact k _ _ G2 (g.trans g2) sl' s6
/-! ### {} -/
def vNewD : DE := fun E c Q => Q (.own (.dK []) []) c ∨ Q (.own (.dT []) []) c
theorem VE.newD : VE Γ sc k (.Dict [] [] pos) vNewD := ⟨fun E E' c Q Q' hE hQ h => h.imp (hQ _ _) (hQ _ _), fun X W ok tk => ⟨fun pins s σ H Q I ⟨c, G, vsL, osL, sl, sp, q⟩ => by
  rcases q with q | q
  · exact pe_dnewK.run pins s σ H Q I fun p hp => q _ _ G (Same.refl _) sl (SepA.make (ws := []) (ps := []) (o := .dK []) sp hp rfl ⟨rfl, rfl⟩ rfl)
  · exact pe_dnewT.run pins s σ H Q I fun p hp => q _ _ G (Same.refl _) sl (SepA.make (ws := []) (ps := []) (o := .dT []) sp hp rfl ⟨rfl, rfl⟩ rfl)⟩⟩
end
end VS
namespace VS
open PySem PySem.Spec PyProof.Rows L2
/-! ## a op1 b op2 c -/
def fz1 : O → Option D
  | .fz d => some d
  | _ => none
def vChain (oa ob' oc : Opd) (bf bf' : BfO) : DE := fun E c Q => evOps [oa, ob'] E c fun ts c1 => ob (opsO [oa, ob'] c1 ts) fun os => ob ((bf os).map O.sh) fun r => ob (boB r) fun b =>
  if b = true then ob ((os[1]?).bind fz1) fun d => evOps [oc] E c1 fun us c2 => ob (opsO [oc] c2 us) fun ps => ob (bf' (.fz d :: ps)) fun o => Q o c2 else Q (.fz (.bl false)) c1
theorem vChain_mono {oa ob' oc : Opd} {bf bf' : BfO} (m : MonoO [oa, ob']) (m' : MonoO [oc]) : Mono (vChain oa ob' oc bf bf') := fun E E' c Q Q' hE hQ h => evOps_mono m _ _ _ _ _ hE (fun ts c1 q => by
  obtain ⟨os, e1, q⟩ := ob_iff.mp q
  obtain ⟨r, e2, q⟩ := ob_iff.mp q
  obtain ⟨b, e3, q⟩ := ob_iff.mp q
  refine ob_iff.mpr ⟨os, e1, ob_iff.mpr ⟨r, e2, ob_iff.mpr ⟨b, e3, ?_⟩⟩⟩
  cases b with
  | false => exact hQ _ _ q
  | true =>
    obtain ⟨d, e4, q⟩ := ob_iff.mp q
    refine ob_iff.mpr ⟨d, e4, evOps_mono m' _ _ _ _ _ hE (fun us c2 q => ?_) q⟩
    obtain ⟨ps, e5, q⟩ := ob_iff.mp q
    obtain ⟨o, e6, q⟩ := ob_iff.mp q
    exact ob_iff.mpr ⟨ps, e5, ob_iff.mpr ⟨o, e6, hQ _ _ q⟩⟩) h
theorem vChain_run {mg : Str → Option Value} {W : WX} {σ : L2.St} {H : Hp} {Q : VK} {oa ob' oc : Opd} {bf bf' : BfO} {r r' : R2} (m : MonoO [oa, ob']) (m' : MonoO [oc]) (p : PureO (fun vs H Q => ∃ x y, vs = [x, y] ∧ r x y H Q) bf) (p' : PureO (fun vs H Q => ∃ x y, vs = [x, y] ∧ r' x y H Q) bf')
    (h : liftE mg W (vChain oa ob' oc bf bf') σ H Q) : tChain r r' (oa.te mg W) (ob'.te mg W) (oc.te mg W) σ H Q := by
  obtain ⟨c, G, vsL, osL, sl, sp, h⟩ := h
  refine unpair (R := fun x y H2 => r x y H2 fun z H3 => ∃ k, z = .bl k ∧ (if k = true then oc.te mg W σ H3 fun w' H4 => r' y w' H4 Q else Q (.bl false) H3)) ?_
  refine ops_run m sl sp h (fun _ _ _ q => q) fun ts c1 tvs H1 G1 g1 sl1 ht sp1 q => ?_
  obtain ⟨os, e1, qa⟩ := ob_iff.mp q
  obtain ⟨r0, e2, qb⟩ := ob_iff.mp qa
  obtain ⟨b, e3, q9⟩ := ob_iff.mp qb
  clear q qa qb
  obtain ⟨o0, e4, e5⟩ := Option.map_eq_some_iff.mp e2
  rw [boB_iff e3] at e5
  obtain rfl := sh_bl e5
  obtain ⟨F, ow⟩ := ows_ops sp1 ht sl1.len e1
  -- the values of the two
  obtain ⟨x, y, exy⟩ : ∃ x y, mergeV [oa, ob'] (vals σ) tvs = [x, y] := by
    have : (mergeV [oa, ob'] (vals σ) tvs).length = 2 := by
      have := ow.length
      have h2 : os.length = 2 := by
        have hl : ∀ {ops : List Opd} {c : Cf} {ts os : List O}, opsO ops c ts = some os → os.length = ops.length := by
          intro ops
          induction ops with
          | nil => intro c ts os h; cases h; rfl
          | cons op r ih =>
            intro c ts os h
            cases op with
            | sl i =>
              obtain ⟨o, _, h⟩ := Option.bind_eq_some_iff.mp h
              obtain ⟨os', h', rfl⟩ := Option.map_eq_some_iff.mp h
              rw [List.length_cons, List.length_cons, ih h']
            | ex t =>
              cases ts with
              | nil => cases h
              | cons t' ts =>
                obtain ⟨os', h', rfl⟩ := Option.map_eq_some_iff.mp h
                rw [List.length_cons, List.length_cons, ih h']
        exact hl e1
      omega
    match mergeV [oa, ob'] (vals σ) tvs, this with
    | [x, y], _ => exact ⟨x, y, rfl⟩
  have s0 := dropN ht sp1
  obtain ⟨x', y', exy', z⟩ := p G1 H1 _ os F _ (fun z H3 => ∃ k, z = .bl k ∧ (if k = true then oc.te mg W σ H3 fun w' H4 => r' y w' H4 Q else Q (.bl false) H3)) sp1.same ow e4 fun v H2 G2 nw => by
    have s1 := nw.2 _ _ _ s0
    have rv := s1.rp
    cases rv
    refine ⟨b, rfl, ?_⟩
    cases b with
    | false => exact q9 _ H2 G2 (g1.trans nw.1) sl1 (s1.tail.cons .bl)
    | true =>
      rw [if_pos rfl]
      rw [if_pos rfl] at q9
      obtain ⟨d, e6, q10⟩ := ob_iff.mp q9
      -- the middle one is frozen
      have ry : Rp G1 y d := by
        rw [exy] at ow
        cases ow with
        | cons a rr => cases rr with
          | cons b' rr =>
            obtain ⟨o', ho', hf⟩ := Option.bind_eq_some_iff.mp e6
            simp only [List.getElem?_cons_succ, List.getElem?_cons_zero, Option.some.injEq] at ho'
            subst ho'
            cases b' with
            | fz r => cases hf; exact r
            | own _ _ _ => cases hf
      refine unone1 (ops_run m' sl1 s1.tail q10 (fun n f c' q => q.grow (g1.trans nw.1)) fun us c2 uvs H3 G3 g3 sl3 hu sp3 q11 => ?_)
      obtain ⟨ps, e7, q12⟩ := ob_iff.mp q11
      obtain ⟨o9, e8, q13⟩ := ob_iff.mp q12
      obtain ⟨w, wo, F3, ew, ewo, oww⟩ := one_sep sp3 hu sl3.len e7
      subst ewo
      refine ⟨w, ew, ?_⟩
      obtain ⟨y2, w2, e9, z9⟩ := p' G3 H3 [y, w] _ ([] ++ (F3 ++ [])) o9 Q sp3.same (.cons (.fz (ry.mono (nw.1.trans g3))) (.cons oww .nil)) e8 fun v4 H4 G4 nw4 => by
        exact q13 v4 H4 G4 (g1.trans (nw.1.trans (g3.trans nw4.1))) sl3 (nw4.2 _ _ _ (dropN hu sp3))
      cases e9
      exact z9
  rw [exy] at exy'
  cases exy'
  exact ⟨x, y, exy, z⟩
section
variable {Γ : Sg} {sc : Scope} {k : Nat} {a b c : Expr} {oa ob' oc : Opd} {op op' : CmpOp} {bf bf' : BfO} {pos : Pos}
theorem VE.chain (p : OpO (compareOp op) bf) (p' : OpO (compareOp op') bf') (ha : VO Γ sc k a oa) (hb : VO Γ sc k b ob') (hc : VO Γ sc k c oc) (hm : lastMarks [op, op'] [b, c] = false) : VE Γ sc k (.Compare a [op, op'] [b, c] pos) (vChain oa ob' oc bf bf') := by
  have m := MonoO.cons2 ha.1 hb.1
  refine ⟨vChain_mono m hc.1, fun X W ok tk => ?_⟩
  obtain ⟨r, h1, h2⟩ := p X ok.calm (room65 ok.room)
  obtain ⟨r', h3, h4⟩ := p' X ok.calm (room65 ok.room)
  exact (pe_chain h1 h3 (ha.2 X W ok tk) (hb.2 X W ok tk) (hc.2 X W ok tk) hm).impV fun σ H Q q => vChain_run m hc.1 h2 h4 q
/-- a value that must be True or False, as a test -/
def vTest (t : DE) : DT := fun E c Q => t E c fun o c1 => ob (boB o.sh) fun b => Q b c1
theorem vTest_mono {t : DE} (m : Mono t) : MonoT (vTest t) := fun E E' c Q Q' hE hQ h => m _ _ _ _ _ hE (fun o c q => by
  obtain ⟨b, e, q⟩ := ob_iff.mp q
  exact ob_iff.mpr ⟨b, e, hQ _ _ q⟩) h
theorem vTest_run {mg : Str → Option Value} {W : WX} {σ : L2.St} {H : Hp} {Q : Bool → Hp → Prop} {t : DE} (m : Mono t) (h : liftT mg W (vTest t) σ H Q) : tTest (liftE mg W t) σ H Q := by
  obtain ⟨c, G, vsL, osL, sl, sp, h⟩ := h
  refine liftE.of m sl sp h (fun _ _ _ q => q) fun o c' v H' G' g sl' sp' q => ?_
  obtain ⟨b, e, q⟩ := ob_iff.mp q
  obtain rfl := isb e
  have rv := sp'.rp
  cases rv
  exact ⟨b, rfl, q H' G' g sl' sp'.tail⟩
theorem liftE_chain {mg : Str → Option Value} {W : WX} {σ : L2.St} {H : Hp} {Q : Bool → Hp → Prop} {r r' : R2} (m : MonoO [oa, ob']) (m' : MonoO [oc]) (p : PureO (fun vs H Q => ∃ x y, vs = [x, y] ∧ r x y H Q) bf) (p' : PureO (fun vs H Q => ∃ x y, vs = [x, y] ∧ r' x y H Q) bf')
    (h : liftT mg W (vTest (vChain oa ob' oc bf bf')) σ H Q) : tTest (tChain r r' (oa.te mg W) (ob'.te mg W) (oc.te mg W)) σ H Q := vChain_run m m' p p' (vTest_run (vChain_mono m m') h)
theorem VT.chain (p : OpO (compareOp op) bf) (p' : OpO (compareOp op') bf') (ha : VO Γ sc k a oa) (hb : VO Γ sc k b ob') (hc : VO Γ sc k c oc) (hm : lastMarks [op, op'] [b, c] = false) : VT Γ sc k (.Compare a [op, op'] [b, c] pos) (vTest (vChain oa ob' oc bf bf')) := by
  have m := MonoO.cons2 ha.1 hb.1
  refine ⟨vTest_mono (vChain_mono m hc.1), fun X W ok tk => ?_⟩
  obtain ⟨r, h1, h2⟩ := p X ok.calm (room65 ok.room)
  obtain ⟨r', h3, h4⟩ := p' X ok.calm (room65 ok.room)
  exact (pt_chain h1 h3 (ha.2 X W ok tk) (hb.2 X W ok tk) (hc.2 X W ok tk) hm).impV fun σ H Q q => liftE_chain m hc.1 h2 h4 q
/-! ## any target -/
def vAsgT (g : DG) (t : DE) : DS := fun D c => t D.ex c fun o c1 => g o c1 D.nx
theorem vAsgT_mono {g : DG} {t : DE} (mg : MonoG g) (m : Mono t) : MonoS (vAsgT g t) := fun D D' c h1 h2 h3 h4 h5 h => m _ _ _ _ _ h5 (fun o c q => mg _ _ _ _ h1 q) h
/-- the model stores one after the other -/
def oneByOne (sc : Scope) (tg v : Expr) : Bool := match tg, v with
  | .Tuple ts _ _, .Tuple vs _ _ => !(ts.length == 2 || ts.length == 3) || (ts.any fun t => match t with
      | .Name x _ => (match sc.names.lookup x with
        | some .cell => true
        | _ => false)
      | _ => true) || vs.all (foldedForSure 8)
  | .Tuple .., _ => true
  | .Subscript .., _ => true
  | .Attribute .., _ => true
  | _, _ => false
theorem filterMap_short {α β : Type} {f : α → Option β} : ∀ {l : List α}, (∃ a ∈ l, f a = none) → (l.filterMap f).length < l.length
  | [], ⟨_, h, _⟩ => by cases h
  | a :: l, ⟨b, hb, hf⟩ => by
    rcases List.mem_cons.mp hb with rfl | hb
    · rw [List.filterMap_cons, hf]
      exact Nat.lt_succ_of_le (List.length_filterMap_le ..)
    · have ih := filterMap_short ⟨b, hb, hf⟩
      rw [List.filterMap_cons]
      cases f a with
      | none => exact Nat.lt_succ_of_lt ih
      | some _ => simpa using ih
theorem oneByOne_at {X : Cx} {tg v : Expr} (ok : OkX Γ sc k X) (h : oneByOne sc tg v = true) : swappedStores [tg] v X.env = pure none := by
  cases tg with
  | Tuple ts k1 p1 =>
    cases v with
    | Tuple vs k2 p2 =>
      unfold oneByOne at h
      simp only [Bool.or_eq_true] at h
      unfold swappedStores
      dsimp only
      rcases h with (h | h) | h
      · rw [h]; rfl
      · have hn : ∃ t ∈ ts, (fun t => match t with
            | .Name id pos => if X.env.kindOf id == some .local && pos.line == (ts.head?.map (·.pos.line)).getD 0 then some id else none
            | _ => none : Expr → Option Str) t = none := by
          obtain ⟨t, ht, hc⟩ := List.any_eq_true.mp h
          refine ⟨t, ht, ?_⟩
          cases t with
          | Name x p =>
            dsimp only at hc ⊢
            split at hc
            · rename_i hx
              have ek : X.env.kindOf x = some .cell := (ok.cel x hx).1
              rw [ek]
              rfl
            · cases hc
          | _ => rfl
        have hl := filterMap_short hn
        split
        · rfl
        · split
          · rfl
          · refine (if_pos ?_).trans rfl
            rw [Bool.or_eq_true]
            exact .inl (bne_iff_ne.mpr (Nat.ne_of_lt hl))
      · split
        · rfl
        · split
          · rfl
          · split
            · rfl
            · first | rfl | (rw [h]; rfl)
    | _ => rfl
  | Subscript _ _ _ => cases v <;> rfl
  | Attribute _ _ _ => cases v <;> rfl
  | _ => cases v <;> cases h
variable {P : List Nat} {tg e : Expr} {g : DG} {t : DE} {u : List Expr}
theorem VSt.asgT (hg : VG Γ sc k P tg g) (h : VE Γ sc k e t) (n : notComp e = true) (tp : tgPlain tg = true) (ob1 : oneByOne sc tg e = true) : VSt Γ sc k P (.Assign [tg] e pos) (vAsgT g t) := by
  refine ⟨vAsgT_mono hg.1 h.1, fun X W ok tk => ?_⟩
  refine (ps_asg (h.2 X W ok tk) (hg.2 X ok) (by
      show swapsWith e (some tg) pos.line X.env = pure false
      exact swaps_no n) (oneByOne_at ok ob1) (by rw [assignEach_cons tp]; rfl)).impL fun D σ H hl ⟨c, G, vsL, osL, sl, sp, q⟩ => ?_
  refine liftE.of h.1 sl sp q (fun _ _ _ q => KS.exE q) fun o c' v H' G' g' sl' sp' q => ?_
  refine ⟨o, c', G', vsL, osL, sl', sp', hg.1 _ _ _ _ (fun c2 q2 => ?_) q⟩
  exact fun σ2 H2 G2 g2 p2 l2 sl2 sp2 => q2 σ2 H2 G2 (g'.trans g2) p2 sl2 sp2
/-! ## x += e -/
def IpO (op : Operator) (bf : BfO) : Prop := ∀ X, X.calm = true → X.A.units + 65 < cLine → ∃ r : R2, PIp X op r ∧ PureO (fun vs H Q => ∃ x y, vs = [x, y] ∧ r x y H Q) bf
def vAug (i : Nat) (o : Opd) (bf : BfO) : DS := fun D c => ob c[i]? fun o0 => isBad o0 = false ∧ evOps [o] D.ex c fun ts c1 => ob (opsO [.sl i, o] c1 ts) fun os => ob (bf os) fun r => D.nx (c1.set i r)
theorem vAug_mono {i : Nat} {o : Opd} {bf : BfO} (m : MonoO [o]) : MonoS (vAug i o bf) := fun D D' c h1 h2 h3 h4 h5 h => by
  obtain ⟨o0, e0, nb, h⟩ := ob_iff.mp h
  refine ob_iff.mpr ⟨o0, e0, nb, evOps_mono m _ _ _ _ _ h5 (fun ts c1 q => ?_) h⟩
  obtain ⟨os, e1, q⟩ := ob_iff.mp q
  obtain ⟨r, e2, q⟩ := ob_iff.mp q
  exact ob_iff.mpr ⟨os, e1, ob_iff.mpr ⟨r, e2, h1 _ q⟩⟩
theorem addI_ip : IpO .Add (bfD (bfII tt2 fun i j => .int (i + j))) := fun X c u => ⟨_, ip_add, PureR.up fun G H vs ds o Q gs s e q => by
  unfold bfII at e
  split at e
  · split at e
    · cases e
      obtain ⟨x, y, rfl, hx, hy⟩ := sws2 s
      exact ⟨x, y, rfl, _, _, sw_int hx, sw_int hy, q _ _ _ (.old .int)⟩
    · cases e
  · cases e⟩
theorem subI_ip : IpO .Sub (bfD (bfII tt2 fun i j => .int (i - j))) := fun X c u => ⟨_, ip_sub, PureR.up fun G H vs ds o Q gs s e q => by
  unfold bfII at e
  split at e
  · split at e
    · cases e
      obtain ⟨x, y, rfl, hx, hy⟩ := sws2 s
      exact ⟨x, y, rfl, _, _, sw_int hx, sw_int hy, q _ _ _ (.old .int)⟩
    · cases e
  · cases e⟩
theorem VSt.aug {x : Str} {p : Pos} {i : Nat} {o : Opd} {op : Operator} {bf : BfO} (hx : asgOf Γ sc x = some i) (hP : i ∈ P) (h : VO Γ sc k e o) (ip : IpO op bf) : VSt Γ sc k P (.AugAssign (.Name x p) op e pos) (vAug i o bf) := by
  obtain ⟨h1, h3⟩ := asgOf_at hx
  refine ⟨vAug_mono h.1, fun X W ok tk => ?_⟩
  obtain ⟨q1, q2⟩ := ok.loc' h3
  obtain ⟨r, hr, pr⟩ := ip X ok.calm (room65 ok.room)
  refine (ps_aug (i := i) ok.nd (by rw [ok.N]; exact h1) q1 (h.2 X W ok tk) hr q2).impL fun D σ H hl ⟨c, G, vsL, osL, sl, sp, q⟩ => ?_
  obtain ⟨o0, e0, nb, q⟩ := ob_iff.mp q
  obtain ⟨xv, ex0, ex1⟩ := sl.val e0 nb
  refine ⟨xv, ex0, ?_⟩
  refine unone1 (ops_run h.1 sl sp q (fun _ _ _ q => KS.exE q) fun ts c1 tvs H1 G1 g1 sl1 ht sp1 q => ?_)
  obtain ⟨os, e1, qa⟩ := ob_iff.mp q
  obtain ⟨r0, e2, q9⟩ := ob_iff.mp qa
  clear q qa
  obtain ⟨F, ow⟩ := ows_ops sp1 ht sl1.len e1
  have em : mergeV [.sl i, o] (vals σ) tvs = xv :: mergeV [o] (vals σ) tvs := by
    show ((vals σ)[i]?.getD .non) :: _ = _
    rw [ex1]; rfl
  rw [em] at ow
  obtain ⟨x', y', exy, z⟩ := pr G1 H1 _ os F r0 _ sp1.same ow e2 fun v H2 G2 nw => by
    have s1 := nw.2 _ _ _ (dropN ht sp1)
    exact q9 (σ.set i (some v)) H2 G2 (g1.trans nw.1) (PinS.set hP) sl1.store (store_sep sl1 s1 (by rw [sl1.1, hl, ok.N]; exact (List.getElem?_eq_some_iff.mp h1).1))
  injection exy with e3 e4
  subst e3
  exact ⟨y', e4, z⟩
end
end VS
namespace VS
open PySem PySem.Spec PyProof.Rows L2
/-! ## x[key] op b, where the part is owned -/
def vCmpIx (i : Nat) (key o2 : Opd) (bf : BfO) : DT := fun E c Q => ob c[i]? fun o0 => isBad o0 = false ∧ evOps [key] E c fun ks c1 => ob c1[i]? fun o1 => isBad o1 = false ∧ ob (opsO [key] c1 ks) fun kl => ob kl.head? fun ko =>
  ob (partsT o1) fun tp => ob (ixD tp.1 tp.2.length ko.sh) fun j => ob tp.2[j]? fun inner => ob (divesIn o1 inner) fun d => ∀ w : V, evOps [o2] E (c1.set i (.own d.1 (d.2.set j (.fz (.val w))))) fun as c2 =>
    ob c2[i]? fun o3 => ob (partsT o3) fun tp2 => o3 = .own tp2.1 tp2.2 ∧ tp2.1.mut = true ∧ tp2.2[j]? = some (.fz (.val w)) ∧ ob (opsO [o2] c2 as) fun os => ob ((bf (inner :: os)).map O.sh) fun r => ob (boB r) fun b => Q b (c2.set i (.own tp2.1 (tp2.2.set j inner)))
theorem vCmpIx_mono {i : Nat} {key o2 : Opd} {bf : BfO} (m1 : MonoO [key]) (m2 : MonoO [o2]) : MonoT (vCmpIx i key o2 bf) := fun E E' c Q Q' hE hQ h => by
  obtain ⟨o0, e0, nb, h⟩ := ob_iff.mp h
  refine ob_iff.mpr ⟨o0, e0, nb, evOps_mono m1 _ _ _ _ _ hE (fun ks c1 q => ?_) h⟩
  obtain ⟨o1, e1, nb1, q⟩ := ob_iff.mp q
  obtain ⟨kl, e2, q⟩ := ob_iff.mp q
  obtain ⟨ko, e3, q⟩ := ob_iff.mp q
  obtain ⟨tp, e4, q⟩ := ob_iff.mp q
  obtain ⟨j, e5, q⟩ := ob_iff.mp q
  obtain ⟨inner, e6, q⟩ := ob_iff.mp q
  obtain ⟨d, e7, q⟩ := ob_iff.mp q
  refine ob_iff.mpr ⟨o1, e1, nb1, ob_iff.mpr ⟨kl, e2, ob_iff.mpr ⟨ko, e3, ob_iff.mpr ⟨tp, e4, ob_iff.mpr ⟨j, e5, ob_iff.mpr ⟨inner, e6, ob_iff.mpr ⟨d, e7, fun w => ?_⟩⟩⟩⟩⟩⟩⟩
  refine evOps_mono m2 _ _ _ _ _ hE (fun as c2 q => ?_) (q w)
  obtain ⟨o3, e9, q⟩ := ob_iff.mp q
  obtain ⟨tp2, e10, q1, q2, q3, q⟩ := ob_iff.mp q
  obtain ⟨os, e11, q⟩ := ob_iff.mp q
  obtain ⟨r, e12, q⟩ := ob_iff.mp q
  obtain ⟨b, e13, q⟩ := ob_iff.mp q
  exact ob_iff.mpr ⟨o3, e9, ob_iff.mpr ⟨tp2, e10, q1, q2, q3, ob_iff.mpr ⟨os, e11, ob_iff.mpr ⟨r, e12, ob_iff.mpr ⟨b, e13, hQ _ _ q⟩⟩⟩⟩⟩
theorem vCmpIx_run {X : Cx} {W : WX} {σ : L2.St} {H : Hp} {Q : Bool → Hp → Prop} {i : Nat} {key o2 : Opd} {bf : BfO} {r : R2} (m1 : MonoO [key]) (m2 : MonoO [o2]) (p : PureO (fun vs H Q => ∃ x y, vs = [x, y] ∧ r x y H Q) bf)
    (h : liftT X.mg W (vCmpIx i key o2 bf) σ H Q) : tTest (tOp r (tOp (rIxAll X.K) (tVar i) (key.te X.mg W)) (o2.te X.mg W)) σ H Q := by
  obtain ⟨c, G, vsL, osL, sl, sp, h⟩ := h
  obtain ⟨o0, e0, nb, h⟩ := ob_iff.mp h
  obtain ⟨x, ex0, ex1⟩ := sl.val e0 nb
  refine ⟨x, ex0, ?_⟩
  refine te_of (ops_run m1 sl sp h (fun _ _ _ q => q) fun ts c1 tvs H1 G1 g1 sl1 ht sp1 q => ?_)
  obtain ⟨o1, e1, nb1, qa⟩ := ob_iff.mp q
  obtain ⟨kl, e2, qb⟩ := ob_iff.mp qa
  clear q qa
  obtain ⟨y, ko, F, ey, ekl, ow⟩ := one_sep sp1 ht sl1.len e2
  subst ekl
  obtain ⟨ko', e3, qc⟩ := ob_iff.mp qb
  clear qb
  obtain rfl : ko = ko' := Option.some.inj e3
  obtain ⟨tp, e4, qd⟩ := ob_iff.mp qc
  obtain ⟨j, e5, qe⟩ := ob_iff.mp qd
  obtain ⟨inner, e6, qf⟩ := ob_iff.mp qe
  obtain ⟨d, hd, q⟩ := ob_iff.mp qf
  clear qc qd qe qf
  intro y' hy'
  rw [ey] at hy'
  cases hy'
  have hi1 : i < c1.length := (List.getElem?_eq_some_iff.mp e1).1
  have spx := dropN ht sp1
  have swy : Sw G1 H1 y ko.sh := ow.sw sp1.same
  obtain ⟨t, ps⟩ := d
  have hown : o1 = .own t ps ∧ t.mut = true ∧ tp = (t, ps) := by
    unfold divesIn at hd
    split at hd
    · split at hd
      · cases hd; cases e4; exact ⟨rfl, by assumption, rfl⟩
      · cases hd
    · cases hd
  obtain ⟨rfl, hm, rfl⟩ := hown
  obtain ⟨a, obj, ws, w, hv, ha, sh, hl, hw, s2⟩ := SepA.dive spx (getElem?_app e1) e6 hm
  rw [getElem?_app ex1] at hv
  cases hv
  rw [set_app hi1] at s2
  refine ixD_at ha (.inl sh) swy (by rw [hl]; exact e5) hw ?_
  have sl1' : Slots σ (c1.set i (.own t (ps.set j (.fz (.val w))))) := sl1.setAt e1 nb1
  have fr : Sep G1 H1 (vals σ ++ (w :: vsL)) (c1.set i (.own t (ps.set j (.fz (.val w)))) ++ (inner :: osL)) := SepA.one s2 sl1'.len
  refine te_of (ops_run m2 sl1' fr (q w) (fun n f c' z => (z.grow g1).more (Same.refl _)) fun as c2 avs H2 G2 g2 sl2 hla sp2 z => ?_)
  obtain ⟨o3, e9, za⟩ := ob_iff.mp z
  obtain ⟨tp2, e10, z1, z2, z3, zb⟩ := ob_iff.mp za
  obtain ⟨os, e11, zc⟩ := ob_iff.mp zb
  obtain ⟨rr, e12, zd⟩ := ob_iff.mp zc
  obtain ⟨b, e13, zz⟩ := ob_iff.mp zd
  clear z za zb zc zd
  subst z1
  obtain ⟨o', e14, e15⟩ := Option.map_eq_some_iff.mp e12
  rw [boB_iff e13] at e15
  obtain rfl := sh_bl e15
  intro yv hyv
  obtain ⟨F2, ow2⟩ := ows_ops sp2 hla sl2.len e11
  rw [hyv] at ow2
  have spd := dropN hla sp2
  have hwI : ∃ F3, Ow G2 H2 w inner F3 := by
    obtain ⟨F, h0, _⟩ := spd
    obtain ⟨Fa, Fb, _, q3, q4⟩ := h0.split sl2.len
    cases q4 with
    | cons a r => exact ⟨_, a⟩
  obtain ⟨F3, ow3⟩ := hwI
  obtain ⟨x', y'', exy, hr⟩ := p G2 H2 [w, yv] (inner :: os) _ _ (fun z H' => ∃ k, z = .bl k ∧ Q k H') sp2.same (.cons ow3 ow2) e14 fun v H3 G3 nw => by
    have s3 := nw.2 _ _ _ spd
    have rv := s3.rp
    cases rv
    refine ⟨b, rfl, ?_⟩
    have s4 := SepA.unone s3.tail sl2.len
    have s5 := SepA.rise (i := i) s4 (t := tp2.1) (ps := tp2.2) (getElem?_app e9) z3 z2
    rw [set_app (List.getElem?_eq_some_iff.mp e9).1] at s5
    exact zz H3 G3 (g1.trans (g2.trans nw.1)) (sl2.setAt e9 rfl) s5
  cases exy
  exact hr
theorem VT.cmpIx {Γ : Sg} {sc : Scope} {k : Nat} {x : Str} {p p3 pos : Pos} {ke b : Expr} {i : Nat} {key o2 : Opd} {op : CmpOp} {bf : BfO} (hx : slotOf Γ sc x = some i) (pn : plainName x = true) (hk : VO Γ sc k ke key) (ns : isSlice ke = false) (q : OpO (compareOp op) bf) (hb : VO Γ sc k b o2) (hm : behindInMarks op b = false) :
    VT Γ sc k (.Compare (.Subscript (.Name x p) ke p3) [op] [b] pos) (vCmpIx i key o2 bf) := by
  refine ⟨vCmpIx_mono hk.1 hb.1, fun X W ok tk => ?_⟩
  obtain ⟨r, h1, h2⟩ := q X ok.calm (room65 ok.room)
  have hix : IxR X (rIxAll X.K) := ix_seq.or (ix_dict (by have := room65 ok.room; omega))
  exact (pt_cmpR h1 (pe_ix hix ((VO.sl (k := k) hx pn).2 X W ok tk) (hk.2 X W ok tk) (NoSl_of ns)) (hb.2 X W ok tk) hm).impV fun σ H Q h => vCmpIx_run hk.1 hb.1 h2 h
end VS
namespace VS
open PySem PySem.Spec PyProof.Rows L2
/-! ## a dict that is locked while an expression is reckoned -/
def vLockE (i : Nat) (t : DE) : DE := fun E c Q => ob c[i]? fun o => match o with
  | .own (.dK ks) os => ∀ (od : Obj) (vs : List V), t (fun _ _ _ => False) (c.set i (.own (.lkK od vs ks) os)) fun r c' => c'[i]? = some (.own (.lkK od vs ks) os) ∧ Q r (c'.set i (.own (.dK ks) os))
  | .own (.dT ks) os => ∀ (od : Obj) (vs : List V), t (fun _ _ _ => False) (c.set i (.own (.lkT od vs ks) os)) fun r c' => c'[i]? = some (.own (.lkT od vs ks) os) ∧ Q r (c'.set i (.own (.dT ks) os))
  | _ => t E c Q
theorem vLockE_mono {i : Nat} {t : DE} (m : Mono t) : Mono (vLockE i t) := fun E E' c Q Q' hE hQ h => by
  obtain ⟨o, e, h⟩ := ob_iff.mp h
  refine ob_iff.mpr ⟨o, e, ?_⟩
  cases o with
  | fz d => exact m _ _ _ _ _ hE hQ h
  | own tg os =>
    cases tg with
    | dK ks => exact fun od vs => m _ _ _ _ _ (fun _ _ _ z => z) (fun r c' z => ⟨z.1, hQ _ _ z.2⟩) (h od vs)
    | dT ks => exact fun od vs => m _ _ _ _ _ (fun _ _ _ z => z) (fun r c' z => ⟨z.1, hQ _ _ z.2⟩) (h od vs)
    | _ => exact m _ _ _ _ _ hE hQ h
theorem lock_core {X : Cx} {W : WX} {t : DE} {e : Expr} {i : Nat} (m : Mono t) (he : PE X e (liftE X.mg W t)) {pins : List (Addr × Obj)} {s : Shared} {σ : L2.St} {H : Hp} {Q : VK} (I : Inv X pins σ H s) {c : Cf} {G : Hp} {vsL : List V} {osL : List O} {t0 : Tag} {tl : Obj → List V → Tag} {u : List V → HO} {os : List O}
    (sl : Slots σ c) (sp : Sep G H (vals σ ++ vsL) (c ++ osL)) (e0 : c[i]? = some (.own t0 os)) (m0 : t0.mut = true) (hsh : ∀ ws o, Shape t0 ws o → o = u ws) (hmu : ∀ ws, Mut (some (u ws))) (ml : ∀ od ws, (tl od ws).mut = true)
    (hl1 : ∀ od ws, Shape t0 ws (u ws) → Shape (tl od ws) ws (.frz od (u ws))) (hl2 : ∀ od ws ws' o, Shape (tl od ws) ws' o → ws' = ws ∧ o = .frz od (u ws) ∧ Shape t0 ws (u ws))
    (q : ∀ (od : Obj) (vs : List V), t (fun _ _ _ => False) (c.set i (.own (tl od vs) os)) fun r c' => c'[i]? = some (.own (tl od vs) os) ∧ KE σ vsL osL G Q r (c'.set i (.own t0 os))) :
    wpAny (model X.prog X.w) X.A (eval e X.env) (EP X pins σ Q) X.xe s := by
  have il : i < c.length := (List.getElem?_eq_some_iff.mp e0).1
  obtain ⟨v, hv, s1⟩ := SepA.take sp (getElem?_app e0)
  obtain ⟨a, o, ws, rfl, ha, sh, hl, s2⟩ := s1.open_
  rw [cells_mut m0] at s2
  obtain rfl := hsh _ _ sh
  refine (pe_lock he).run pins s σ H Q I ⟨a, _, ha, hmu _, fun od => ?_⟩
  have s3 := SepA.close (t := tl od ws) s2 hl (hl1 od ws sh) (ml od ws)
  rw [set_app il] at s3
  have s4 := SepA.put (i := i) s3 (by rw [List.getElem?_append_left (by simpa using il)]; simp [il]) hv
  rw [set_app (by simpa using il), List.set_set] at s4
  refine ⟨c.set i (.own (tl od ws) os), G, vsL, osL, sl.setAt e0 rfl, s4, ?_⟩
  refine m _ _ _ _ _ (fun _ _ _ z => z.elim) (fun r c' z => ?_) (q od ws)
  obtain ⟨z1, z2⟩ := z
  intro v2 H' G' g sl' sp'
  have il' : i < c'.length := (List.getElem?_eq_some_iff.mp z1).1
  obtain ⟨v3, hv3, t1⟩ := SepA.take (i := i + 1) sp' (by rw [List.getElem?_cons_succ]; exact getElem?_app z1)
  rw [List.getElem?_cons_succ, hv] at hv3
  cases hv3
  rw [List.set_cons_succ, set_app il'] at t1
  obtain ⟨a', o', ws', ea, ha', sh', hl', t2⟩ := t1.open_
  cases ea
  rw [cells_mut (ml od ws)] at t2
  obtain ⟨rfl, rfl, sh2⟩ := hl2 _ _ _ _ sh'
  refine ⟨ha', z2 v2 _ G' g (sl'.setAt z1 rfl) ?_⟩
  have t3 := (SepA.close (t := t0) t2 hl' sh2 m0).swap
  have t4 := SepA.put (i := i + 1) t3.swap (by rw [List.getElem?_cons_succ, List.getElem?_append_left (by simpa using il')]; simp [il']) (by rw [List.getElem?_cons_succ]; exact hv)
  rw [List.set_cons_succ, set_app (by simpa using il'), List.set_set] at t4
  exact t4
section
variable {Γ : Sg} {sc : Scope} {k : Nat} {e : Expr} {t : DE} {i : Nat}
theorem VE.lock (h : VE Γ sc k e t) : VE Γ sc k e (vLockE i t) := ⟨vLockE_mono h.1, fun X W ok tk => ⟨fun pins s σ H Q I ⟨c, G, vsL, osL, sl, sp, q⟩ => by
  have he := h.2 X W ok tk
  obtain ⟨o, e0, q⟩ := ob_iff.mp q
  cases o with
  | fz d => exact he.run pins s σ H Q I ⟨c, G, vsL, osL, sl, sp, q⟩
  | own tg os =>
    cases tg with
    | dK ks => exact lock_core (tl := fun od vs => .lkK od vs ks) (u := fun ws => .dK (ks.zip ws)) h.1 he I sl sp e0 rfl (fun _ _ z => z.2) (fun _ => trivial) (fun _ _ => rfl) (fun _ _ z => ⟨rfl, z.1, rfl⟩) (fun _ _ _ _ z => by obtain ⟨rfl, z1, rfl⟩ := z; exact ⟨rfl, rfl, z1, rfl⟩) q
    | dT ks => exact lock_core (tl := fun od vs => .lkT od vs ks) (u := fun ws => .dT (ks.zip ws)) h.1 he I sl sp e0 rfl (fun _ _ z => z.2) (fun _ => trivial) (fun _ _ => rfl) (fun _ _ z => ⟨rfl, z.1, rfl⟩) (fun _ _ _ _ z => by obtain ⟨rfl, z1, rfl⟩ := z; exact ⟨rfl, rfl, z1, rfl⟩) q
    | _ => exact he.run pins s σ H Q I ⟨c, G, vsL, osL, sl, sp, q⟩⟩⟩
end
end VS
namespace VS
open PySem PySem.Spec PyProof.Rows L2
/-! ## {key: value}, the key a tuple -/
def tDispT (trs : List (TE × TE)) : TE := fun σ H Q => ∀ p, H p = none → tPairs trs σ (upd H p (.dT [])) fun ps H2 => H2 p = some (.dT []) ∧ ∃ (k : List Key) (b : Addr) (y : V), ps = [(.ref b, y)] ∧ H2 b = some (.tup (k.map kV)) ∧ Q (.ref p) (upd H2 p (.dT [(k, y)]))
theorem pe_dispT {X : Cx} {pos : Pos} {keys : List (Option Expr)} {values : List Expr} {trs : List (TE × TE)} (h : PPs X pos keys values trs) (hall : keys.all (·.isSome) = true) (hl : keys.length = values.length) (h0 : keys ≠ [])
    (h15 : keys.length ≤ 15) (hu : X.A.units + 64 < cLine) : PE X (.Dict keys values pos) (tDispT trs) := by
  refine ⟨fun pins s σ H Q I q => ?_⟩
  have hn := I.hok.fresh (Nat.le_refl s.heap.objs.size)
  have I1 := I.laid (a := s.heap.objs.size) (o := .dT []) (h' := s.heap.push { cls := .type "dict", data := .dict #[] }) (t' := s.toks) (fun _ _ q => Heap.get?_push_of_some _ q) (Nat.le_refl _) (dt_empty s.heap I.big)
  have hpl := pairTrees_length keys values X.env pos hall hl
  have h00 : pairTrees keys values X.env pos ≠ [] := fun he => by rw [he] at hpl; exact h0 (List.length_eq_zero_iff.mp hpl.symm)
  rw [arm_eval_Dict, zip_pairTrees keys values X.env pos hall hl, dictDisplay_pairs _ h00 (by omega)]
  refine wpAny_bind (wpAny_standAt (wpAny_bind (wpAny_subDictH (knd := tupleKind (mixKind X.prog X.w)) (Q := fun d s' => wpAny (model X.prog X.w) X.A (pure (Value.ref d)) _ _ s') (show (tupleKind (mixKind X.prog X.w)).room X.A from by show X.A.units < cLine; omega) (by rw [hpl]; exact h15) ?_)))
  refine thn (h.run pins _ σ _ _ I1 (q _ hn)) fun ws s2 ⟨ps, H2, I2, rel, e, k, b, y, ep, hb, q2⟩ => ?_
  subst ep
  cases rel with
  | cons a r =>
    cases r
    obtain ⟨r1, r2⟩ := a
    rename_i p2 _
    obtain ⟨w1, w2⟩ := p2
    obtain rfl : w1 = Value.ref b := r1
    obtain ⟨z, hd, xs, r0, dd⟩ := dt_of I2.hok e
    cases r0
    refine ⟨[(k, b, w2)], ⟨rfl, rfl, key_of I2.hok hb, trivial⟩, dd, fun h' tk dd' hs => wpAny_pure ⟨.ref s.heap.objs.size, _, ?_, rfl, q2⟩⟩
    obtain ⟨q, es, ep, hq, h2, h3, h4, _, h5⟩ := dd'
    refine d_write I2 (by rw [e]; exact True.intro) hs ⟨q, hq⟩ ⟨show 1 ≤ 16777216 by omega, hd, [(k, b, w2)], .cons ⟨rfl, ?_, r2⟩ .nil, q, es, ep, hq, h2, h3, h4, h5⟩
    rw [upd_ne (ne_of hb e (fun z => nomatch z))]
    exact hb
def vDispT (ok ov : Opd) : DE := fun E c Q => evOps [ok, ov] E c fun os c1 => match os with
  | [ko, vo] => ob (tkeyOf ko.sh) fun kk => Q (.own (.dT [kk]) [vo]) c1
  | _ => False
theorem vDispT_mono {ok ov : Opd} (m : MonoO [ok, ov]) : Mono (vDispT ok ov) := fun E E' c Q Q' hE hQ h => by
  refine evOps_mono m _ _ _ _ _ hE (fun os c1 q => ?_) h
  split at q
  · obtain ⟨kk, e, q⟩ := ob_iff.mp q
    exact ob_iff.mpr ⟨kk, e, hQ _ _ q⟩
  · exact q.elim
section
variable {Γ : Sg} {sc : Scope} {k : Nat} {ke ve : Expr} {tk tv : DE} {pos : Pos}
theorem VE.dispT (hk : VE Γ sc k ke tk) (hv : VE Γ sc k ve tv) : VE Γ sc k (.Dict [some ke] [ve] pos) (vDispT (.ex tk) (.ex tv)) := by
  have m : MonoO [.ex tk, .ex tv] := ⟨hk.1, hv.1, trivial⟩
  refine ⟨vDispT_mono m, fun X W ok tk' => ?_⟩
  refine (pe_dispT (pps_cons (hk.2 X W ok tk') (hv.2 X W ok tk') pps_nil) rfl rfl (by simp) (by simp) ok.room.units).impV fun σ H Q ⟨c, G, vsL, osL, sl, sp, q⟩ => fun p hp => ?_
  have s1 : Sep G (upd H p (.dT [])) (.ref p :: (vals σ ++ vsL)) (.own (.dT []) [] :: (c ++ osL)) := SepA.make (ws := []) (ps := []) (o := .dT []) sp hp rfl ⟨rfl, rfl⟩ rfl
  have s2 := SepA.one s1 sl.len
  have key : tas X.mg W [.ex tk, .ex tv] σ (upd H p (.dT [])) fun vs H2 => ∃ x y, vs = [x, y] ∧ (H2 p = some (.dT []) ∧ ∃ (k : List Key) (b : Addr) (y' : V), [(x, y)] = [((V.ref b), y')] ∧ H2 b = some (.tup (k.map kV)) ∧ Q (.ref p) (upd H2 p (.dT [(k, y')]))) := by
    refine ops_run m sl s2 q (fun n f c' z => KX.more z (Same.refl _)) fun ts c' tvs H' G' g sl' ht sp' z => ?_
    split at z
    · rename_i ko vo
      obtain ⟨kk, ek, z⟩ := ob_iff.mp z
      obtain ⟨x, y, rfl⟩ : ∃ x y, tvs = [x, y] := by
        match tvs, ht with
        | [x, y], _ => exact ⟨x, y, rfl⟩
      refine ⟨x, y, rfl, ?_⟩
      have s3 : Sep G' H' (x :: (y :: (vals σ ++ (.ref p :: vsL)))) (ko :: (vo :: (c' ++ (.own (.dT []) [] :: osL)))) := sp'
      obtain ⟨b, rfl, hb⟩ := sw_tkey s3.sw1 ek
      have s4 : Sep G' H' ((y :: vals σ) ++ (.ref p :: vsL)) ((vo :: c') ++ (.own (.dT []) [] :: osL)) := s3.tail
      have s5 := SepA.unone s4 (by simp [sl'.len])
      obtain ⟨a, ob, ws, ea, ha', sh, hw, s6⟩ := SepA.open_ s5
      cases ea
      obtain ⟨hkk, rfl⟩ := sh
      have hws : ws = [] := List.eq_nil_of_length_eq_zero (by rw [hw]; rfl)
      subst hws
      refine ⟨ha', kk, b, y, rfl, hb, ?_⟩
      have s7 : SepA (p :: []) G' H' ([y] ++ (vals σ ++ vsL)) ([vo] ++ (c' ++ osL)) := s6
      have s8 := SepA.close (t := .dT [kk]) (o := .dT [(kk, y)]) s7 rfl ⟨rfl, rfl⟩ rfl
      exact z _ _ G' g sl' s8
    · exact z.elim
  exact liftE_imp hk.1 key fun x H1 q1 => liftE_imp hv.1 q1 fun y H2 ⟨x', y', e, z⟩ => by
    cases e
    exact z
end
end VS
namespace VS
open PySem PySem.Spec PyProof.Rows L2
/-! ## list(range(..)) -/
def bfLR1 : Bf := fun ds => match ds with
  | [.int j] => if smallI j = true ∧ j.toNat ≤ 16777216 then some (.own .lst ((rngD 0 j.toNat 1).map O.fz)) else none
  | _ => none
def bfLR2 : Bf := fun ds => match ds with
  | [.int i, .int j] => if smallI i = true ∧ smallI j = true ∧ (j - i).toNat ≤ 16777216 then some (.own .lst ((rngD i (j - i).toNat 1).map O.fz)) else none
  | _ => none
theorem rps_rg {G : Hp} {a b : Int} : Rps G (rgV a b) (rngD a (b - a).toNat 1) := by
  unfold rgV rngD
  generalize List.range (b - a).toNat = l
  induction l with
  | nil => exact .nil
  | cons i l ih =>
    rw [List.map_cons, List.map_cons, Int.mul_one]
    exact .cons .int ih
section
variable {Γ : Sg} {sc : Scope} {k : Nat}
theorem VE.lstRg1 {p p2 pos pos2 : Pos} {a : Expr} {oa : Opd} (g : isGl sc "list" = true) (b : Γ.blt "list" = true) (g2 : isGl sc "range" = true) (b2 : Γ.blt "range" = true) (ha : VO Γ sc k a oa) (ns : noStar a = true) :
    VE Γ sc k (.Call (.Name "list" p) [.Call (.Name "range" p2) [a] [] pos2] [] pos) (vPure [oa] (bfD bfLR1)) := by
  have m : MonoO [oa] := ha.1
  refine ⟨vPure_mono m, fun X W ok tk => ?_⟩
  refine (pe_listRg ok.calm (ok.gl _ (isGl_at g)) (ok.g.blt _ b) (prg_1 (ok.gl _ (isGl_at g2)) (ok.g.blt _ b2) (ha.2 X W ok tk) (starEach_cons ns)) (by rfl)).impV fun σ H Q h => ?_
  have q := vPure_run (r := fun vs H Q => ∃ x, vs = [x] ∧ ∃ n, x = .int n ∧ RgOk 0 n ∧ ∀ q, H q = none → Q (.ref q) (upd H q (.lst (rgV 0 n)))) m (PureR.up fun G H vs ds o Q gs s e q => by
    unfold bfLR1 at e
    split at e
    · rename_i j
      split at e
      · rename_i hz
        cases e
        obtain ⟨x, rfl, hx⟩ := sws1 s
        obtain rfl := sw_int hx
        have h1 := small_at hz.1
        refine ⟨_, rfl, j, rfl, ⟨by decide, by decide, h1.1, h1.2, ?_⟩, fun p hp => q _ _ _ (.made hp (by have := rps_rg (G := G) (a := 0) (b := j); rwa [Int.sub_zero] at this) rfl rfl)⟩
        have := hz.2
        omega
      · cases e
    · cases e) h
  exact unone1 q
theorem VE.lstRg2 {p p2 pos pos2 : Pos} {a a2 : Expr} {oa ob' : Opd} (g : isGl sc "list" = true) (b : Γ.blt "list" = true) (g2 : isGl sc "range" = true) (b2 : Γ.blt "range" = true) (ha : VO Γ sc k a oa) (hb : VO Γ sc k a2 ob') (ns : noStar a = true) (ns2 : noStar a2 = true) :
    VE Γ sc k (.Call (.Name "list" p) [.Call (.Name "range" p2) [a, a2] [] pos2] [] pos) (vPure [oa, ob'] (bfD bfLR2)) := by
  have m : MonoO [oa, ob'] := by
    have h1 := ha.1
    cases oa with
    | sl i => exact hb.1
    | ex t => exact ⟨h1.1, hb.1⟩
  refine ⟨vPure_mono m, fun X W ok tk => ?_⟩
  have ns' : ([a2].all noStar) = true := by simp [ns2]
  refine (pe_listRg ok.calm (ok.gl _ (isGl_at g)) (ok.g.blt _ b) (prg_2 (ok.gl _ (isGl_at g2)) (ok.g.blt _ b2) (ha.2 X W ok tk) (hb.2 X W ok tk) (starEach_cons ns) (starEach_cons ns2) (backTo_plain ns')) (by rfl)).impV fun σ H Q h => ?_
  have q := vPure_run (r := fun vs H Q => ∃ x y, vs = [x, y] ∧ ∃ i j, x = .int i ∧ y = .int j ∧ RgOk i j ∧ ∀ q, H q = none → Q (.ref q) (upd H q (.lst (rgV i j)))) m (PureR.up fun G H vs ds o Q gs s e q => by
    unfold bfLR2 at e
    split at e
    · rename_i i j
      split at e
      · rename_i hz
        cases e
        obtain ⟨x, y, rfl, hx, hy⟩ := sws2 s
        obtain rfl := sw_int hx
        obtain rfl := sw_int hy
        have h1 := small_at hz.1
        have h2 := small_at hz.2.1
        exact ⟨_, _, rfl, i, j, rfl, rfl, ⟨h1.1, h1.2, h2.1, h2.2, hz.2.2⟩, fun p hp => q _ _ _ (.made hp rps_rg rfl rfl)⟩
      · cases e
    · cases e) h
  exact unpair q
end
/-! ## displays with stars: [*a, b], (*a, b) -/
def evSt : List (Bool × DE) → XP → Cf → (List D → Cf → Prop) → Prop
  | [], _, c, k => k [] c
  | (b, t) :: r, E, c, k => t E c fun o c1 => ob (fz1 o) fun d => if b = true then ob (seqOf d) fun xs => evSt r E c1 fun ds c2 => k (xs ++ ds) c2 else evSt r E c1 fun ds c2 => k (d :: ds) c2
def MonoL (l : List (Bool × DE)) : Prop := ∀ p ∈ l, Mono p.2
theorem evSt_mono : ∀ {l : List (Bool × DE)}, MonoL l → ∀ (E E' : XP) (c : Cf) (Q Q' : List D → Cf → Prop), (∀ n f c, E n f c → E' n f c) → (∀ o c, Q o c → Q' o c) → evSt l E c Q → evSt l E' c Q'
  | [], _, E, E', c, Q, Q', hE, hQ, h => hQ _ _ h
  | (b, t) :: r, m, E, E', c, Q, Q', hE, hQ, h => by
    have mr : MonoL r := fun p hp => m p (List.mem_cons_of_mem _ hp)
    refine m (b, t) (List.mem_cons_self ..) E E' c _ _ hE (fun o c1 q => ?_) h
    obtain ⟨d, e, q⟩ := ob_iff.mp q
    refine ob_iff.mpr ⟨d, e, ?_⟩
    cases b with
    | true =>
      obtain ⟨xs, e2, q⟩ := ob_iff.mp q
      exact ob_iff.mpr ⟨xs, e2, evSt_mono mr E E' c1 _ _ hE (fun _ _ z => hQ _ _ z) q⟩
    | false => exact evSt_mono mr E E' c1 _ _ hE (fun _ _ z => hQ _ _ z) q
def liftA (mg : Str → Option Value) (W : WX) (t : XP → Cf → (List D → Cf → Prop) → Prop) : TA := fun σ H Q => ∃ c G vsL osL, Slots σ c ∧ Sep G H (vals σ ++ vsL) (c ++ osL) ∧
  t (KX mg W σ vsL osL G) c fun ds c' => ∀ vs H' G', Same G G' → Slots σ c' → Sep G' H' (vals σ ++ vsL) (c' ++ osL) → Rps G' vs ds → Q vs H'
theorem _root_.L2.PA.impV {X : Cx} {es : List Expr} {t u : TA} (h : PA X es t) (hi : ∀ σ H Q, u σ H Q → t σ H Q) : PA X es u := ⟨fun pos pins s σ H Q I q => h.run pos pins s σ H Q I (hi _ _ _ q)⟩
section
variable {Γ : Sg} {sc : Scope} {k : Nat} {e : Expr} {es : List Expr} {t : DE} {l : List (Bool × DE)} {pos p : Pos}
def VStar (Γ : Sg) (sc : Scope) (k : Nat) (es : List Expr) (l : List (Bool × DE)) : Prop := MonoL l ∧ ∀ X W, OkX Γ sc k X → Takes X W → PA X es (liftA X.mg W (evSt l))
theorem VStar.nil : VStar Γ sc k [] [] := ⟨(fun _ h => nomatch h), fun X W ok tk => pa_nil.impV fun σ H Q ⟨c, G, vsL, osL, sl, sp, q⟩ => q [] H G (Same.refl _) sl sp .nil⟩
theorem VStar.cons (h : VE Γ sc k e t) (r : VStar Γ sc k es l) (n : noStar e = true) : VStar Γ sc k (e :: es) ((false, t) :: l) := by
  refine ⟨fun p hp => (List.mem_cons.mp hp).elim (fun z => z ▸ h.1) (r.1 p), fun X W ok tk => (pa_cons (h.2 X W ok tk) (r.2 X W ok tk) (starEach_cons n)).impV fun σ H Q ⟨c, G, vsL, osL, sl, sp, q⟩ => ?_⟩
  refine liftE.of h.1 sl sp q (fun _ _ _ z => z) fun o c1 v H1 G1 g1 sl1 sp1 q => ?_
  obtain ⟨d, e1, q⟩ := ob_iff.mp q
  have ho : o = .fz d := by
    cases o with
    | fz d' => cases e1; rfl
    | own _ _ => cases e1
  subst ho
  have rv := sp1.rp
  refine ⟨c1, G1, vsL, osL, sl1, sp1.tail, evSt_mono r.1 _ _ _ _ _ (fun n f c' z => KX.grow z g1) (fun ds c2 z vs H2 G2 g2 sl2 sp2 rp => z (v :: vs) H2 G2 (g1.trans g2) sl2 sp2 (.cons (rv.mono g2) rp)) q⟩
theorem VStar.star (h : VE Γ sc k e t) (r : VStar Γ sc k es l) : VStar Γ sc k (.Starred e p :: es) ((true, t) :: l) := by
  refine ⟨fun p hp => (List.mem_cons.mp hp).elim (fun z => z ▸ h.1) (r.1 p), fun X W ok tk => (StX.pa_star (h.2 X W ok tk) (r.2 X W ok tk) (by rfl)).impV fun σ H Q ⟨c, G, vsL, osL, sl, sp, q⟩ => ?_⟩
  refine liftE.of h.1 sl sp q (fun _ _ _ z => z) fun o c1 v H1 G1 g1 sl1 sp1 q0 => ?_
  obtain ⟨d, e1, q1⟩ := ob_iff.mp q0
  have ho : o = .fz d := by
    cases o with
    | fz d' => cases e1; rfl
    | own _ _ => cases e1
  subst ho
  have rv := sp1.rp
  obtain ⟨xs, e2, q2⟩ := ob_iff.mp q1
  obtain ⟨a, ws, rfl, hs, rw⟩ := seqOf_v (K := X.K) (rv.sw sp1.same) e2
  refine ⟨a, ws, rfl, hs.symm, c1, G1, vsL, osL, sl1, sp1.tail, evSt_mono r.1 _ _ _ _ _ (fun n f c' z => KX.grow z g1) (fun ds c2 z vs H2 G2 g2 sl2 sp2 rp => z (ws ++ vs) H2 G2 (g1.trans g2) sl2 sp2 ((rw.mono g2).append rp)) q2⟩
def vTupS (l : List (Bool × DE)) : DE := fun E c Q => evSt l E c fun ds c1 => ds.length ≤ sizeLine ∧ Q (.fz (.nd .tup ds)) c1
def vLstS (l : List (Bool × DE)) : DE := fun E c Q => evSt l E c fun ds c1 => ds.length ≤ sizeLine ∧ Q (.own .lst (ds.map .fz)) c1
theorem vTupS_mono (m : MonoL l) : Mono (vTupS l) := fun E E' c Q Q' hE hQ h => evSt_mono m _ _ _ _ _ hE (fun o c q => ⟨q.1, hQ _ _ q.2⟩) h
theorem vLstS_mono (m : MonoL l) : Mono (vLstS l) := fun E E' c Q Q' hE hQ h => evSt_mono m _ _ _ _ _ hE (fun o c q => ⟨q.1, hQ _ _ q.2⟩) h
theorem VE.tupS {kk : Nat} (h : VStar Γ sc k es l) : VE Γ sc k (.Tuple es kk pos) (vTupS l) := ⟨vTupS_mono h.1, fun X W ok tk => (pe_tup (h.2 X W ok tk)).impV fun σ H Q ⟨c, G, vsL, osL, sl, sp, q⟩ => by
  refine ⟨c, G, vsL, osL, sl, sp, evSt_mono h.1 _ _ _ _ _ (fun _ _ _ z => z) (fun ds c' z vs H' G' g sl' sp' rp => ?_) q⟩
  refine ⟨by rw [rp.length]; exact z.1, fun p hp => ?_⟩
  obtain ⟨G2, nw⟩ := NewS.tup sp'.same hp rp
  exact z.2 _ _ G2 (g.trans nw.1) sl' (nw.2 _ _ _ sp')⟩
theorem VE.lstS (h : VStar Γ sc k es l) : VE Γ sc k (.List es pos) (vLstS l) := ⟨vLstS_mono h.1, fun X W ok tk => (pe_lst (h.2 X W ok tk)).impV fun σ H Q ⟨c, G, vsL, osL, sl, sp, q⟩ => by
  refine ⟨c, G, vsL, osL, sl, sp, evSt_mono h.1 _ _ _ _ _ (fun _ _ _ z => z) (fun ds c' z vs H' G' g sl' sp' rp => ?_) q⟩
  refine ⟨by rw [rp.length]; exact z.1, fun p hp => ?_⟩
  have nw : NewS G' H' G' _ _ _ := NewS.made (t := .lst) hp rp rfl rfl
  exact z.2 _ _ G' g sl' (nw.2 _ _ _ sp')⟩
end
end VS
namespace VS
open PySem PySem.Spec PyProof.Rows L2
/-! ## a name's last reading -/
def vMv (i : Nat) : DE := fun E c Q => ob c[i]? fun o => isBad o = false ∧ match o with
  | .fz d => Q (.fz d) c
  | .own t os => Q (.own t os) (c.set i O.bad)
theorem vMv_mono {i : Nat} : Mono (vMv i) := fun E E' c Q Q' hE hQ h => by
  obtain ⟨o, e, nb, h⟩ := ob_iff.mp h
  refine ob_iff.mpr ⟨o, e, nb, ?_⟩
  cases o with
  | fz d => exact hQ _ _ h
  | own t os => exact hQ _ _ h
section
variable {Γ : Sg} {sc : Scope} {k : Nat}
theorem VE.mv {x : Str} {pos : Pos} {i : Nat} (h : slotOf Γ sc x = some i) (p : plainName x = true) : VE Γ sc k (.Name x pos) (vMv i) :=
  ⟨vMv_mono, fun X W ok tk => ⟨fun pins s σ H Q I ⟨c, G, vsL, osL, sl, sp, q⟩ => by
    obtain ⟨o, e, nb, q⟩ := ob_iff.mp q
    cases o with
    | fz d =>
      refine ((VE.var (k := k) h p).2 X W ok tk).run pins s σ H Q I ⟨c, G, vsL, osL, sl, sp, ob_iff.mpr ⟨_, e, nb, ?_⟩⟩
      have ec : c.set i (.fz (O.fz d).view) = c := by
        apply List.ext_getElem?
        intro j
        by_cases z : i = j
        · subst z
          rw [List.getElem?_set_self (List.getElem?_eq_some_iff.mp e).1, e]
          rfl
        · rw [List.getElem?_set_ne z]
      rw [ec]
      exact q
    | own t os => exact ((VE.move (k := k) h p).2 X W ok tk).run pins s σ H Q I ⟨c, G, vsL, osL, sl, sp, ob_iff.mpr ⟨_, e, nb, q⟩⟩⟩⟩
end
/-! ## reading the text -/
structure Opts where
  keep : Bool := false
  P : List Nat := []
  ow : List (Str × List Bool) := []
  mv : List Str := []
  sl : List Str := []
  lk : List Str := []
  dv : List Str := []
variable (Γ : Sg) (k : Nat) (op : Opts)
abbrev RE (sc : Scope) (e : Expr) := Option { t : DE // VE Γ sc k e t }
abbrev RO (sc : Scope) (e : Expr) := Option { t : Opd // VO Γ sc k e t }
abbrev RX (sc : Scope) (e : Expr) := Option { t : Opd // VO Γ sc k e t ∧ isEx t = true }
abbrev RT (sc : Scope) (e : Expr) := Option { t : DT // VT Γ sc k e t }
abbrev RA (sc : Scope) (es : List Expr) := Option { t : List Opd // VA Γ sc k es t ∧ es.all noStar = true }
abbrev RXs (sc : Scope) (es : List Expr) := Option { t : List Opd // (VA Γ sc k es t ∧ es.all noStar = true) ∧ t.all isEx = true }
abbrev RXz (sc : Scope) (es : List Expr) := Option { t : List Opd // VAs Γ sc k es t ∧ t.all isEx = true }
abbrev RKs (sc : Scope) (ks : List Keyword) := Option { t : List Opd // VK' Γ sc k ks t ∧ t.length = (ks.filterMap (·.arg)).length }
abbrev RI (sc : Scope) (tg e : Expr) := Option { p : List Opd × Itf // VI Γ sc k tg e p.1 p.2 }
abbrev RG (sc : Scope) (P : List Nat) (tg : Expr) := Option { g : DG // VG Γ sc k P tg g ∧ tgPlain tg = true }
abbrev RGs (sc : Scope) (P : List Nat) (tgs : List Expr) := Option { g : DGs // VGs Γ sc k P tgs tgs.length g ∧ tgs.all tgPlain = true }
abbrev RS (sc : Scope) (st : Stmt) := Option { t : DS // VSt Γ sc k op.P st t }
abbrev RSs (sc : Scope) (sts : List Stmt) := Option { t : DS // VSs Γ sc k op.P sts t }
structure CC where
  e : (sc : Scope) → (x : Expr) → RE Γ k sc x
  t : (sc : Scope) → (x : Expr) → RT Γ k sc x
structure CS where
  s : (sc : Scope) → (x : List Stmt) → RSs Γ k op sc x
variable {Γ k op}
section
variable (c : CC Γ k)
def isAtom : Expr → Bool
  | .Name .. => true
  | .Constant .. => true
  | _ => false
def nameO (sc : Scope) (x : Str) (pos : Pos) : RO Γ k sc (.Name x pos) := if p : plainName x = true then match h : slotOf Γ sc x with
    | some i => some ⟨.sl i, VO.sl h p⟩
    | none => none
  else none
def oF (sc : Scope) (e : Expr) : RO Γ k sc e := match e with
  | .Name x pos => match nameO sc x pos with
    | some r => some r
    | none => (c.e sc (.Name x pos)).map fun t => ⟨.ex t.1, VO.ex t.2⟩
  | e => (c.e sc e).map fun t => ⟨.ex t.1, VO.ex t.2⟩
/-- a value that is handed on, frozen -/
def xF (keep : Bool) (sc : Scope) (e : Expr) : RX Γ k sc e := (c.e sc e).map fun t => if (keep || isAtom e) = true then ⟨.ex t.1, VO.ex t.2, rfl⟩ else ⟨.ex (vFz t.1), VO.ex (VE.frz t.2), rfl⟩
def osF (sc : Scope) : (es : List Expr) → RA Γ k sc es
  | [] => some ⟨[], VA.nil, rfl⟩
  | e :: es => if h : noStar e = true then (oF c sc e).bind fun o => (osF sc es).map fun os => ⟨o.1 :: os.1, VA.cons o.2 os.2.1 h, by rw [List.all_cons, h, os.2.2]; rfl⟩ else none
def xsF (keep : Bool) (sc : Scope) : (es : List Expr) → RXs Γ k sc es
  | [] => some ⟨[], ⟨VA.nil, rfl⟩, rfl⟩
  | e :: es => if h : noStar e = true then (xF c keep sc e).bind fun o => (xsF keep sc es).map fun os => ⟨o.1 :: os.1, ⟨VA.cons o.2.1 os.2.1.1 h, by rw [List.all_cons, h, os.2.1.2]; rfl⟩, by rw [List.all_cons, o.2.2, os.2.2]; rfl⟩ else none
def xzF (keep : Bool) (sc : Scope) : (es : List Expr) → RXz Γ k sc es
  | [] => some ⟨[], VAs.nil, rfl⟩
  | e :: es => (xF c keep sc e).bind fun o => (xzF keep sc es).map fun os => ⟨o.1 :: os.1, VAs.cons o.2.1 os.2.1, by rw [List.all_cons, o.2.2, os.2.2]; rfl⟩
/-- an argument: a name handed over to be changed, or a frozen value -/
def argF (own : Bool) (sc : Scope) (e : Expr) : RO Γ k sc e := if own = true then oF c sc e else (xF c false sc e).map fun o => ⟨o.1, o.2.1⟩
def argsF (sc : Scope) : List Bool → (es : List Expr) → RA Γ k sc es
  | _, [] => some ⟨[], VA.nil, rfl⟩
  | bs, e :: es => if h : noStar e = true then (argF c (bs.headD false) sc e).bind fun o => (argsF sc bs.tail es).map fun os => ⟨o.1 :: os.1, VA.cons o.2 os.2.1 h, by rw [List.all_cons, h, os.2.2]; rfl⟩ else none
def kwsF (sc : Scope) (f : Str → Bool) : (ks : List Keyword) → RKs Γ k sc ks
  | [] => some ⟨[], VK'.nil, rfl⟩
  | ⟨some nm, e, p⟩ :: ks => (argF c (f nm) sc e).bind fun o => (kwsF sc f ks).map fun os => ⟨o.1 :: os.1, VK'.cons o.2 os.2.1, by rw [List.length_cons, os.2.2]; rfl⟩
  | ⟨none, _, _⟩ :: _ => none
def opB : (o : Operator) → Option { bf : BfO // OpO (binaryOp o) bf }
  | .Add => some ⟨_, add_ok.up⟩
  | .Sub => some ⟨_, subI_ok.up⟩
  | .Mult => some ⟨_, mul_ok.up⟩
  | .FloorDiv => some ⟨_, divI_ok.up⟩
  | .Mod => some ⟨_, modI_ok.up⟩
  | .Pow => some ⟨_, powI_ok.up⟩
  | _ => none
def opC : (o : CmpOp) → Option { bf : BfO // OpO (compareOp o) bf }
  | .Eq => some ⟨bfEq, eq_ok⟩
  | .NotEq => some ⟨bfNe, ne_ok⟩
  | .Lt => some ⟨_, lt_ok.up⟩
  | .LtE => some ⟨_, le_ok.up⟩
  | .Gt => some ⟨_, gt_ok.up⟩
  | .GtE => some ⟨_, ge_ok.up⟩
  | .Is => some ⟨_, is_ok.up⟩
  | .IsNot => some ⟨_, isnot_ok.up⟩
  | .In => some ⟨_, in_ok⟩
  | .NotIn => some ⟨_, nin_ok⟩
def nameF (mv : List Str) (sc : Scope) (x : Str) (pos : Pos) : RE Γ k sc (.Name x pos) := if p : plainName x = true then match h : slotOf Γ sc x with
    | some i => if mv.contains x = true then some ⟨vMv i, VE.mv h p⟩ else some ⟨vVar i, VE.var h p⟩
    | none => if g : isGl sc x = true then match h2 : Γ.cst x with
        | some v => some ⟨vC (dOf v), VE.cst g h2 p⟩
        | none => if b : Γ.blt x = true then match h3 : tyOf x with
            | some n => some ⟨vC (.val (.ty n)), VE.ty g b h3 p⟩
            | none => none
          else none
      else none
  else none
def cmpF (sc : Scope) (a : Expr) (ops : List CmpOp) (bs : List Expr) (pos : Pos) : RE Γ k sc (.Compare a ops bs pos) := match ops, bs with
  | [o], [b] => if hm : behindInMarks o b = false then (oF c sc a).bind fun oa => (oF c sc b).bind fun ob' => (opC o).map fun bf => ⟨vPure [oa.1, ob'.1] bf.1, VE.cmp bf.2 oa.2 ob'.2 hm⟩ else none
  | [o, o'], [b, d] => if hm : lastMarks [o, o'] [b, d] = false then (oF c sc a).bind fun oa => (oF c sc b).bind fun ob' => (oF c sc d).bind fun oc => (opC o).bind fun bf => (opC o').map fun bf' => ⟨vChain oa.1 ob'.1 oc.1 bf.1 bf'.1, VE.chain bf.2 bf'.2 oa.2 ob'.2 oc.2 hm⟩ else none
  | _, _ => none
def cmpT (sc : Scope) (a : Expr) (ops : List CmpOp) (bs : List Expr) (pos : Pos) : RT Γ k sc (.Compare a ops bs pos) := match ops, bs with
  | [o], [b] => if hm : behindInMarks o b = false then (oF c sc a).bind fun oa => (oF c sc b).bind fun ob' => (opC o).map fun bf => ⟨vCmpT [oa.1, ob'.1] bf.1, VT.cmp bf.2 oa.2 ob'.2 hm⟩ else none
  | [o, o'], [b, d] => if hm : lastMarks [o, o'] [b, d] = false then (oF c sc a).bind fun oa => (oF c sc b).bind fun ob' => (oF c sc d).bind fun oc => (opC o).bind fun bf => (opC o').map fun bf' => ⟨vTest (vChain oa.1 ob'.1 oc.1 bf.1 bf'.1), VT.chain bf.2 bf'.2 oa.2 ob'.2 oc.2 hm⟩ else none
  | _, _ => none
def andF (sc : Scope) : (es : List Expr) → (pos : Pos) → RE Γ k sc (.BoolOp .And es pos)
  | [], _ => none
  | [a], pos => (c.e sc a).map fun t => ⟨t.1, VE.one t.2⟩
  | a :: b :: es, pos => (c.e sc a).bind fun t => (andF sc (b :: es) pos).map fun u => ⟨vAndV t.1 u.1, VE.and t.2 u.2⟩
def orF (sc : Scope) : (es : List Expr) → (pos : Pos) → RE Γ k sc (.BoolOp .Or es pos)
  | [], _ => none
  | [a], pos => (c.e sc a).map fun t => ⟨t.1, VE.one t.2⟩
  | a :: b :: es, pos => (c.e sc a).bind fun t => (orF sc (b :: es) pos).map fun u => ⟨vOrV t.1 u.1, VE.or t.2 u.2⟩
abbrev RW (Γ : Sg) (k : Nat) (sc : Scope) (e : Expr) := Option { t : DT // VW Γ sc k e t }
def andT (sc : Scope) : (es : List Expr) → (pos : Pos) → RW Γ k sc (.BoolOp .And es pos)
  | [], _ => none
  | [a], pos => (c.t sc a).map fun t => ⟨t.1, VW.and1 t.2⟩
  | a :: b :: es, pos => (c.t sc a).bind fun t => (andT sc (b :: es) pos).map fun u => ⟨vAnd t.1 u.1, VW.and t.2 u.2⟩
def orT (sc : Scope) : (es : List Expr) → (pos : Pos) → RW Γ k sc (.BoolOp .Or es pos)
  | [], _ => none
  | [a], pos => (c.t sc a).map fun t => ⟨t.1, VW.or1 t.2⟩
  | a :: b :: es, pos => (c.t sc a).bind fun t => (orT sc (b :: es) pos).map fun u => ⟨vOr t.1 u.1, VW.or t.2 u.2⟩
/-- a call by a name -/
def sInst : Str := "isinstance"
def callF (ow : List (Str × List Bool)) (MC : ∀ x F, Γ.fns x = some F → MonoC F.C) (sc : Scope) (x : Str) (p : Pos) (es : List Expr) (kws : List Keyword) (pos : Pos) : RE Γ k sc (.Call (.Name x p) es kws pos) :=
  if pn : plainName x = true then if g : isGl sc x = true then
    match hf : Γ.fns x with
    | some F => match es, kws with
      | [], [] => if hn : F.dv.length = F.ps.length then some ⟨vCall F.C F.dv [], VE.call0 g hf pn hn (MC _ _ hf)⟩ else none
      | e :: es, [] => (argsF c sc ((ow.lookup x).getD []) (e :: es)).bind fun os => if hn : os.1.length + F.dv.length = F.ps.length then some ⟨vCall F.C F.dv os.1, VE.call g hf pn os.2.1 os.2.2 hn (MC _ _ hf)⟩ else none
      | [], kw :: kws => (kwsF c sc (fun nm => ((F.ps.zip ((ow.lookup x).getD [])).lookup nm).getD false) (kw :: kws)).bind fun os => if ka : (kw :: kws).all (·.arg.isSome) = true then
          (F.kws.find? fun q => q.1 == 0 && q.2.1 == (kw :: kws).filterMap (·.arg)).bind fun q => if hq : (0, (kw :: kws).filterMap (·.arg), q.2.2) ∈ F.kws then some ⟨vCall (arrC q.2.2 F.C) [] os.1, VE.callK0 g hf pn os.2.1 ka hq os.2.2 (MC _ _ hf)⟩ else none
        else none
      | e :: es, kw :: kws => (argsF c sc ((ow.lookup x).getD []) (e :: es)).bind fun os => (kwsF c sc (fun nm => ((F.ps.zip ((ow.lookup x).getD [])).lookup nm).getD false) (kw :: kws)).bind fun os2 => if ka : (kw :: kws).all (·.arg.isSome) = true then
          (F.kws.find? fun q => q.1 == os.1.length && q.2.1 == (kw :: kws).filterMap (·.arg)).bind fun q => if hq : (os.1.length, (kw :: kws).filterMap (·.arg), q.2.2) ∈ F.kws then some ⟨vCall (arrC q.2.2 F.C) [] (os.1 ++ os2.1), VE.callK g hf pn os.2.1 os2.2.1 os.2.2 ka hq os2.2.2 (MC _ _ hf)⟩ else none
        else none
    | none => if b : Γ.blt x = true then match kws with
      | [] => match es with
        | [] => none
        | e :: es => match h3 : bltOf x with
          | some r => (osF c sc (e :: es)).map fun os => ⟨vPure os.1 r.2, VE.callB g b (by rw [h3]) pn os.2.1 os.2.2⟩
          | none => match es with
            | [e2] => if hx : x = sInst then (oF c sc e).bind fun oa => (oF c sc e2).bind fun ob' => if hs : [e, e2].all noStar = true then some ⟨vPure [oa.1, ob'.1] (bfD (bfIsi Γ.kit Γ.cls)), by
                subst hx
                have hs' : noStar e = true ∧ noStar e2 = true := by simpa using hs
                exact VE.isi g b (VA.cons oa.2 (VA.cons ob'.2 VA.nil hs'.2) hs'.1) hs⟩ else none else none
            | _ => none
      | _ => none
    else none
  else none else none
/-- .. of any value -/
def methG (keep : Bool) (sc : Scope) (o : Expr) (name : Str) (apos : Pos) (es : List Expr) (pos : Pos) (hline : (apos.endLine == pos.line) = true) : RE Γ k sc (.Call (.Attribute o name apos) es [] pos) := if hb : notCall0 o = true then (oF c sc o).bind fun ro => match es with
    | [] => some ⟨vMth (methOf name) ro.1 [], VE.mth0 ro.2 hb hline⟩
    | e :: es => if hf : (e :: es).length < 30 then (xsF c keep sc (e :: es)).map fun os => ⟨vMth (methOf name) ro.1 os.1, VE.mth ro.2 os.2.1.1 os.2.2 hb hline os.2.1.2 hf⟩ else none
  else none
/-- o.m(..) -/
def methF (keep : Bool) (sc : Scope) (o : Expr) (name : Str) (apos : Pos) (es : List Expr) (pos : Pos) : RE Γ k sc (.Call (.Attribute o name apos) es [] pos) :=
  if hline : (apos.endLine == pos.line) = true then
    match o with
    | .Subscript (.Name x p) ke sp => if hs : isSlice ke = false then if pn : plainName x = true then match hx : slotOf Γ sc x with
        | some i => (oF c sc ke).bind fun key => match es with
          | [] => some ⟨vMthI (methOf name) i key.1 [], VE.mthI0 hx pn key.2 hs hline⟩
          | e :: es => if hf : (e :: es).length < 30 then (xsF c keep sc (e :: es)).map fun os => ⟨vMthI (methOf name) i key.1 os.1, VE.mthI hx pn key.2 hs os.2.1.1 os.2.2 hline os.2.1.2 hf⟩ else none
        | none => none
      else none else methG c keep sc (.Subscript (.Name x p) ke sp) name apos es pos hline
    | o => methG c keep sc o name apos es pos hline
  else none
def boundF (sc : Scope) : (e : Option Expr) → Option { o : Option Opd // VB Γ sc k e o }
  | none => some ⟨none, VB.none⟩
  | some e => (oF c sc e).map fun o => ⟨some o.1, VB.some o.2⟩
def subF (sc : Scope) (a b : Expr) (pos : Pos) : RE Γ k sc (.Subscript a b pos) := match b with
  | .Slice none none (some (.UnaryOp .USub (.Constant (.int (.ofNat 1)) kk p1) p2)) p3 => (oF c sc a).map fun o => ⟨vPure [o.1] (bfD bfRev), VE.rev o.2⟩
  | .Slice lo hi none p2 => (oF c sc a).bind fun o => (boundF c sc lo).bind fun l => (boundF c sc hi).map fun h => ⟨vSl o.1 l.1 h.1, VE.slice o.2 l.2 h.2⟩
  | b => if n : isSlice b = false then (oF c sc a).bind fun o => (oF c sc b).map fun i => ⟨vPure [o.1, i.1] (bfD bfIx), VE.ix o.2 i.2 n⟩ else none
/-! ### what is walked, targets -/
def itemsF (sc : Scope) (tg o : Expr) (apos pos : Pos) : Option { p : List Opd × Itf // VI Γ sc k tg (.Call (.Attribute o "items" apos) [] [] pos) p.1 p.2 } := match tg with
  | .Tuple elts kk tp => if hb : notCall0 o = true then if hl : (apos.endLine == pos.line) = true then (xF c false sc o).map fun r => ⟨([r.1], itItems), VI.items r.2.1 hb hl⟩ else none else none
  | _ => none
def sItems : Str := "items"
def sVals : Str := "values"
def sRange : Str := "range"
def sEnum : Str := "enumerate"
def sZip : Str := "zip"
def anyI (sl : List Str) (sc : Scope) (tg e : Expr) : RI Γ k sc tg e := match e with
  | .Name x pos => if sl.contains x = true then (oF c sc (.Name x pos)).map fun o => ⟨([o.1], itAny), VI.any o.2⟩ else (xF c false sc (.Name x pos)).map fun o => ⟨([o.1], itAny), VI.any o.2.1⟩
  | e => (xF c false sc e).map fun o => ⟨([o.1], itAny), VI.any o.2.1⟩
def callI (sl : List Str) (sc : Scope) (tg : Expr) (x : Str) (p : Pos) (es : List Expr) (pos : Pos) : RI Γ k sc tg (.Call (.Name x p) es [] pos) :=
  if hx : x = sRange then if g : isGl sc sRange = true then if b : Γ.blt sRange = true then match es with
      | [e1] => (osF c sc [e1]).bind fun os => match h : os.1 with
        | [o1] => some ⟨([o1], itRng1), by subst hx; exact VI.rng1 g b (h ▸ os.2.1) os.2.2⟩
        | _ => none
      | [e1, e2] => (osF c sc [e1, e2]).bind fun os => match h : os.1 with
        | [o1, o2] => some ⟨([o1, o2], itRng2), by subst hx; exact VI.rng2 g b (h ▸ os.2.1) os.2.2⟩
        | _ => none
      | [e1, e2, e3] => (osF c sc [e1, e2, e3]).bind fun os => match h : os.1 with
        | [o1, o2, o3] => some ⟨([o1, o2, o3], itRng3), by subst hx; exact VI.rng3 g b (h ▸ os.2.1) os.2.2⟩
        | _ => none
      | _ => none
    else none else none
  else if hx : x = sEnum then if g : isGl sc sEnum = true then if b : Γ.blt sEnum = true then match tg, es with
      | .Tuple elts kk tp, [e1] => (xsF c false sc [e1]).bind fun os => match h : os.1 with
        | [o1] => some ⟨([o1], itEnum), by subst hx; exact VI.enum g b (h ▸ os.2.1.1) os.2.1.2⟩
        | _ => none
      | _, _ => none
    else none else none
  else if hx : x = sZip then if g : isGl sc sZip = true then if b : Γ.blt sZip = true then match tg, es with
      | .Tuple elts kk tp, [e1, e2] => (xsF c false sc [e1, e2]).bind fun os => match h : os.1 with
        | [o1, o2] => some ⟨([o1, o2], itZip), by subst hx; exact VI.zip g b (h ▸ os.2.1.1) os.2.1.2⟩
        | _ => none
      | _, _ => none
    else none else none
  else anyI c sl sc tg (.Call (.Name x p) es [] pos)
/-- range(..) over names that the loop may store to: their values are taken first -/
def rngX (sc : Scope) (tg e : Expr) : RI Γ k sc tg e := match e with
  | .Call (.Name x p) es [] pos => if hx : x = sRange then if g : isGl sc sRange = true then if b : Γ.blt sRange = true then match es with
      | [e1] => (xsF c false sc [e1]).bind fun os => match h : os.1 with
        | [o1] => some ⟨([o1], itRng1), by subst hx; exact VI.rng1 g b (h ▸ os.2.1.1) os.2.1.2⟩
        | _ => none
      | [e1, e2] => (xsF c false sc [e1, e2]).bind fun os => match h : os.1 with
        | [o1, o2] => some ⟨([o1, o2], itRng2), by subst hx; exact VI.rng2 g b (h ▸ os.2.1.1) os.2.1.2⟩
        | _ => none
      | [e1, e2, e3] => (xsF c false sc [e1, e2, e3]).bind fun os => match h : os.1 with
        | [o1, o2, o3] => some ⟨([o1, o2, o3], itRng3), by subst hx; exact VI.rng3 g b (h ▸ os.2.1.1) os.2.1.2⟩
        | _ => none
      | _ => none
    else none else none else none
  | _ => none
def iF (sl : List Str) (sc : Scope) (tg e : Expr) : RI Γ k sc tg e := match e with
  | .Call (.Name x p) es [] pos => callI c sl sc tg x p es pos
  | .Call (.Attribute o nm apos) [] [] pos => if hx : nm = sItems then (itemsF c sc tg o apos pos).map fun r => ⟨r.1, by subst hx; exact r.2⟩
      else if hx : nm = sVals then if hb : notCall0 o = true then if hl : (apos.endLine == pos.line) = true then (xF c false sc o).map fun r => ⟨([r.1], itVals), by subst hx; exact VI.vals r.2.1 hb hl⟩ else none else none
      else anyI c sl sc tg (.Call (.Attribute o nm apos) [] [] pos)
  | e => anyI c sl sc tg e
end
end VS
set_option maxHeartbeats 2000000
namespace VS
open PySem PySem.Spec PyProof.Rows L2
/-! ## a set of texts whose table can be walked -/
/-- the text of an entry -/
def txE (e : Int × Value) : Str := match e.2 with
  | .str k _ => k
  | _ => ⟨#[]⟩
/-- an entry of a text -/
def TxE (w : World) (e : Int × Value) : Prop := ∃ k u, e.2 = Value.str k u ∧ e.1 = hashStr w k
/-- the set object at a, with the texts l -/
def TxSet (w : World) (h : Heap) (a : Addr) (l : List Str) : Prop :=
  l.Nodup ∧ l.length < scanBound ∧ ∃ o es ep t, h.get? a = some o ∧ o.ExactSet ∧ o.data = .set es ep t ∧ (∀ e ∈ es.toList, TxE w e) ∧ (es.toList.map txE).Perm l ∧
    t.fits es.size = true ∧ Ris t.place.toList ∧ (w.params.followText "set-order" = true ∨ t.led = true)
def addS (l : List Str) (k : Str) : List Str := if k ∈ l then l else k :: l
theorem txE_is {P : Program} {w : World} {e : Int × Value} (g : TxE w e) (k : Str) : (strKind P w).is k e.2 = true ↔ txE e = k := by
  obtain ⟨k0, u, h1, _⟩ := g
  unfold txE
  rw [h1]
  constructor
  · intro h
    exact (strKind P w).inj _ _ _ (strKind_is P w k0 u) h
  · rintro rfl
    exact strKind_is P w _ u
theorem txE_elems {P : Program} {w : World} {l : List (Int × Value)} (g : ∀ e ∈ l, TxE w e) : ElemsOf (strKind P w) l := fun e he => by
  obtain ⟨k, u, h1, h2⟩ := g e he
  exact ⟨⟨k, by rw [h1]; exact strKind_is P w k u, h2⟩, by rw [h1]; rfl⟩
section
variable {P : Program} {w : World} {A : Around} {E : Value → Shared → Prop} {s : Shared} {a : Addr} {l : List Str}
theorem TxSet.at' {h h' : Heap} (R : TxSet w h a l) (k : ∀ o, h.get? a = some o → h'.get? a = some o) : TxSet w h' a l := by
  obtain ⟨h1, h2, o, es, ep, t, ho, r⟩ := R
  exact ⟨h1, h2, o, es, ep, t, k o ho, r⟩
theorem TxSet.size {es : Array (Int × Value)} (p : (es.toList.map txE).Perm l) : es.size = l.length := by
  have := p.length_eq
  simpa using this
theorem txs_fresh {h : Heap} (w : World) : TxSet w (h.push { cls := .type "set", dict := none, data := .set #[] 0 (.fresh 0 0 (!w.params.followText "set-order")) }) h.objs.size [] :=
  ⟨List.nodup_nil, by decide, _, #[], 0, _, Heap.get?_push_size _ rfl, ⟨rfl, rfl, rfl⟩, rfl, (fun e he => by simp at he), (by simp), (by rfl), List.Pairwise.nil, by
    show _ ∨ (!w.params.followText "set-order") = true
    cases w.params.followText "set-order"
    · exact .inr rfl
    · exact .inl rfl⟩
/-- the table behind a new entry, laid again where it is too full -/
theorem txs_tail {g : Bool → Sem Unit} (hg : ∀ (b : Bool) (s₁ : Shared) (Q' : Unit → Shared → Prop), Q' () s₁ → wpAny (model P w) A (g b) Q' E s₁)
    {o : Obj} {es : Array (Int × Value)} {ep : Nat} {t : SetTable} (ho : s.heap.get? a = some o) (hex : o.ExactSet) (hd : o.data = .set es ep t)
    {es1 : Array (Int × Value)} {t2 : SetTable} (hn : l.Nodup) (hb : l.length < scanBound) (g1 : ∀ e ∈ es1.toList, TxE w e) (p1 : (es1.toList.map txE).Perm l)
    (hf2 : t2.fits es1.size = true) (hr : Ris t2.place.toList) (hl : w.params.followText "set-order" = true ∨ t2.led = true) {wasDummy : Bool} {R : Option Bool → Shared → Prop}
    (hR : ∀ h', Heap.SameBut a s.heap h' → TxSet w h' a l → R (some true) { s with heap := h' }) :
    wpAny (model P w) A (do
        storeSet a es1 t2
        if (!wasDummy && t2.tooFull) = true then do
            g (relayAll t2 es1 (SetTable.grown es1.size)).2.2
            storeSet a (relayAll t2 es1 (SetTable.grown es1.size)).1 (relayAll t2 es1 (SetTable.grown es1.size)).2.1
            pure (some true)
          else pure (some true)) R E s := by
  have hb1 : es1.size < scanBound := by rw [TxSet.size p1]; exact hb
  refine wpAny_bind (wpAny_storeSet_of ho hd ?_ (fits_of_scanBound hb1))
  have ho1 := PpSet.storeB_at (es' := es1) (t' := t2) ho hd
  have sb1 := Heap.SameBut.update s.heap a (Obj.putSet es1 t2)
  split
  · have pm := relayAll_perm t2 es1 (SetTable.grown es1.size)
    have hf3 := relayAll_fits t2 es1 (SetTable.grown es1.size)
    have hr3 := relayAll_ris t2 es1 (SetTable.grown es1.size)
    have hl3 := relayAll_led t2 es1 (SetTable.grown es1.size)
    generalize relayAll t2 es1 (SetTable.grown es1.size) = Z at pm hf3 hr3 hl3 ⊢
    obtain ⟨es2, t3, gave⟩ := Z
    dsimp only at pm hf3 hr3 hl3 ⊢
    have p2 : (es2.toList.map txE).Perm l := (pm.map txE).trans p1
    refine wpAny_bind (hg _ _ _ (wpAny_bind (wpAny_storeSet_of ho1 rfl ?_ (fits_of_scanBound (by rw [TxSet.size p2]; exact hb)))))
    exact wpAny_pure (hR _ (sb1.trans (Heap.SameBut.update _ a _)) ⟨hn, hb, _, es2, _, t3, PpSet.storeB_at (es' := es2) (t' := t3) ho1 rfl, hex, rfl, fun e he => g1 e (pm.mem_iff.mp he), p2, hf3, hr3, hl.imp id fun z => by rw [hl3]; exact z⟩)
  · exact wpAny_pure (hR _ sb1 ⟨hn, hb, _, es1, _, t2, ho1, hex, rfl, g1, p1, hf2, hr, hl⟩)
theorem txs_add_hashed {k : Str} {u : Tok} {Q : Bool → Shared → Prop} (R : TxSet w s.heap a l) (room : l.length + 1 < scanBound)
    (hQ : ∀ b h', Heap.SameBut a s.heap h' → TxSet w h' a (addS l k) → Q b { s with heap := h' }) : wpAny (model P w) A (setAddHashed a (.str k u) (hashStr w k)) Q E s := by
  obtain ⟨hn, hb, o, es, ep, t, ho, hex, hd, g, p, hf, hr, hl⟩ := R
  have hsz := TxSet.size p
  have hel : ElemsOf (strKind P w) es.toList := txE_elems g
  unfold setAddHashed setAddHashedIn
  refine wpAny_holding (wpAny_bind (wpAny_setState_of ho hd hf ?_))
  dsimp only
  rw [byScan_of (x := Value.str k u) rfl (by rw [hsz]; exact hb) hel]
  simp only [↓reduceIte]
  unfold setAddByScan
  refine wpAny_bind (wpAny_bind (wpAny_rule ?_))
  refine wpAny_bind (wpAny_setScan_of (knd := strKind P w) (k := k) (strKind_is P w k u) ho hd hf hel ?_)
  have isin : ∀ e ∈ es.toList, (strKind P w).is k e.2 = true → k ∈ l := fun e he q => p.mem_iff.mp (List.mem_map.mpr ⟨e, he, (txE_is (g e he) k).mp q⟩)
  cases hfi : List.findIdx? (fun e => (strKind P w).is k e.2) es.toList with
  | some j =>
    dsimp only
    obtain ⟨hj, pj, _⟩ := List.findIdx?_eq_some_iff_getElem.mp hfi
    have hk := isin _ (List.getElem_mem hj) pj
    exact wpAny_pure (wpAny_pure (hQ _ s.heap (Heap.SameBut.refl a s.heap) (by rw [addS, if_pos hk]; exact ⟨hn, hb, o, es, ep, t, ho, hex, hd, g, p, hf, hr, hl⟩)))
  | none =>
    dsimp only
    have hk : k ∉ l := fun z => by
      obtain ⟨e, he, q⟩ := List.mem_map.mp (p.mem_iff.mpr z)
      have c := List.findIdx?_eq_none_iff.mp hfi e he
      rw [(txE_is (g e he) k).mpr q] at c
      cases c
    have gw : ∀ (b : Bool) {s₁ : Shared} {Q' : Unit → Shared → Prop}, Q' () s₁ → wpAny (model P w) A (match b with | true => rule "set.scan.the-table-gave-way" | false => pure ()) Q' E s₁ :=
      fun b s₁ Q' q => by cases b <;> first | exact wpAny_pure q | exact wpAny_rule q
    have pm := layNew_perm t es (hashStr w k) (.str k u)
    have hf1 := layNew_fits t es (hashStr w k) (.str k u)
    have hr1 := layNew_ris t es (hashStr w k) (.str k u) hr
    have hl1 := layNew_led t es (hashStr w k) (.str k u)
    generalize layNew t es (hashStr w k) (.str k u) = Z at pm hf1 hr1 hl1 ⊢
    obtain ⟨es1, t1, wasDummy, gave⟩ := Z
    dsimp only at pm hf1 hr1 hl1 ⊢
    rw [Array.toList_push] at pm
    have pc : es1.toList.Perm ((hashStr w k, Value.str k u) :: es.toList) := pm.trans (List.perm_append_singleton _ _)
    have p1 : (es1.toList.map txE).Perm (k :: l) := (pc.map txE).trans (p.cons k)
    have g1 : ∀ e ∈ es1.toList, TxE w e := fun e he => by
      rcases List.mem_cons.mp (pc.mem_iff.mp he) with z | z
      · rw [z]; exact ⟨k, u, rfl, rfl⟩
      · exact g e z
    have n1 : (k :: l).Nodup := List.nodup_cons.mpr ⟨hk, hn⟩
    have led : w.params.followText "set-order" = true ∨ t1.led = true := hl.imp id fun z => by rw [hl1]; exact z
    have fin : ∀ h', Heap.SameBut a s.heap h' → TxSet w h' a (k :: l) → Q true { s with heap := h' } := fun h' sb r => hQ _ h' sb (by rw [addS, if_neg hk]; exact r)
    refine wpAny_bind (gw _ ?_)
    split
    · refine wpAny_bind ?_
      rw [hashByValue_scannable 8 (x := Value.str k u) rfl]
      refine wpAny_pure (txs_tail (l := k :: l) ?_ ho hex hd n1 room g1 p1 ?_ ?_ ?_ ?_)
      · intro b s₁ Q' q; cases b <;> first | exact wpAny_pure q | exact wpAny_rule q
      · first | (split <;> first | exact hf1 | exact SetTable.fits_plain_off hf1) | exact hf1
      · first | (split <;> exact hr1) | exact hr1
      · first | (split <;> exact led) | exact led
      · intro h' sb r; dsimp only; exact wpAny_pure (fin h' sb r)
    · refine wpAny_bind (wpAny_pure ?_)
      simp only [↓reduceIte]
      refine txs_tail (l := k :: l) ?_ ho hex hd n1 room g1 p1 hf1 hr1 led ?_
      · intro b s₁ Q' q; cases b <;> first | exact wpAny_pure q | exact wpAny_rule q
      · intro h' sb r; dsimp only; exact wpAny_pure (fin h' sb r)
theorem txs_add {k : Str} {u : Tok} {Q : Value → Shared → Prop} (R : TxSet w s.heap a l) (room : l.length + 1 < scanBound)
    (hQ : ∀ h', Heap.SameBut a s.heap h' → TxSet w h' a (addS l k) → Q .none { s with heap := h', toks := s.toks + 1 }) : wpAny (model P w) A (call (.builtin "set.add") [.ref a, .str k u]) Q E s := by
  have ty : s.TypeIs (.ref a) "set" := by
    obtain ⟨_, _, o, es, ep, t, ho, hex, _⟩ := R
    exact ⟨o, ho, hex.1⟩
  refine wpAny_call_entry F.slot_set_add ty F.entry_set_add ?_ (F.args_set_add_2 _ _)
  unfold Builtin.«set.add» Builtin.Frozenset.oneOther
  simp only [List.isEmpty_nil, bind_assoc]
  unfold Builtin.Frozenset.addrOf setAdd
  refine wpAny_bind (wpAny_pure ?_)
  try dsimp only
  refine wpAny_bind (wpAny_pure ?_)
  try dsimp only
  refine wpAny_bind (wpAny_holding (wpAny_bind ((strKind P w).pyHash (strKind_is P w k u) ?_)))
  refine txs_add_hashed (s := { s with toks := s.toks + 1 }) R room fun b h' sb r => ?_
  show wpAny _ _ (ret Value.none) _ _ _
  exact wpAny_pure ⟨_, rfl, hQ h' sb r⟩
end
end VS
namespace VS
open PySem PySem.Spec PyProof.Rows L2
section
variable {P : Program} {w : World} {A : Around} {E : Value → Shared → Prop} {s : Shared} {a : Addr} {l : List Str}
theorem strs_of_entries : ∀ (vs : List Value), (∀ v ∈ vs, ∃ k u, v = Value.str k u) → ∃ ks, StrsAre vs ks ∧ ks = vs.map fun v => txE (0, v)
  | [], _ => ⟨[], .nil, rfl⟩
  | v :: vs, h => by
    obtain ⟨k, u, e⟩ := h v (by simp)
    obtain ⟨ks, h1, h2⟩ := strs_of_entries vs fun v hv => h v (by simp [hv])
    subst e
    exact ⟨k :: ks, .cons k u h1, by rw [h2]; rfl⟩
theorem txs_sorted {Q : Value → Shared → Prop} (R : TxSet w s.heap a l) (hh : A.handled = none) (h64 : l.length < 64)
    (hQ : ∀ s' p (its : List Value) (c : Nat) (ks : List Str), (∀ b o, s.heap.get? b = some o → s'.heap.get? b = some o) → s'.gens = s.gens → s'.os = s.os → s.heap.objs.size ≤ p →
      s'.heap.get? p = some (seqObj "list" its.toArray c) → StrsAre its ks → ks.Perm l → sortedS ks = true → Q (.ref p) s') :
    wpAny (model P w) A (call (.builtin "sorted") [.ref a]) Q E s := by
  obtain ⟨hn, hb, o, es, ep, t, ho, hex, hd, g, p, hf, hr, hl⟩ := R
  have hsz := TxSet.size p
  refine Calls.call_function_entry kind_sorted plain_sorted entry_sorted (args_sorted1 _) ?_
  unfold Builtin.«sorted»
  refine wpAny_bind (m := checkCount "sorted" 1 1 _) (wpAny_pure ?_)
  refine wpAny_bind (collect_set (A := A.in1) hh ⟨o, ho, hex.1, hd⟩ hf (by rw [hsz]; exact hb) hr hl fun s1 vs k1 hz g1 o1 pm => ?_)
  have hvl : vs.length = l.length := by rw [pm.length_eq, List.length_map, Array.length_toList]; exact hsz
  obtain ⟨ks, hS, hks⟩ := strs_of_entries vs fun v hv => by
    obtain ⟨e, he, q⟩ := List.mem_map.mp (pm.mem_iff.mp hv)
    obtain ⟨k, u, h1, _⟩ := g e he
    exact ⟨k, u, by rw [← q]; exact h1⟩
  have pk : ks.Perm l := by
    rw [hks]
    have q := pm.map fun v => txE (0, v)
    rw [List.map_map] at q
    exact q.trans p
  refine wpAny_bind (wpAny_newList ?_ (by rw [hvl, sizeLine_eq]; omega))
  have hoL : (s1.heap.push (seqObj "list" vs.toArray 0)).get? s1.heap.objs.size = some (seqObj "list" vs.toArray 0) := Heap.get?_push_size _ rfl
  refine wpAny_bind (wpAny_holding (wpAny_call_entry slot_list_sort ⟨_, hoL, rfl⟩ entry_list_sort
    (list_sort_treeK strKind_oneLt (s := { s1 with heap := s1.heap.push (seqObj "list" vs.toArray 0) }) hoL hS.keysOf (fun v₁ v₂ rest e => keyKind_strs (by rw [← e]; exact hS)) (by rw [hvl]; exact h64) fun st' hp hs => ⟨_, rfl, ?_⟩) (args_list_sort _)))
  obtain ⟨ys, q1, q2, q3⟩ := sorted_out_str hS hp hs
  obtain ⟨c, hc⟩ := sortedHeap_at (vs := vs) (out := (arrOf st').map (·.2)) hoL
  refine wpAny_pure ⟨_, rfl, hQ _ s1.heap.objs.size ((arrOf st').map (·.2)).toList c ys (fun b u e => ?_) g1 o1 hz (by rw [Array.toArray_toList]; exact hc) q1 (q2.trans pk) q3⟩
  have q := k1 b u e
  have hlt := Heap.lt_size q
  show (sortedHeap (s1.heap.push (seqObj "list" vs.toArray 0)) s1.heap.objs.size vs _).get? b = some u
  rw [sortedHeap_old (Nat.ne_of_lt hlt) (by rw [size_push']; exact Nat.lt_succ_of_lt hlt)]
  exact Heap.get?_push_of_some _ q
end
end VS
set_option maxHeartbeats 2000000
namespace VS
open PySem PySem.Spec PyProof.Rows L2
/-! ## {a text for ..}, handed to sorted at once -/
def TxO (w : World) (a : Addr) (l : List Str) : HO := .ext fun h => TxSet w h a l
theorem txo_new {w : World} {P : Program} {H : Hp} {h : Heap} {a : Addr} {l : List Str} (R : TxSet w h a l) : ObjOk P w H h a (TxO w a l) := by
  have ⟨_, _, o, _, _, _, ho, _⟩ := R
  exact ⟨R, ⟨o, ho⟩, fun h1 h2 p k => TxSet.at' p k⟩
section
variable {X : Cx}
theorem txo_get {pins : List (Addr × Obj)} {σ : L2.St} {H : Hp} {s : Shared} {a : Addr} {l : List Str} (I : Inv X pins σ H s) (ha : H a = some (TxO X.w a l)) : TxSet X.w s.heap a l := (I.hok a _ ha).1
theorem txo_add {pins : List (Addr × Obj)} {σ : L2.St} {H : Hp} {s : Shared} {E : Value → Shared → Prop} {D : Addr} {l : List Str} {y : Str} {v : Value} {Q : Value → Shared → Prop} (I : Inv X pins σ H s) (hD : H D = some (TxO X.w D l)) (room : l.length + 1 < scanBound) (r : RelV (.str y) v)
    (h : ∀ s', Inv X pins σ (upd H D (TxO X.w D (addS l y))) s' → Q .none s') : wpAny (model X.prog X.w) X.A (call (.builtin "set.add") [.ref D, v]) Q E s := by
  obtain ⟨u, rfl⟩ := r
  refine txs_add (txo_get I hD) room fun h' sb new => ?_
  have he : ∃ o, h'.get? D = some o := by
    have ⟨_, _, o, _, _, _, ho, _⟩ := new
    exact ⟨o, ho⟩
  exact h _ (I.write (e := D) (t' := s.toks + 1) (by rw [hD]; trivial) (.inl rfl) (fun b u hb hu => (sb.2 b hb).trans hu) he (txo_new new))
/-- sorted of such a set -/
def rSortX (w : World) : List V → Hp → VK → Prop := fun vs H Q => ∃ (a : Addr) (l : List Str), vs = [V.ref a] ∧ H a = some (TxO w a l) ∧ l.length < 64 ∧
  ∀ (ks : List Str) (p : Addr), ks.Perm l → sortedS ks = true → H p = none → Q (.ref p) (upd H p (.lst (ks.map V.str)))
theorem cr_sortX (hc : X.calm = true) : CallR X (.builtin "sorted") (rSortX X.w) := by
  intro pins s σ H xs us Q I r h
  obtain ⟨a, l, rfl, ha, h64, q⟩ := h
  cases r with
  | cons r1 r2 =>
    cases r2
    cases r1
    refine txs_sorted (txo_get I ha) (I.ok.hd hc) h64 fun s' p its c ks keep g o lt hp hS pm so => ?_
    have hlen : (ks.map V.str).length ≤ sizeLine := by rw [List.length_map, pm.length_eq, sizeLine_eq]; omega
    have hn : H p = none := I.hok.fresh lt
    have J : Inv X pins σ (upd H p (.lst (ks.map V.str))) { s with heap := s'.heap, gens := s'.gens, drawn := s'.drawn, toks := s'.toks } :=
      I.call (ch := []) (Un.laid keep lt hn) (I.hok.laid keep lt ⟨hlen, its, c, vals_of_strs hS, hp⟩) (by rw [g]; exact I.bare) (fun _ z => nomatch z)
    have e : s' = { s with heap := s'.heap, gens := s'.gens, drawn := s'.drawn, toks := s'.toks } := by
      cases s'
      cases s
      cases o
      rfl
    rw [e]
    exact ⟨.ref p, _, J, rfl, q ks p pm so hn⟩
/-- the step of a turn -/
def stepX (w : World) (D : Addr) (te : TE) (Nx : Hp → Prop) : L2.St → Hp → Prop := fun σ H => te σ H fun y H4 => ∃ (k : Str) (l : List Str), y = .str k ∧ H4 D = some (TxO w D l) ∧ l.length + 1 < scanBound ∧ Nx (upd H4 D (TxO w D (addS l k)))
def tSx (w : World) (wi : TI) (g : TG) (tt : TT) (te : TE) (vs : List Nat) : TE := fun σ H Q => wi σ H fun J H1 => ∀ D, H1 D = none → ∃ W : Nat → Nat → Hp → Prop, (∃ m, W 0 m (upd H1 D (TxO w D []))) ∧ ∀ i m H, W i m H →
  (J.stop i H ∧ Q (.ref D) H) ∨ (J.go i H ∧ ∃ Nx : Hp → Prop, (∀ H', Nx H' → ∃ m', m' < m ∧ W (i + 1) m' H') ∧ ∀ x H', J.yld i H x H' → g x (wipe σ vs) H' fun σ2 H2 => wipe σ2 vs = wipe σ vs ∧ tt σ2 H2 fun b H3 =>
    if b = true then stepX w D te Nx σ2 H3 else Nx H3)
/-- what a turn finds: the iterator is at its place i, the block's names are free, W holds -/
def AtTurn (B : Cx) (τ : L2.St) (tn : Nat → Heap → Prop) (fp : List Addr) (W : Nat → Nat → Hp → Prop) (n : Nat) (s : Shared) : Prop := ∃ i H, Inv B [] τ H s ∧ tn i s.heap ∧ (∀ b ∈ fp, H b = none) ∧ W i n H
theorem sx_eval {elt tg iter : Expr} {ifs : List Expr} {scope : Scope} {own : List (PySem.Str × Nat)} {pos : Pos} {wi : TI} {g : TG} {tt : TT} {te : TE} (hc : X.calm = true) (hN : X.N.Nodup) (hi : PI X tg iter wi) (ok : BlkOk X.N X.env.scope scope own)
    (hg : ∀ (s : Shared) (H : Hp) (C : Addr) (cl : List (PySem.Str × Addr)) (fp : List Addr), PG (X.blk s H scope (compEnvC scope cl C X.env) fp) tg g) (ht : ∀ (s : Shared) (H : Hp) (C : Addr) (cl : List (PySem.Str × Addr)) (fp : List Addr), PTs (X.blk s H scope (compEnvC scope cl C X.env) fp) ifs tt)
    (he : ∀ (s : Shared) (H : Hp) (C : Addr) (cl : List (PySem.Str × Addr)) (fp : List Addr), PE (X.blk s H scope (compEnvC scope cl C X.env) fp) elt te) (hs : ∀ x, foldedSetIterable iter X.env x = pure x := by intro _; rfl) :
    PE X (.SetComp elt [⟨tg, iter, ifs, 0⟩] scope pos) (tSx X.w wi g tt te (own.map (·.2))) := by
  refine ⟨fun pins s σ H Q I h => ?_⟩
  have free : ∀ y ∈ scope.names, y.2 = .free → ∃ c, X.env.cells.lookup y.1 = some c := fun y hy e => (ok.free y hy e).elim (fun k => I.ok.has _ (.inl k)) fun k => I.ok.has _ (.inr k)
  rw [PpSet.eval_SetComp]
  refine wpAny_comprehension_free (use := none) rfl hs (closure_ok free) ok.kind (fun y hy e => by rw [ok.uniq y hy, e]) (thn (hi.run pins s σ H _ I h) fun xv s1 hx => thn hx fun itv s2 ⟨it, fp, tn, J, H2, e, I2, T, st2, f2, q⟩ => ?_)
  subst e
  refine PpSet.newSet_ok (newEnv_comp ?_)
  -- the new set at D
  obtain ⟨D, hD⟩ : ∃ D, s2.heap.objs.size = D := ⟨_, rfl⟩
  obtain ⟨s3, h3⟩ : ∃ s3 : Shared, s3 = { s2 with heap := s2.heap.push { cls := .type "set", dict := none, data := .set #[] 0 (.fresh 0 0 (!X.w.params.followText "set-order")) } } := ⟨_, rfl⟩
  obtain ⟨W, ⟨m0, w0⟩, turn⟩ := q D (I2.hok.fresh (Nat.le_of_eq hD))
  have I3 : Inv X pins σ (upd H2 D (TxO X.w D [])) s3 := by
    rw [h3]
    exact I2.laid (t' := s2.toks) (fun b o e => Heap.get?_push_of_some _ e) (Nat.le_of_eq hD) (by rw [← hD]; exact txo_new (txs_fresh X.w))
  have keep3 : ∀ b o, s2.heap.get? b = some o → s3.heap.get? b = some o := fun b o e => by rw [h3]; exact Heap.get?_push_of_some _ e
  have f3 : ∀ b ∈ fp, FpOk X pins (upd H2 D (TxO X.w D [])) b ∧ b < s3.heap.objs.size := fun b hb => by
    obtain ⟨o, e, _⟩ := T.obj _ _ st2 b hb
    have lt := Heap.lt_size e
    refine ⟨⟨?_, (f2 b hb).2⟩, Heap.lt_size (keep3 b o e)⟩
    rw [upd_ne (by rw [← hD]; exact Nat.ne_of_lt lt)]
    exact (f2 b hb).1
  obtain ⟨H3, hH3⟩ : ∃ H3, H3 = upd H2 D (TxO X.w D []) := ⟨_, rfl⟩
  rw [← hH3] at I3 f3 w0
  rw [hD, ← h3]
  have I4 := block_start I3 ok hN f3
  obtain ⟨cl, hcl⟩ : ∃ cl, cl = cellsFrom (s3.heap.objs.size + 1) scope.names (cloFrom X.env.cells scope.names []) := ⟨_, rfl⟩
  rw [← hcl] at I4
  have pg := hg s3 H3 s3.heap.objs.size cl fp
  have pt := ht s3 H3 s3.heap.objs.size cl fp
  have pe := he s3 H3 s3.heap.objs.size cl fp
  obtain ⟨ce, hce⟩ : ∃ ce, ce = compEnvC scope cl s3.heap.objs.size X.env := ⟨_, rfl⟩
  have ceL : ce.locals = s3.heap.objs.size := by rw [hce]; rfl
  obtain ⟨s4, h4⟩ : ∃ s4 : Shared, s4 = { s3 with heap := pushCells (s3.heap.push { cls := .type "dict", data := .dict #[] }) scope.names } := ⟨_, rfl⟩
  rw [← hce] at I4 pg pt pe
  rw [← h4] at I4
  show codeAny _ _ (.compStart (.SetComp elt [⟨tg, iter, ifs, 0⟩] scope pos) 0 (.ref it) (.ref D) (compEnvC scope (cellsFrom (s3.heap.objs.size + 1) scope.names (cloFrom X.env.cells scope.names [])) s3.heap.objs.size X.env)) _ { s3 with heap := pushCells (s3.heap.push { cls := .type "dict", data := .dict #[] }) scope.names }
  rw [← hcl, ← hce, ← h4]
  obtain ⟨B, hB⟩ : ∃ B, B = X.blk s3 H3 scope ce fp := ⟨_, rfl⟩
  have st4 : tn 0 s4.heap := T.keep _ _ _ st2 fun b _ o e => by rw [h4]; exact pushCells_keeps _ _ _ _ (Heap.get?_push_of_some _ (keep3 b o e))
  have stat : ∀ {σ' : L2.St} {H' : Hp} {s' : Shared}, Inv (X.blk s3 H3 scope ce fp) [] σ' H' s' → (∀ b ∈ fp, H' b = none) → ∀ b ∈ fp, FpOk (X.blk s3 H3 scope ce fp) [] H' b := fun {σ' H' s'} I' hn b hb =>
    ⟨hn b hb, (I'.ok.exf b hb).1, I'.ok.exfs b hb, .inl hb, fun x c e => (I'.ok.exf b hb).2 x c e, fun p hp => by cases hp⟩
  have loop : codeAny (model X.prog X.w) X.A (.compLoop (.SetComp elt [⟨tg, iter, ifs, 0⟩] scope pos) 0 (.ref it) (.ref D) ce) (compPost (model X.prog X.w) X.A X.xe none (fun v s' => ∃ x H', Inv X pins σ H' s' ∧ RelV x v ∧ Q x H') (.ref D) s3.heap.objs.size) s4 := by
    refine PpSet.compLoopS_any (AtTurn (X.blk s3 H3 scope ce fp) (wipe σ (own.map (·.2))) tn fp W) (fun n s5 ⟨i, H5, I5, st5, n5, w5⟩ => ?_) m0 ⟨0, H3, I4, st4, fun b hb => (f3 b hb).1.1, w0⟩
    rcases turn i n H5 w5 with ⟨stop, q5⟩ | ⟨go, Nx, hNx, step⟩
    · refine thnF (T.done (X.blk s3 H3 scope ce fp) rfl rfl rfl hc i [] s5 _ H5 (fun _ _ => False) I5 (stat I5 n5) st5 stop) fun r s6 ⟨hr, I6⟩ => ?_
      subst hr
      have fpk := fun b hb => (f3 b hb).1.2
      have I7 : Inv X pins σ H5 s6 := I3.call' (ch := fp) I6.os I6.base I6.hok I6.bare fun b hb => ⟨(fpk b hb).2.2.1, (fpk b hb).1, (fpk b hb).2.2.2.1, (fpk b hb).2.2.2.2⟩
      have nC : H5 s3.heap.objs.size = none := by
        have z : H5 ce.locals = none := I6.free
        rwa [ceL] at z
      obtain ⟨m, hn, _⟩ := I6.loc
      have hn : s6.heap.Ns ce.locals m := hn
      rw [ceL] at hn
      obtain ⟨k0, k1, _, k3, k4, k5⟩ := I3.fpOk (Nat.le_refl _) nC
      exact ⟨m, hn, fun h'' sb => ⟨.ref D, H5, I7.turned (t' := s6.toks) (fun b o hb e => (sb.2 b hb).trans e) k0 k1 k3 k4 k5, rfl, q5⟩⟩
    · refine thnF (T.item (X.blk s3 H3 scope ce fp) rfl rfl rfl hc i [] s5 _ H5 (fun _ _ => False) I5 (stat I5 n5) st5 go) fun r s6 ⟨u, hr, h6⟩ => ?_
      subst hr
      refine thnF h6 fun _ s7 ⟨x, H7, I7, r7, y7, st7, n7⟩ => ?_
      refine thnF (pg.run _ s7 _ H7 x u _ (I7.pinned (stat I7 n7) (T.obj _ _ st7)) r7 (step x H7 y7)) fun _ s8 ⟨σ8, H8, I8, w8, q8⟩ => thnF (pt.run _ s8 σ8 H8 _ I8 q8) fun b s9 ⟨H9, I9, q9⟩ => ?_
      have next : ∀ {s' : Shared} {H' : Hp}, Inv (X.blk s3 H3 scope ce fp) ([] ++ pinsAt fp s7.heap) σ8 H' s' → Nx H' → ∃ m, m < n ∧ AtTurn (X.blk s3 H3 scope ce fp) (wipe σ (own.map (·.2))) tn fp W m s' := fun {s' H'} I' nx => by
        obtain ⟨m', lt, w'⟩ := hNx H' nx
        have pinned := fun b hb o e => I'.pin (b, o) (List.mem_append_right _ (List.mem_append_right _ (mem_pinsAt (fp := fp) (h := s7.heap) hb e)))
        refine ⟨m', lt, i + 1, H', Inv.weak (I'.unpinned (pins := [])) (by rw [← w8, wipe_length]) (fun j v e => ?_), T.keep _ _ _ st7 fun b hb o e => (pinned b hb o e).1, fun b hb => ?_, w'⟩
        · rw [← w8] at e
          exact (wipe_some e).1
        · obtain ⟨o, e, _⟩ := T.obj _ _ st7 b hb
          exact (pinned b hb o e).2.1
      cases b with
      | false => exact next I9 q9
      | true => exact thnF (pe.run _ s9 σ8 H9 _ I9 q9) fun z s10 ⟨yv, H10, I10, r10, k, l, ey, hl, room, nx⟩ => txo_add (X := X.blk s3 H3 scope ce fp) I10 hl room (ey ▸ r10) fun s11 I11 => next I11 nx
  exact PpSet.codeAny_compStart_set loop (T.self X.A 0 _ _ _ st4 loop)
end
end VS
namespace VS
open PySem PySem.Spec PyProof.Rows L2
/-! ## sorted({a text for t in it if c}) -/
def vSxL (vs : List Nat) (kp : Cf → Prop) (g : DG) (tt : DT) (te : DE) : List D → List Str → Cf → (List Str → Cf → Prop) → Prop
  | [], l, c, k => kp c ∧ k l c
  | d :: ds, l, c, k => kp c ∧ g (.fz d) c fun c1 => tt noX c1 fun b c2 => if b = true then te noX c2 fun o c3 => ∃ x, o = .fz (.str x) ∧ l.length + 1 < 4096 ∧ vSxL vs kp g tt te ds (addS l x) (dropAll vs c3) k else vSxL vs kp g tt te ds l (dropAll vs c2) k
def vSx (vs : List Nat) (ops : List Opd) (itf : Itf) (g : DG) (tt : DT) (te : DE) : DE := fun E c Q => evOps ops E c fun ts c1 => ob (opsO ops c1 ts) fun dl => ob (itf dl) fun items =>
  vSxL vs (keepOps ops c1) g tt te items [] (hide vs c1).1 fun l c2 => l.length < 64 ∧ Q (.own .lst (((srtL leS l).map D.str).map O.fz)) (restore vs (hide vs c1).2 c2)
theorem vSxL_mono {vs : List Nat} {kp : Cf → Prop} {g : DG} {tt : DT} {te : DE} (mg : MonoG g) (mt : MonoT tt) (me : Mono te) : ∀ {items : List D} {l : List Str} {c : Cf} {k k' : List Str → Cf → Prop}, (∀ a c, k a c → k' a c) → vSxL vs kp g tt te items l c k → vSxL vs kp g tt te items l c k'
  | [], l, c, k, k', hk, h => ⟨h.1, hk _ _ h.2⟩
  | d :: ds, l, c, k, k', hk, h => ⟨h.1, mg _ _ _ _ (fun c1 q => mt _ _ _ _ _ (fun _ _ _ z => z) (fun b c2 q => by
      cases b with
      | true => exact me _ _ _ _ _ (fun _ _ _ z => z) (fun o c3 ⟨x, e, hz, q⟩ => ⟨x, e, hz, vSxL_mono mg mt me hk q⟩) q
      | false => exact vSxL_mono mg mt me hk q) q) h.2⟩
theorem vSx_mono {vs : List Nat} {ops : List Opd} {itf : Itf} {g : DG} {tt : DT} {te : DE} (m : MonoO ops) (mg : MonoG g) (mt : MonoT tt) (me : Mono te) : Mono (vSx vs ops itf g tt te) := fun E E' c Q Q' hE hQ h => evOps_mono m _ _ _ _ _ hE (fun ts c1 q => by
  obtain ⟨dl, e1, q⟩ := ob_iff.mp q
  obtain ⟨items, e2, q⟩ := ob_iff.mp q
  exact ob_iff.mpr ⟨dl, e1, ob_iff.mpr ⟨items, e2, vSxL_mono mg mt me (fun a c z => ⟨z.1, hQ _ _ z.2⟩) q⟩⟩) h
/-- the set under way -/
abbrev TxV (w : World) (D : Addr) (l : List Str) : O := .own (.opq fun h => TxSet w h D l) []
theorem sep_str {G H : Hp} {v : V} {x : Str} {vs : List V} {os : List O} (s : Sep G H (v :: vs) (.fz (.str x) :: os)) : v = .str x := by
  obtain ⟨F, h0, _⟩ := s
  cases h0 with
  | cons a r =>
    cases a with
    | fz h => cases h; rfl
theorem vSx_run {w : World} {mg : Str → Option Value} {W : WX} {σ : L2.St} {H : Hp} {Q : VK} {vs : List Nat} {ops : List Opd} {itf : Itf} {g : DG} {tt : DT} {te : DE} {wi : TI} {r : List V → Hp → (It → Hp → Prop) → Prop} (m : MonoO ops) (mg' : MonoG g) (mt : MonoT tt) (me : Mono te) (pr : PiR r itf) (hw : ∀ σ H R, (tas mg W ops σ H fun vs H1 => r vs H1 R) → wi σ H R)
    (hvs : ∀ i ∈ vs, i < σ.length) (h : liftE mg W (vSx vs ops itf g tt te) σ H Q) : tSx w wi (liftG vs g) (liftT mg (fun _ _ _ _ => False) tt) (liftE mg (fun _ _ _ _ => False) te) vs σ H (fun v H1 => rSortX w [v] H1 Q) := by
  obtain ⟨c, G, vsL, osL, sl, sp, h⟩ := h
  refine hw σ H _ ?_
  refine ops_run m sl sp h (fun _ _ _ q => q) fun ts c1 tvs H1 G1 g1 sl1 ht sp1 q => ?_
  obtain ⟨dl, e1, qa⟩ := ob_iff.mp q
  obtain ⟨items, e2, k⟩ := ob_iff.mp qa
  clear q qa
  obtain ⟨F0, ow0⟩ := ows_ops sp1 ht sl1.len e1
  have fz1 := fzOps_of (ops := ops) sp1 ht sl1.len
  refine pr G1 H1 _ dl F0 items _ sp1.same ow0 e2 fun J H1' G1' lk hJ => ?_
  have sp1 := lk.2 _ _ _ sp1
  have fz1 : FzOps G1' ops c1 (vals σ) := fun j hj d e => let ⟨v, q1, q2⟩ := fz1 j hj d e; ⟨v, q1, q2.mono lk.1⟩
  have g1 := g1.trans lk.1
  clear ow0
  generalize H1' = H1 at *
  generalize G1' = G1 at *
  intro D hD
  have sA : Sep G1 H1 (vals σ ++ (tvs ++ vsL)) (c1 ++ (ts ++ osL)) := SepA.rot (ws := tvs) (ps := ts) (vs2 := vals σ) (os2 := c1) sp1 ht sl1.len
  obtain ⟨kv, hkv, slB, sB, back⟩ := hide_sep sl1 sA hvs
  have hks := (hide_len (is := vs) (c := c1)).2
  have hbl : (vals (wipe σ vs)).length = (hide vs c1).1.length := by rw [slB.len]
  generalize hks' : (hide vs c1).2 = ks at *
  have hkk : kv.length = ks.length := by rw [hkv, hks]
  -- what holds ahead of a turn
  let St := fun (i : Nat) (H' : Hp) => ∃ (acc : List Str) (c' : Cf) (G' : Hp), Same G1 G' ∧ Slots (wipe σ vs) c' ∧ Own0 vs c' ∧ Sep G' H' (vals (wipe σ vs) ++ (kv ++ (V.ref D :: (tvs ++ vsL)))) (c' ++ (ks ++ (TxV w D acc :: (ts ++ osL)))) ∧
    vSxL vs (keepOps ops c1) g tt te (items.drop i) acc c' fun acc c2 => acc.length < 64 ∧ KE σ vsL osL G Q (.own .lst (((srtL leS acc).map VS.D.str).map O.fz)) (restore vs ks c2)
  refine ⟨fun i n H' => i + n = items.length ∧ St i H', ⟨items.length, by omega, [], (hide vs c1).1, G1, Same.refl _, slB, ?_, ?_, k⟩, ?_⟩
  · -- hidden
    intro i hi
    rw [hide_drop]
    have := (drop_sep (is := vs) sl1 sA hvs).2.2 i hi
    exact this
  · have s1 : Sep G1 (upd H1 D (TxO w D [])) (V.ref D :: (vals (wipe σ vs) ++ (kv ++ (tvs ++ vsL)))) (TxV w D [] :: ((hide vs c1).1 ++ (ks ++ (ts ++ osL)))) := SepA.make (ws := []) (ps := []) (t := .opq fun h => TxSet w h D []) sB hD rfl ⟨rfl, rfl⟩ rfl
    have s2 : Sep G1 (upd H1 D (TxO w D [])) (V.ref D :: ((vals (wipe σ vs) ++ kv) ++ (tvs ++ vsL))) (TxV w D [] :: (((hide vs c1).1 ++ ks) ++ (ts ++ osL))) := by simpa using s1
    have s3 := SepA.one s2 (by simp [hbl, hkk])
    simpa using s3
  rintro i n H2 ⟨en, acc, c2, G2, g2, sl2, ow2, sp2, k2⟩
  have hc2 : c2.length = σ.length := by rw [sl2.1, wipe_length]
  have hvw : (vals (wipe σ vs)).length = c2.length := sl2.len
  -- the operands, as they stand
  have sws : keepOps ops c1 c2 → ∃ F, Ows G2 H2 (mergeV ops (vals σ) tvs) dl F := fun kp => by
    have s1 : Sep G2 H2 ((vals (wipe σ vs) ++ (kv ++ [V.ref D])) ++ (tvs ++ vsL)) ((c2 ++ (ks ++ [TxV w D acc])) ++ (ts ++ osL)) := by simpa using sp2
    have s2 := SepA.rot (ws := vals (wipe σ vs) ++ (kv ++ [V.ref D])) (ps := c2 ++ (ks ++ [TxV w D acc])) s1 (by simp [hvw, hkk]) ht
    have s3 : Sep G2 H2 (tvs ++ (vals (wipe σ vs) ++ ((kv ++ [V.ref D]) ++ vsL))) (ts ++ (c2 ++ ((ks ++ [TxV w D acc]) ++ osL))) := by simpa using s2
    refine ows_keep (vs0 := vals σ) s3 ht hvw e1 (fun j hj d e => let ⟨v, q1, q2⟩ := fz1 j hj d e; ⟨v, q1, q2.mono g2⟩) kp fun j hj t os e => ?_
    have hn : j ∉ vs := fun z => by
      have z1 := kp j hj t os e
      rw [ow2 j z] at z1
      cases z1
    unfold vals
    rw [List.getElem?_map, List.getElem?_map, wipe_at hn]
  by_cases hi : i < items.length
  · have hd : items.drop i = items[i] :: items.drop (i + 1) := List.drop_eq_getElem_cons hi
    rw [hd] at k2
    obtain ⟨kp, k2⟩ := k2
    obtain ⟨F2, sw2⟩ := sws kp
    obtain ⟨go, st⟩ := (hJ i G2 H2 F2 g2 sp2.same sw2).1 items[i] (List.getElem?_eq_getElem hi)
    refine .inr ⟨go, fun H' => St (i + 1) H', fun H' q => ⟨n - 1, by omega, by omega, q⟩, fun x H3 hy => ?_⟩
    obtain ⟨G3, nw⟩ := st x H3 hy
    have sp3 := nw.2 _ _ _ sp2
    refine ⟨.fz items[i], c2, G3, _, _, sl2, sp3, ?_⟩
    refine mg' _ _ _ _ (fun c3 q3 => ?_) k2
    intro σ4 H4 G4 g4 p4 l4 sl4 sp4
    have hlv : ∀ i ∈ vs, i < σ4.length := fun i hi => by rw [l4, wipe_length]; exact hvs i hi
    -- the end of a turn
    have fin : ∀ {acc' : List Str} {c' : Cf} {G' H' : Hp}, Same G4 G' → Slots σ4 c' → Sep G' H' (vals σ4 ++ (kv ++ (V.ref D :: (tvs ++ vsL)))) (c' ++ (ks ++ (TxV w D acc' :: (ts ++ osL)))) → vSxL vs (keepOps ops c1) g tt te (items.drop (i + 1)) acc' (dropAll vs c') (fun acc c2 => acc.length < 64 ∧ KE σ vsL osL G Q (.own .lst (((srtL leS acc).map VS.D.str).map O.fz)) (restore vs ks c2)) → St (i + 1) H' := fun {acc' c' G' H'} g' sl' sp' q' => by
      obtain ⟨d1, d2, d3⟩ := drop_sep (is := vs) sl' sp' hlv
      rw [pins_wipe p4] at d1 d2
      exact ⟨acc', dropAll vs c', G', g2.trans (nw.1.trans (g4.trans g')), d1, d3, d2, q'⟩
    refine ⟨pins_wipe p4, liftT.of mt sl4 sp4 q3 (fun _ _ _ z => z.elim) fun b c5 H5 G5 g5 sl5 sp5 q5 => ?_⟩
    cases b with
    | false => exact fin g5 sl5 sp5 q5
    | true =>
      refine liftE.of me sl5 sp5 q5 (fun _ _ _ z => z.elim) fun o c6 v H6 G6 g6 sl6 sp6 ⟨x, ho, hz, q6⟩ => ?_
      subst ho
      have s1 : Sep G6 H6 ((v :: (vals σ4 ++ kv)) ++ (V.ref D :: (tvs ++ vsL))) ((.fz (.str x) :: (c6 ++ ks)) ++ (TxV w D acc :: (ts ++ osL))) := by simpa using sp6
      obtain rfl : v = .str x := sep_str sp6
      have s2 : Sep G6 H6 ((vals σ4 ++ kv) ++ (V.ref D :: (tvs ++ vsL))) ((c6 ++ ks) ++ (TxV w D acc :: (ts ++ osL))) := dropN (ws := [V.str x]) (ps := [O.fz (.str x)]) rfl (by simpa using s1)
      have s3 := SepA.unone s2 (by simp [sl6.len, hkk])
      obtain ⟨a, ob, ws, ea, ha, sh, hl, s4⟩ := SepA.open_ s3
      cases ea
      obtain ⟨rfl, rfl⟩ := sh
      refine ⟨x, acc, rfl, ha, by rw [show scanBound = 4096 from rfl]; exact hz, ?_⟩
      have s4' : SepA [D] G6 H6 (([] : List V) ++ ((vals σ4 ++ kv) ++ (tvs ++ vsL))) (([] : List O) ++ ((c6 ++ ks) ++ (ts ++ osL))) := by simpa [cells, Tag.mut] using s4
      have s5 := SepA.close (t := .opq fun h => TxSet w h D (addS acc x)) s4' rfl ⟨rfl, rfl⟩ rfl
      have s6 := SepA.one s5 (by simp [sl6.len, hkk])
      have s7 : Sep G6 (upd H6 D (TxO w D (addS acc x))) (vals σ4 ++ (kv ++ (V.ref D :: (tvs ++ vsL)))) (c6 ++ (ks ++ (TxV w D (addS acc x) :: (ts ++ osL)))) := by
        unfold TxO
        simpa using s6
      exact fin (g5.trans g6) sl6 s7 q6
  · have hd : items.drop i = [] := List.drop_eq_nil_of_le (by omega)
    rw [hd] at k2
    obtain ⟨kp, k2⟩ := k2
    obtain ⟨F2, sw2⟩ := sws kp
    refine .inl ⟨(hJ i G2 H2 F2 g2 sp2.same sw2).2 (by omega), ?_⟩
    have s1 := back (ws' := V.ref D :: (tvs ++ vsL)) hc2 ow2 sp2
    have hrl : (restore vs ks c2).length = c2.length := by
      have : ∀ {is : List Nat} {ks : List O} {c : Cf}, (restore is ks c).length = c.length := by
        intro is
        induction is with
        | nil => intro ks c; rfl
        | cons a as ih => intro ks c; cases ks with
          | nil => rfl
          | cons k ks => unfold restore; rw [ih]; simp
      exact this
    have slR : Slots σ (restore vs ks c2) := by
      refine restore_slots hc2 (fun j o hj nj => ?_) ?_
      · obtain ⟨v, hv⟩ := sl2.2 j o hj nj
        exact ⟨v, (wipe_some hv).1⟩
      · rw [← hks']
        exact (hide_known sl1).1
    have s2 := SepA.unone s1 (by rw [slR.len])
    obtain ⟨a, ob, ws, ea, ha, sh, hl, _⟩ := SepA.open_ s2
    cases ea
    obtain ⟨_, rfl⟩ := sh
    refine ⟨D, acc, rfl, ha, k2.1, fun zs p pm so hp => ?_⟩
    rw [srtS_eq pm so]
    have s3 : Sep G2 H2 (vals σ ++ (tvs ++ vsL)) (restore vs ks c2 ++ (ts ++ osL)) := dropN (ws := [V.ref D]) (ps := [TxV w D acc]) rfl (by simpa using s2)
    have nw := NewS.made (G := G2) (t := .lst) hp (rps_strs (srtL leS acc)) rfl rfl
    have s4 := nw.2 _ _ _ s3
    have s5 : Sep G2 (upd H2 p (HO.lst (List.map V.str (srtL leS acc)))) ((V.ref p :: vals σ) ++ (tvs ++ vsL)) ((O.own .lst (((srtL leS acc).map VS.D.str).map O.fz) :: restore vs ks c2) ++ (ts ++ osL)) := by simpa using s4
    have s6 := SepA.rot s5 (by simp [slR.len]) ht
    exact k2.2 _ _ _ (g1.trans (g2.trans nw.1)) slR (by simpa using dropN ht s6)
section
variable {Γ : Sg} {sc scope : Scope} {k : Nat} {tg iter elt : Expr} {ifs : List Expr} {ops : List Opd} {itf : Itf} {g : DG} {tt : DT} {te : DE} {own : List (Str × Nat)} {pos p cpos : Pos}
theorem VE.sx (gl : isGl sc "sorted" = true) (hb : Γ.blt "sorted" = true) (hi : VI Γ sc k tg iter ops itf) (hg : VG Γ scope k (own.map (·.2)) tg g) (ht : VTs Γ scope k ifs tt) (he : VE Γ scope k elt te) (hB : blkC Γ.N sc scope own = true) (hs : notSet iter = true) :
    VE Γ sc k (.Call (.Name "sorted" p) [.SetComp elt [⟨tg, iter, ifs, 0⟩] scope pos] [] cpos) (vSx (own.map (·.2)) ops itf g tt te) := by
  refine ⟨vSx_mono hi.1 hg.1 ht.1 he.1, fun X W ok tk => ?_⟩
  obtain ⟨wi, r, h1, h2, h3⟩ := hi.2 X W ok tk
  have kf := (blkOk_by hB).kind
  have pe := sx_eval (pos := pos) (g := liftG (own.map (·.2)) g) (tt := liftT X.mg (fun _ _ _ _ => False) tt) (te := liftE X.mg (fun _ _ _ _ => False) te) ok.calm ok.nd h1 (blkOk_at ok hB) (fun s H C cl fp => hg.2 _ (ok.blk kf s H C cl fp)) (fun s H C cl fp => ht.2 _ _ (ok.blk kf s H C cl fp) takes_none) (fun s H C cl fp => he.2 _ _ (ok.blk kf s H C cl fp) takes_none) (folded_no hs _)
  have go := pe_callB (p := p) (pos := cpos) (cr_sortX ok.calm) (ok.gl _ (isGl_at gl)) (ok.g.blt _ hb) rfl (pa_cons pe pa_nil (starEach_cons rfl)) (by decide) (by decide) (starEach_cons rfl) (backTo_plain rfl)
  refine go.impL fun σ H Q hl q => ?_
  exact vSx_run hi.1 hg.1 ht.1 he.1 h2 h3 (own_lt ok hB hl) q
end
end VS
namespace VS
open PySem PySem.Spec PyProof.Rows L2
section
variable {Γ : Sg} {k : Nat} {op : Opts} (c : CC Γ k)
def inP (P : List Nat) (i : Nat) : Bool := P.contains i
theorem inP_at {P : List Nat} {i : Nat} (h : inP P i = true) : i ∈ P := by simpa [inP] using h
mutual
def gF (P : List Nat) (sc : Scope) : Nat → (tg : Expr) → RG Γ k sc P tg
  | 0, _ => none
  | n + 1, .Name x pos => match hx : asgOf Γ sc x with
    | some i => if hP : inP P i = true then some ⟨gN i, VG.name hx (inP_at hP), rfl⟩ else none
    | none => none
  | n + 1, .Tuple es kk pos => (gsF P sc n es).map fun r => ⟨gT es.length r.1, VG.tup r.2.1 r.2.2, rfl⟩
  | n + 1, .Subscript (.Name x p) ke pos => if pn : plainName x = true then if hs : isSlice ke = false then match hx : slotOf Γ sc x with
      | some i => (oF c sc ke).map fun key => ⟨gSubD i key.1, VG.sub hx pn key.2 hs, rfl⟩
      | none => none
    else none else none
  | n + 1, _ => none
def gsF (P : List Nat) (sc : Scope) : Nat → (tgs : List Expr) → RGs Γ k sc P tgs
  | _, [] => some ⟨gsNil, VGs.nil, rfl⟩
  | 0, _ :: _ => none
  | n + 1, e :: es => (gF P sc n e).bind fun g => (gsF P sc n es).map fun r => ⟨gsCons g.1 r.1, VGs.cons g.2.1 r.2.1 g.2.2, by rw [List.all_cons, g.2.2, r.2.2]; rfl⟩
end
def ownOf (Γ : Sg) (scope : Scope) : List (Str × Nat) := scope.names.filterMap fun (n, k) => match k with
  | .local => (Γ.N.findIdx? fun y => y == n).map fun i => (n, i)
  | .cell => (Γ.N.findIdx? fun y => y == n).map fun i => (n, i)
  | _ => none
abbrev RTs (Γ : Sg) (k : Nat) (sc : Scope) (ifs : List Expr) := Option { t : DT // VTs Γ sc k ifs t }
def ifsF (sc : Scope) : (ifs : List Expr) → RTs Γ k sc ifs
  | [] => some ⟨vYes, VTs.nil⟩
  | [e] => (c.t sc e).map fun t => ⟨t.1, VTs.one t.2⟩
  | _ => none
/-- what a comprehension of one clause is made of -/
structure Cl (Γ : Sg) (k : Nat) (sc scope : Scope) (tg iter : Expr) (ifs : List Expr) where
  ops : List Opd
  itf : Itf
  g : DG
  tt : DT
  hi : VI Γ sc k tg iter ops itf
  hg : VG Γ scope k ((ownOf Γ scope).map (·.2)) tg g
  ht : VTs Γ scope k ifs tt
  hB : blkC Γ.N sc scope (ownOf Γ scope) = true
  hs : notSet iter = true
def clF (sl : List Str) (sc scope : Scope) (tg iter : Expr) (ifs : List Expr) : Option (Cl Γ k sc scope tg iter ifs) :=
  if hB : blkC Γ.N sc scope (ownOf Γ scope) = true then if hs : notSet iter = true then
    (iF c sl sc tg iter).bind fun it => (gF c ((ownOf Γ scope).map (·.2)) scope 6 tg).bind fun g => (ifsF c scope ifs).map fun t => ⟨it.1.1, it.1.2, g.1, t.1, it.2, g.2.1, t.2, hB, hs⟩
  else none else none
def lcF (sl : List Str) (keep : Bool) (sc : Scope) (elt : Expr) (gens : List Comprehension) (scope : Scope) (pos : Pos) : RE Γ k sc (.ListComp elt gens scope pos) := match gens with
  | [⟨tg, iter, ifs, .ofNat 0⟩] => (clF c sl sc scope tg iter ifs).bind fun cl => if keep = true then (c.e scope elt).map fun t => ⟨vLc ((ownOf Γ scope).map (·.2)) cl.ops cl.itf cl.g cl.tt t.1, VE.lc cl.hi cl.hg cl.ht t.2 cl.hB cl.hs⟩
      else if isAtom elt = true then (c.e scope elt).map fun t => ⟨vLc ((ownOf Γ scope).map (·.2)) cl.ops cl.itf cl.g cl.tt t.1, VE.lc cl.hi cl.hg cl.ht t.2 cl.hB cl.hs⟩
      else (c.e scope elt).map fun t => ⟨vLc ((ownOf Γ scope).map (·.2)) cl.ops cl.itf cl.g cl.tt (vFz t.1), VE.lc cl.hi cl.hg cl.ht (VE.frz t.2) cl.hB cl.hs⟩
  | _ => none
def dcF (sl : List Str) (sc : Scope) (kx vx : Expr) (gens : List Comprehension) (scope : Scope) (pos : Pos) : RE Γ k sc (.DictComp kx vx gens scope pos) := match gens with
  | [⟨tg, iter, ifs, .ofNat 0⟩] => (clF c sl sc scope tg iter ifs).bind fun cl => (c.e scope kx).bind fun tk => (c.e scope vx).map fun tv => ⟨vDc ((ownOf Γ scope).map (·.2)) cl.ops cl.itf cl.g cl.tt tk.1 (vFz tv.1), VE.dc cl.hi cl.hg cl.ht tk.2 (VE.frz tv.2) cl.hB cl.hs⟩
  | _ => none
def litF (sc : Scope) (v : Const) (j : Nat) (pos : Pos) : RE Γ k sc (.Constant v j pos) := match v with
  | .none => some ⟨vC .non, VE.non⟩
  | .bool b => some ⟨vC (.bl b), VE.bl⟩
  | .int i => some ⟨vC (.int i), VE.int⟩
  | .str x => some ⟨vC (.str x), VE.str⟩
  | _ => none
/-- a comprehension over a dict that is locked meanwhile -/
def lockF (lk : List Str) (sc : Scope) (gens : List Comprehension) {e : Expr} (r : RE Γ k sc e) : RE Γ k sc e := match gens with
  | ⟨_, .Name x _, _, _⟩ :: _ => if lk.contains x = true then match slotOf Γ sc x with
    | some i => r.map fun t => ⟨vLockE i t.1, VE.lock t.2⟩
    | none => r
    else r
  | _ => r
abbrev RStar (Γ : Sg) (k : Nat) (sc : Scope) (es : List Expr) := Option { l : List (Bool × DE) // VStar Γ sc k es l }
def starF (sc : Scope) : (es : List Expr) → RStar Γ k sc es
  | [] => some ⟨[], VStar.nil⟩
  | .Starred e p :: es => (c.e sc e).bind fun t => (starF sc es).map fun l => ⟨(true, vFz t.1) :: l.1, VStar.star (VE.frz t.2) l.2⟩
  | e :: es => if n : noStar e = true then (c.e sc e).bind fun t => (starF sc es).map fun l => ⟨(false, vFz t.1) :: l.1, VStar.cons (VE.frz t.2) l.2 n⟩ else none
def sSort : Str := "sorted"
def sxF (sc : Scope) (x : Str) (p : Pos) (elt : Expr) (gens : List Comprehension) (scope : Scope) (pos2 pos : Pos) : RE Γ k sc (.Call (.Name x p) [.SetComp elt gens scope pos2] [] pos) := match gens with
  | [⟨tg, iter, ifs, .ofNat 0⟩] => if hx : x = sSort ∧ isGl sc sSort = true ∧ Γ.blt sSort = true then
      (clF c [] sc scope tg iter ifs).bind fun cl => (c.e scope elt).map fun t => ⟨vSx ((ownOf Γ scope).map (·.2)) cl.ops cl.itf cl.g cl.tt t.1, by obtain ⟨rfl, h1, h2⟩ := hx; exact VE.sx h1 h2 cl.hi cl.hg cl.ht t.2 cl.hB cl.hs⟩
    else none
  | _ => none
def sList : Str := "list"
def sRng : Str := "range"
def callG (ow : List (Str × List Bool)) (MC : ∀ x F, Γ.fns x = some F → MonoC F.C) (sc : Scope) (x : Str) (p : Pos) (es : List Expr) (kws : List Keyword) (pos : Pos) : RE Γ k sc (.Call (.Name x p) es kws pos) := match es, kws with
  | [.Call (.Name y p2) [a] [] pos2], [] => if hh : x = sList ∧ y = sRng ∧ isGl sc sList = true ∧ Γ.blt sList = true ∧ isGl sc sRng = true ∧ Γ.blt sRng = true ∧ noStar a = true then
      (oF c sc a).map fun oa => ⟨vPure [oa.1] (bfD bfLR1), by obtain ⟨rfl, rfl, h1, h2, h3, h4, h5⟩ := hh; exact VE.lstRg1 h1 h2 h3 h4 oa.2 h5⟩
    else callF c ow MC sc x p [.Call (.Name y p2) [a] [] pos2] [] pos
  | [.Call (.Name y p2) [a, b] [] pos2], [] => if hh : x = sList ∧ y = sRng ∧ isGl sc sList = true ∧ Γ.blt sList = true ∧ isGl sc sRng = true ∧ Γ.blt sRng = true ∧ noStar a = true ∧ noStar b = true then
      (oF c sc a).bind fun oa => (oF c sc b).map fun ob' => ⟨vPure [oa.1, ob'.1] (bfD bfLR2), by obtain ⟨rfl, rfl, h1, h2, h3, h4, h5, h6⟩ := hh; exact VE.lstRg2 h1 h2 h3 h4 oa.2 ob'.2 h5 h6⟩
    else callF c ow MC sc x p [.Call (.Name y p2) [a, b] [] pos2] [] pos
  | [.SetComp elt gens scope pos2], [] => sxF c sc x p elt gens scope pos2 pos
  | es, kws => callF c ow MC sc x p es kws pos
variable (op) (MC : ∀ x F, Γ.fns x = some F → MonoC F.C)
def eF (sc : Scope) (e : Expr) : RE Γ k sc e := match e with
  | .Constant v j pos => litF sc v j pos
  | .Name x pos => nameF op.mv sc x pos
  | .BinOp a o b pos => (oF c sc a).bind fun oa => (oF c sc b).bind fun ob' => (opB o).map fun bf => ⟨vPure [oa.1, ob'.1] bf.1, VE.bin bf.2 oa.2 ob'.2⟩
  | .Compare a ops bs pos => cmpF c sc a ops bs pos
  | .BoolOp .And es pos => andF c sc es pos
  | .BoolOp .Or es pos => orF c sc es pos
  | .UnaryOp .Not a pos => (c.e sc a).map fun t => ⟨vNotV t.1, VE.not t.2⟩
  | .UnaryOp .USub a pos => (oF c sc a).map fun o => ⟨vPure [o.1] (bfD bfNeg), VE.neg o.2⟩
  | .IfExp t a b pos => (c.t sc t).bind fun t' => (c.e sc a).bind fun a' => (c.e sc b).map fun b' => ⟨vIf t'.1 a'.1 b'.1, VE.ife t'.2 a'.2 b'.2⟩
  | .Call (.Name x p) es kws pos => callG c op.ow MC sc x p es kws pos
  | .Call (.Attribute o name apos) es [] pos => methF c op.keep sc o name apos es pos
  | .Subscript a b pos => subF c sc a b pos
  | .Tuple es kk pos => if es.all noStar = false then (starF c sc es).map fun l => ⟨vTupS l.1, VE.tupS l.2⟩ else (xsF c op.keep sc es).map fun os => ⟨vTup os.1, VE.tup os.2.1.1 os.2.2⟩
  | .List es pos => if es.all noStar = false then (starF c sc es).map fun l => ⟨vLstS l.1, VE.lstS l.2⟩ else (xsF c op.keep sc es).map fun os => ⟨vLst os.1, VE.lst os.2.1.1 os.2.2⟩
  | .Dict [] [] pos => some ⟨vNewD, VE.newD⟩
  | .Dict [some (.Tuple ks kk kp)] [ve] pos => (c.e sc (.Tuple ks kk kp)).bind fun tk => (c.e sc ve).map fun tv => ⟨vDispT (.ex (vFz tk.1)) (.ex (vFz tv.1)), VE.dispT (VE.frz tk.2) (VE.frz tv.2)⟩
  | .Dict keys vs pos => if h0 : keys ≠ [] then if h15 : keys.length ≤ 15 then if hl : keys.length = vs.length then match hk : keysE keys with
      | some ks => (xzF c op.keep sc vs).map fun os => ⟨vDisp ks os.1, VE.disp hk os.2.1 os.2.2 hl h0 h15⟩
      | none => none
    else none else none else none
  | .ListComp elt gens scope pos => lockF op.lk sc gens (lcF c (op.sl ++ op.lk) op.keep sc elt gens scope pos)
  | .DictComp kx vx gens scope pos => lockF op.lk sc gens (dcF c (op.sl ++ op.lk) sc kx vx gens scope pos)
  | _ => none
def cmpX (sc : Scope) (a : Expr) (ops : List CmpOp) (bs : List Expr) (pos : Pos) : RT Γ k sc (.Compare a ops bs pos) := match a, ops, bs with
  | .Subscript (.Name x p) (.Constant (.str s) j kp) p3, [o], [b] => if op.dv.contains s = true then if pn : plainName x = true then match hx : slotOf Γ sc x with
      | some i => if hm : behindInMarks o b = false then (oF c sc (.Constant (.str s) j kp)).bind fun key => (oF c sc b).bind fun o2 => (opC o).map fun bf => ⟨vCmpIx i key.1 o2.1 bf.1, VT.cmpIx hx pn key.2 rfl bf.2 o2.2 hm⟩ else none
      | none => none
    else none else cmpT c sc (.Subscript (.Name x p) (.Constant (.str s) j kp) p3) [o] [b] pos
  | a, ops, bs => cmpT c sc a ops bs pos
def tF (sc : Scope) (e : Expr) : RT Γ k sc e := match e with
  | .BoolOp .And es pos => (andT c sc es pos).map fun t => ⟨t.1, t.2.vt⟩
  | .BoolOp .Or es pos => (orT c sc es pos).map fun t => ⟨t.1, t.2.vt⟩
  | .UnaryOp .Not a pos => (c.t sc a).map fun t => ⟨vNot t.1, VT.not t.2⟩
  | .Compare a ops bs pos => cmpX op c sc a ops bs pos
  | e => if p : plainTest e = true then (oF c sc e).map fun o => ⟨vTru o.1, VT.tru o.2 p⟩ else none
def cc : Nat → CC Γ k
  | 0 => ⟨fun _ _ => none, fun _ _ => none⟩
  | n + 1 => ⟨fun sc e => eF op (cc n) MC sc e, fun sc e => tF op (cc n) sc e⟩
/-! ## statements -/
variable {op}
/-- name = a comprehension -/
def asgLcF (sc : Scope) (y : Str) (py : Pos) (elt : Expr) (gens : List Comprehension) (scope : Scope) (pos spos : Pos) : Option { t : DS // VSt Γ sc k op.P (.Assign [.Name y py] (.ListComp elt gens scope pos) spos) t } := match hx : asgOf Γ sc y with
  | none => none
  | some i => if hP : inP op.P i = true then
    if sw : swC sc scope y py pos = true then match gens with
      | [⟨tg, iter, ifs, .ofNat 0⟩] => (clF c op.sl sc scope tg iter ifs).bind fun cl => if (op.keep || isAtom elt) = true then (c.e scope elt).map fun t => ⟨vAsg i (vLc ((ownOf Γ scope).map (·.2)) cl.ops cl.itf cl.g cl.tt t.1), VSt.asgLc hx (inP_at hP) sw cl.hi cl.hg cl.ht t.2 cl.hB cl.hs⟩
          else (c.e scope elt).map fun t => ⟨vAsg i (vLc ((ownOf Γ scope).map (·.2)) cl.ops cl.itf cl.g cl.tt (vFz t.1)), VSt.asgLc hx (inP_at hP) sw cl.hi cl.hg cl.ht (VE.frz t.2) cl.hB cl.hs⟩
      | _ => none
    else if sw : swN sc y = true then (lcF c op.sl op.keep sc elt gens scope pos).map fun t => ⟨vAsg i t.1, VSt.asgLcN hx (inP_at hP) sw t.2⟩ else none
  else none
def asgDcF (sc : Scope) (y : Str) (py : Pos) (kx vx : Expr) (gens : List Comprehension) (scope : Scope) (pos spos : Pos) : Option { t : DS // VSt Γ sc k op.P (.Assign [.Name y py] (.DictComp kx vx gens scope pos) spos) t } := match hx : asgOf Γ sc y with
  | none => none
  | some i => if hP : inP op.P i = true then
    if sw : swC sc scope y py pos = true then match gens with
      | [⟨tg, iter, ifs, .ofNat 0⟩] => (clF c op.sl sc scope tg iter ifs).bind fun cl => (c.e scope kx).bind fun tk => (c.e scope vx).map fun tv => ⟨vAsg i (vDc ((ownOf Γ scope).map (·.2)) cl.ops cl.itf cl.g cl.tt tk.1 (vFz tv.1)), VSt.asgDc hx (inP_at hP) sw cl.hi cl.hg cl.ht tk.2 (VE.frz tv.2) cl.hB cl.hs⟩
      | _ => none
    else if sw : swN sc y = true then (dcF c op.sl sc kx vx gens scope pos).map fun t => ⟨vAsg i t.1, VSt.asgDcN hx (inP_at hP) sw t.2⟩ else none
  else none
def isLoc (sc : Scope) (x : Str) : Bool := match sc.names.lookup x with
  | some .local => true
  | _ => false
theorem isLoc_at {sc : Scope} {x : Str} (h : isLoc sc x = true) : sc.names.lookup x = some .local := by
  unfold isLoc at h
  split at h
  · assumption
  · cases h
/-- any target, any value -/
def asgAny (sc : Scope) (tg e : Expr) (pos : Pos) : RS Γ k op sc (.Assign [tg] e pos) := if n : notComp e = true then if h1 : oneByOne sc tg e = true then (gF c op.P sc 6 tg).bind fun g => match e with
    | .Tuple es kk p2 => (xsF c true sc es).map fun os => ⟨vAsgT g.1 (vTup os.1), VSt.asgT g.2.1 (VE.tup os.2.1.1 os.2.2) n g.2.2 h1⟩
    | e => (c.e sc e).map fun t => ⟨vAsgT g.1 t.1, VSt.asgT g.2.1 t.2 n g.2.2 h1⟩
  else none else none
theorem par_in {P : List Nat} {i j : Nat} (h1 : inP P i = true) (h2 : inP P j = true) : ∀ l ∈ [i, j], l ∈ P := fun l hl => by
  simp only [List.mem_cons, List.not_mem_nil, or_false] at hl
  rcases hl with rfl | rfl
  · exact inP_at h1
  · exact inP_at h2
theorem par_in3 {P : List Nat} {i j m : Nat} (h1 : inP P i = true) (h2 : inP P j = true) (h3 : inP P m = true) : ∀ l ∈ [i, j, m], l ∈ P := fun l hl => by
  simp only [List.mem_cons, List.not_mem_nil, or_false] at hl
  rcases hl with rfl | rfl | rfl
  · exact inP_at h1
  · exact inP_at h2
  · exact inP_at h3
def asgF (sc : Scope) (tg e : Expr) (pos : Pos) : RS Γ k op sc (.Assign [tg] e pos) := match tg, e with
  | .Name y py, .ListComp elt gens scope pos' => asgLcF c sc y py elt gens scope pos' pos
  | .Name y py, .DictComp kx vx gens scope pos' => asgDcF c sc y py kx vx gens scope pos' pos
  | .Name y py, e => if n : notComp e = true then match hx : asgOf Γ sc y with
      | some i => if hP : inP op.P i = true then (c.e sc e).map fun t => ⟨vAsg i t.1, VSt.asg hx (inP_at hP) t.2 n⟩ else none
      | none => none
    else none
  | .Tuple [.Name x px, .Name y py] kt pt, .Tuple [a, b] k2 pt2 => if oneByOne sc (.Tuple [.Name x px, .Name y py] kt pt) (.Tuple [a, b] k2 pt2) = true then asgAny c sc (.Tuple [.Name x px, .Name y py] kt pt) (.Tuple [a, b] k2 pt2) pos
    else match hx : asgOf Γ sc x, hy : asgOf Γ sc y with
      | some i, some j => if hP : inP op.P i = true then if hQ : inP op.P j = true then if lx : isLoc sc x = true then if ly : isLoc sc y = true then if hij : i ≠ j then if hxy : (x == y) = false then if hl : (py.line == px.line) = true then if p1 : [a, b].all (foldedForSure 8) = false then if p2 : [a, b].all (constantsAlone 8) = false then
          (xsF c true sc [a, b]).bind fun os => match h : os.1 with
            | [oa, ob'] => some ⟨vPar [i, j] [oa, ob'], VSt.par2 (par_in hP hQ) hx hy (isLoc_at lx) (isLoc_at ly) hij (h ▸ os.2.1.1) (h ▸ os.2.2) hxy hl ⟨os.2.1.2, p1, p2⟩⟩
            | _ => none
        else none else none else none else none else none else none else none else none else none
      | _, _ => none
  | .Tuple [.Name x px, .Name y py, .Name z pz] kt pt, .Tuple [a, b, d] k2 pt2 => if oneByOne sc (.Tuple [.Name x px, .Name y py, .Name z pz] kt pt) (.Tuple [a, b, d] k2 pt2) = true then asgAny c sc (.Tuple [.Name x px, .Name y py, .Name z pz] kt pt) (.Tuple [a, b, d] k2 pt2) pos
    else match hx : asgOf Γ sc x, hy : asgOf Γ sc y, hz : asgOf Γ sc z with
      | some i, some j, some l => if hP : inP op.P i = true then if hQ : inP op.P j = true then if hR : inP op.P l = true then if lx : isLoc sc x = true then if ly : isLoc sc y = true then if lz : isLoc sc z = true then if hij : i ≠ j then if hil : i ≠ l then if hjl : j ≠ l then
          if hd : ([x, y, z] : List Str).eraseDups.length = 3 then if hl : (py.line == px.line) = true then if hl2 : (pz.line == px.line) = true then if p1 : [a, b, d].all (foldedForSure 8) = false then if p2 : [a, b, d].all (constantsAlone 8) = false then
          (xsF c true sc [a, b, d]).bind fun os => match h : os.1 with
            | [oa, ob', oc] => some ⟨vPar [i, j, l] [oa, ob', oc], VSt.par3 (par_in3 hP hQ hR) hx hy hz (isLoc_at lx) (isLoc_at ly) (isLoc_at lz) hij hil hjl (h ▸ os.2.1.1) (h ▸ os.2.2) hd hl hl2 ⟨os.2.1.2, p1, p2⟩⟩
            | _ => none
        else none else none else none else none else none else none else none else none else none else none else none else none else none else none
      | _, _, _ => none
  | tg, e => asgAny c sc tg e pos
def ipF : (o : Operator) → Option { bf : BfO // IpO o bf }
  | .Add => some ⟨_, addI_ip⟩
  | .Sub => some ⟨_, subI_ip⟩
  | _ => none
def retF (sc : Scope) (e : Expr) (pos : Pos) : RS Γ k op sc (.Return (some e) pos) := match e with
  | .Name x p => match hx : slotOf Γ sc x with
    | some i => if pn : plainName x = true then some ⟨vRet (vMv i), VSt.ret (VE.mv hx pn)⟩ else none
    | none => (c.e sc (.Name x p)).map fun t => ⟨vRet t.1, VSt.ret t.2⟩
  | e => (c.e sc e).map fun t => ⟨vRet t.1, VSt.ret t.2⟩
def exprF (sc : Scope) (e : Expr) (pos : Pos) : RS Γ k op sc (.Expr e pos) := match e with
  | .Constant (.str x) j p => some ⟨vNext, VSt.doc⟩
  | e => if n : notComp e = true then (c.e sc e).map fun t => ⟨vDrop t.1, VSt.expr t.2 n⟩ else none
variable (s : CS Γ k op)
def stF (sc : Scope) (st : Stmt) : RS Γ k op sc st := match st with
  | .Pass pos => some ⟨vNext, VSt.pass⟩
  | .Break pos => some ⟨vBreak, VSt.brk⟩
  | .Continue pos => some ⟨vCont, VSt.cont⟩
  | .Expr e pos => exprF c sc e pos
  | .Return none pos => some ⟨vRetN, VSt.retN⟩
  | .Return (some e) pos => retF c sc e pos
  | .If t a b pos => (c.t sc t).bind fun t' => (s.s sc a).bind fun a' => (s.s sc b).map fun b' => ⟨vIfS t'.1 a'.1 b'.1, VSt.ifs t'.2 a'.2 b'.2⟩
  | .Assign [tg] e pos => asgF c sc tg e pos
  | .AugAssign (.Name x p) o e pos => match hx : asgOf Γ sc x with
    | some i => if hP : inP op.P i = true then (oF c sc e).bind fun oe => (ipF o).map fun bf => ⟨vAug i oe.1 bf.1, VSt.aug hx (inP_at hP) oe.2 bf.2⟩ else none
    | none => none
  | .For tg iter body [] pos => if hs : notSet iter = true then (iF c op.sl sc tg iter).bind fun it => (gF c op.P sc 6 tg).bind fun g => if ns : noSt it.1.1 op.P = true then (s.s sc body).map fun b => ⟨vFor it.1.1 it.1.2 g.1 b.1, VSt.for_ it.2 g.2.1 b.2 ns (folded_no hs)⟩ else (rngX c sc tg iter).bind fun it => if ns : noSt it.1.1 op.P = true then (s.s sc body).map fun b => ⟨vFor it.1.1 it.1.2 g.1 b.1, VSt.for_ it.2 g.2.1 b.2 ns (folded_no hs)⟩ else none else none
  | .While t body [] pos => (c.t sc t).bind fun t' => (s.s sc body).map fun b => ⟨vWhile t'.1 b.1, VSt.while_ t'.2 b.2⟩
  | .Raise e d pos => some ⟨vNever, VSt.never⟩
  | _ => none
def stsF (sc : Scope) : (sts : List Stmt) → RSs Γ k op sc sts
  | [] => some ⟨vNext, VSs.nil⟩
  | [st] => (stF c s sc st).map fun t => ⟨vSeq t.1 vNext, VSs.cons t.2 VSs.nil⟩
  | st :: sts => (stF c s sc st).bind fun t => (stsF sc sts).map fun u => ⟨vSeq t.1 u.1, VSs.cons t.2 u.2⟩
def cs (n : Nat) : Nat → CS Γ k op
  | 0 => ⟨fun _ _ => none⟩
  | m + 1 => ⟨fun sc sts => stsF (cc op MC n) (cs n m) sc sts⟩
end
/-- what a def's body is -/
def bodyOf (Γ : Sg) (k : Nat) (op : Opts) (MC : ∀ x F, Γ.fns x = some F → MonoC F.C) (sc : Scope) (sts : List Stmt) : Option DS := ((cs (Γ := Γ) (k := k) (op := op) MC 24 12).s sc sts).map (·.1)
theorem bodyOf_at {Γ : Sg} {k : Nat} {op : Opts} {MC : ∀ x F, Γ.fns x = some F → MonoC F.C} {sc : Scope} {sts : List Stmt} {t : DS} (h : bodyOf Γ k op MC sc sts = some t) : VSs Γ sc k op.P sts t := by
  obtain ⟨r, _, rfl⟩ := Option.map_eq_some_iff.mp h
  exact r.2
end VS
namespace VS
open PySem PySem.Spec PyProof.Rows L2
/-! ## the law's own call -/
/-- no list among the objects that are written down -/
def noList (K : PySem.W.Frag) : Bool := K.all fun p => match p.2.cls with
  | .type n => !(n == "list")
  | _ => true
theorem noList_at {K : PySem.W.Frag} {a : Addr} {o : Obj} (h : noList K = true) (e : K.lookup a = some o) (c : o.cls = .type "list") : False := by
  unfold noList at h
  rw [List.all_eq_true] at h
  have key : ∀ (l : List (Addr × Obj)), l.lookup a = some o → ∃ p ∈ l, p.2 = o := by
    intro l
    induction l with
    | nil => intro e; cases e
    | cons p r ih =>
      obtain ⟨b, x⟩ := p
      intro e
      simp only [List.lookup] at e
      split at e
      · cases e; exact ⟨_, List.mem_cons_self .., rfl⟩
      · obtain ⟨p, h1, h2⟩ := ih e
        exact ⟨p, List.mem_cons_of_mem _ h1, h2⟩
  obtain ⟨p, h1, h2⟩ := key K e
  have := h p h1
  rw [h2, c] at this
  simp at this
/-- what the law is worth -/
def LawC (n : Nat) (C : Con) : Prop := ∀ (o : Obj) (ns : List Int), ns.length ≤ n → C (fun _ _ _ => False) [.fz (.nd (.scr o) (ns.map D.int))] fun r _ => r = .fz (.bl true)
theorem law_callG {P : Program} {w : World} {K : PySem.W.Frag} {mg mb : Str → Option Value} {n k : Nat} {fa a : Addr} {fd : FuncData} {x : Str} {C : Con} {s₁ : Shared} {vs : List Value} {ns : List Int}
    (KX : K.In s₁.heap) (nl : noList K = true) (hns : s₁.heap.Ns mainGlobals mg) (hb : s₁.heap.Ns builtinsNs mb) (hbb : ∀ x : Str, x ≠ "__name__" → mb x = bootBuiltins x) (hlim : s₁.heap.NoLimit) (hg : s₁.gens = #[])
    (ha : s₁.heap.get? a = some { cls := .type "list", data := .seq vs.toArray }) (hi : IntsAre vs ns) (hl : ns.length ≤ sizeLine) (hln : ns.length ≤ n) (hr : Room k callerA)
    (F : ∀ base : Heap, K.In base → base.Ns mainGlobals mg → FnG P w K mg base k fa fd [x] (liftC mg 1 C)) (hbind : ∀ (s : Shared) (u : Value), BindsTo s fd ⟨[u], []⟩ [(x, u)])
    (mC : MonoC C) (hC : LawC n C) :
    codeAny (model P w) callerA (.call (.ref fa) ⟨[.ref a], []⟩) (fun r s' => r = .ok (.ret (.bool true)) ∧ OldK s₁.heap s'.heap ∧ s'.os = s₁.os ∧ AllBare s'.gens) s₁ := by
  have rv := vals_ints hi
  have lenV := hi.length
  have hk : K.lookup a = none := by
    cases hk : K.lookup a with
    | none => rfl
    | some o =>
      have e := KX a o hk
      rw [ha] at e
      cases e
      exact (noList_at nl hk rfl).elim
  generalize hH : (fun b => if b = a then some (HO.frz { cls := .type "list", data := .seq vs.toArray } (.lst (ns.map V.int))) else none : Hp) = H
  have Ha : H a = some (HO.frz { cls := .type "list", data := .seq vs.toArray } (.lst (ns.map V.int))) := by rw [← hH]; exact if_pos rfl
  have Hn : ∀ b, b ≠ a → H b = none := fun b hb => by rw [← hH]; exact if_neg hb
  have hok : HOk P w H s₁.heap := fun b u z => by
    by_cases hb : b = a
    · subst hb
      rw [Ha] at z
      cases z
      exact ⟨ha, by rw [List.length_map]; exact hl, vs, _, rv, ha⟩
    · rw [Hn b hb] at z; cases z
  have hA : ∀ b, H b ≠ none → b = a := fun b z => by
    by_cases hb : b = a
    · exact hb
    · exact absurd (Hn b hb) z
  have base_of : ∀ {b : Addr} {o : Obj}, s₁.heap.get? b = some o → H b = none → (hidT s₁.heap H).get? b = some o := fun e n => hidT_get e n
  have noA : ∀ {b : Addr} {o : Obj} {es : Array DictEntry} {ep : Nat}, s₁.heap.get? b = some o → o.data = .dict es ep → H b = none := fun {b o es ep} e d => by
    cases q : H b with
    | none => rfl
    | some u =>
      have e' : b = a := hA b (by rw [q]; simp)
      subst e'
      rw [ha] at e; cases e
      have d' : Data.seq vs.toArray _ = Data.dict es ep := d
      cases d'
  have nsK : ∀ {b : Addr} {m : Str → Option Value}, s₁.heap.Ns b m → (hidT s₁.heap H).Ns b m := fun {b m} ⟨o, es, ep, e, d, r⟩ => ⟨o, es, ep, base_of e (noA e d), d, r⟩
  have hKb : K.In (hidT s₁.heap H) := fun b o e => base_of (KX b o e) (by
    cases q : H b with
    | none => rfl
    | some u =>
      have e' : b = a := hA b (by rw [q]; simp)
      subst e'
      rw [hk] at e; cases e)
  have hM : Mod K mg (hidT s₁.heap H) := ⟨hKb, nsK hns, ⟨mb, nsK hb, hbb⟩, let ⟨mc, h1, h2⟩ := hlim; ⟨mc, nsK h1, h2⟩⟩
  have e0 : Env0 P w K mg (hidT s₁.heap H) callerA [] s₁ H := ⟨rfl, hM, fun b o e => of_hidT e, Nat.le_of_eq (hidT_size _ _), trivial, fun b hb => absurd (show b ∈ ([] : List Addr) from hb) (by simp), hok, .of_eq hg⟩
  have sp : liftC mg 1 C [.ref a] H (fun v _ => v = .bl true) (fun _ _ _ => False) := by
    refine ⟨rfl, [.fz (.nd (.scr { cls := .type "list", data := .seq vs.toArray }) (ns.map D.int))], H, [], [], rfl, ⟨[], ?_, List.nodup_nil, (fun b hb => nomatch hb), (fun b hb => nomatch hb), Same.refl _⟩, ?_⟩
    · exact .cons (F1 := []) (F2 := []) (.fz (.nd Ha (.inl rfl) (rps_ints ns))) .nil
    · refine mC _ _ _ _ _ (fun n f c z => z.elim) (fun r os' e => ?_) (hC { cls := .type "list", data := .seq vs.toArray } ns hln)
      subst e
      intro v H' G' g l sp'
      have q := sp'.rp
      cases q
      rfl
  refine codeAny_mono ((F _ hKb (nsK hns)).does callerA [] s₁ H ⟨[.ref a], []⟩ [.ref a] [.ref a] _ _ ⟨hr, rfl⟩ e0 (hbind s₁ (.ref a)) (.cons rfl .nil) sp) fun r s' h => ?_
  cases r with
  | error e =>
    obtain ⟨_, _, _, _, _, _, _, _, _, _, _, _, z⟩ := h
    exact z.elim
  | ok fl =>
    cases fl with
    | next => exact False.elim h
    | brk => exact False.elim h
    | cont => exact False.elim h
    | ret u =>
      obtain ⟨v, H', os, bare, un, hok', r', q⟩ := h
      have q' : v = .bl true := q
      subst q'
      obtain rfl : u = Value.bool true := r'
      refine ⟨rfl, OldK.of_keep fun b o e => ?_, os, bare⟩
      by_cases hb : b = a
      · subst hb
        have z2 := un.frzs b _ _ Ha
        obtain ⟨e2, _⟩ := hok' b _ z2
        rw [ha] at e; cases e
        exact e2
      · exact un.keep b o e (Hn b hb) (by intro z; exact absurd (show b ∈ ([] : List Addr) from z) (by simp)) (by simp)
/-- the goal that the head leaves -/
theorem walk_ofG {l : PySem.W.OpenLaw} {n k : Nat} {q : Program} {loose : List Str} {XP : (Str → Option Value) → Heap → Prop} {YP : World → Heap → Prop} {d : DefRec} {K : Params → PySem.W.Frag} {C : Con} {x : Str}
    (hn : l.most = some n) (hn2 : n ≤ sizeLine) (hdf : d.params.defaults = []) (hr : Room k callerA)
    (hY : ∀ (w : World) (h : Heap), YP w h → (K w.params).In h) (nl : ∀ w : World, noList (K w.params) = true)
    (F : ∀ (w : World) (mg : Str → Option Value) (fa : Addr) (h : Heap), (K w.params).In h → h.Ns mainGlobals mg → mg d.name = some (.ref fa) →
      ∃ fd : FuncData, (∀ (s : Shared) (u : Value), BindsTo s fd ⟨[u], []⟩ [(x, u)]) ∧
        ∀ base : Heap, (K w.params).In base → base.Ns mainGlobals mg → FnG l.prog w (K w.params) mg base k fa fd [x] (liftC mg 1 C))
    (mC : MonoC C) (hC : LawC n C) :
    PySem.W.WalkO q loose XP YP l.row.toRowW d [] (fun f vs => PySem.call f vs) := by
  refine Att.attach_call hn hdf fun w s₀ s₁ mg mb fa o pm cd doc a vs ns G Y ho hd hcd hmg hobj hints hlen hg => ?_
  have KX := hY w _ Y
  obtain ⟨fd, hb, hF⟩ := F w mg fa _ KX G.T.g hmg
  exact law_callG KX (nl w) G.T.g G.T.b G.T.builtins G.T.nolimit hg hobj hints (Nat.le_trans hlen hn2) hlen hr hF hb mC hC
end VS
namespace VS
open PySem PySem.Spec PyProof.Rows L2
/-! ## steps over data: rules for simp, outermost first -/
/-- what stands under a lock is not looked into by simp: a later argument's type hangs on it -/
structure Lock {α : Type _} (a : α) : Type where
def obS {α : Type} (x : Option α) (k : α → Prop) (_ : Lock k := ⟨⟩) : Prop := ob x k
@[simp ↓] theorem ob_lock {α : Type} {x : Option α} {k : α → Prop} : ob x k = obS x k := (rfl)
@[simp] theorem obS_some {α : Type} {a : α} {k : α → Prop} : obS (some a) k = k a := (rfl)
@[simp] theorem obS_none {α : Type} {k : α → Prop} : obS none k = False := (rfl)
def forS (kp : Cf → Prop) (g : DG) (body : DS) (l : List D) (D : En) (c : Cf) (_ : Lock (kp, g, body, D) := ⟨⟩) : Prop := vForL kp g body l D c
@[simp ↓] theorem for_lock {kp : Cf → Prop} {g : DG} {body : DS} {l : List D} {D : En} {c : Cf} : vForL kp g body l D c = forS kp g body l D c := (rfl)
def whS (t : DT) (body : DS) (D : En) (c : Cf) (_ : Lock (t, body, D) := ⟨⟩) : Prop := vWhile t body D c
@[simp ↓] theorem wh_lock {t : DT} {body : DS} {D : En} {c : Cf} : vWhile t body D c = whS t body D c := (rfl)
def lcS (vs : List Nat) (kp : Cf → Prop) (g : DG) (tt : DT) (te : DE) (l : List D) (acc : List O) (c : Cf) (k : List O → Cf → Prop) (_ : Lock (kp, g, tt, te, k) := ⟨⟩) : Prop := vLcL vs kp g tt te l acc c k
@[simp ↓] theorem lc_lock {vs : List Nat} {kp : Cf → Prop} {g : DG} {tt : DT} {te : DE} {l : List D} {acc : List O} {c : Cf} {k : List O → Cf → Prop} : vLcL vs kp g tt te l acc c k = lcS vs kp g tt te l acc c k := (rfl)
def dcS (vs : List Nat) (kp : Cf → Prop) (g : DG) (tt : DT) (tk tv : DE) (l : List D) (ks : List Key) (acc : List O) (c : Cf) (k : List Key → List O → Cf → Prop) (_ : Lock (kp, g, tt, tk, tv, k) := ⟨⟩) : Prop := vDcL vs kp g tt tk tv l ks acc c k
@[simp ↓] theorem dc_lock {vs : List Nat} {kp : Cf → Prop} {g : DG} {tt : DT} {tk tv : DE} {l : List D} {ks : List Key} {acc : List O} {c : Cf} {k : List Key → List O → Cf → Prop} : vDcL vs kp g tt tk tv l ks acc c k = dcS vs kp g tt tk tv l ks acc c k := (rfl)
theorem ob_some' {α : Type} {a : α} {k : α → Prop} : obS (some a) k = k a := rfl
/-- a place where ways part -/
def brS (b : Bool) (t u : DS) (D : En) (c : Cf) : Prop := if b = true then t D c else u D c
def brSS (b : Bool) (t u : DS) (D : En) (c : Cf) (_ : Lock (t, u, D) := ⟨⟩) : Prop := brS b t u D c
@[simp ↓] theorem brS_lock {b : Bool} {t u : DS} {D : En} {c : Cf} : brS b t u D c = brSS b t u D c := (rfl)
@[simp ↓] theorem brS_t {t u : DS} {D : En} {c : Cf} : brSS true t u D c = t D c := (rfl)
@[simp ↓] theorem brS_f {t u : DS} {D : En} {c : Cf} : brSS false t u D c = u D c := (rfl)
theorem brS_of {b : Bool} {t u : DS} {D : En} {c : Cf} (h1 : b = true → t D c) (h2 : b = false → u D c) : brS b t u D c := by
  cases b
  · exact h2 rfl
  · exact h1 rfl
def brE (b : Bool) (t u : DE) (E : XP) (c : Cf) (Q : DK) : Prop := if b = true then t E c Q else u E c Q
def brES (b : Bool) (t u : DE) (E : XP) (c : Cf) (Q : DK) (_ : Lock (t, u, E, Q) := ⟨⟩) : Prop := brE b t u E c Q
@[simp ↓] theorem brE_lock {b : Bool} {t u : DE} {E : XP} {c : Cf} {Q : DK} : brE b t u E c Q = brES b t u E c Q := (rfl)
@[simp ↓] theorem brE_t {t u : DE} {E : XP} {c : Cf} {Q : DK} : brES true t u E c Q = t E c Q := (rfl)
@[simp ↓] theorem brE_f {t u : DE} {E : XP} {c : Cf} {Q : DK} : brES false t u E c Q = u E c Q := (rfl)
theorem brE_of {b : Bool} {t u : DE} {E : XP} {c : Cf} {Q : DK} (h1 : b = true → t E c Q) (h2 : b = false → u E c Q) : brE b t u E c Q := by
  cases b
  · exact h2 rfl
  · exact h1 rfl
/-- test b, then t's tests, else Q v -/
def brT (b v : Bool) (t : DT) (E : XP) (c : Cf) (Q : Bool → Cf → Prop) : Prop := if b = v then t E c Q else Q b c
def brTS (b v : Bool) (t : DT) (E : XP) (c : Cf) (Q : Bool → Cf → Prop) (_ : Lock (t, E, Q) := ⟨⟩) : Prop := brT b v t E c Q
@[simp ↓] theorem brT_lock {b v : Bool} {t : DT} {E : XP} {c : Cf} {Q : Bool → Cf → Prop} : brT b v t E c Q = brTS b v t E c Q := (rfl)
@[simp ↓] theorem brT_tt {t : DT} {E : XP} {c : Cf} {Q : Bool → Cf → Prop} : brTS true true t E c Q = t E c Q := (rfl)
@[simp ↓] theorem brT_ff {t : DT} {E : XP} {c : Cf} {Q : Bool → Cf → Prop} : brTS false false t E c Q = t E c Q := (rfl)
@[simp ↓] theorem brT_ft {t : DT} {E : XP} {c : Cf} {Q : Bool → Cf → Prop} : brTS false true t E c Q = Q false c := (rfl)
@[simp ↓] theorem brT_tf {t : DT} {E : XP} {c : Cf} {Q : Bool → Cf → Prop} : brTS true false t E c Q = Q true c := (rfl)
theorem brT_of {b v : Bool} {t : DT} {E : XP} {c : Cf} {Q : Bool → Cf → Prop} (h1 : b = v → t E c Q) (h2 : b = !v → Q b c) : brT b v t E c Q := by
  unfold brT
  split
  · exact h1 (by assumption)
  · refine h2 ?_
    cases b <;> cases v <;> simp_all
def brP (b : Bool) (P : Unit → Prop) (R : Unit → Prop) : Prop := if b = true then P () else R ()
def brPS (b : Bool) (P : Unit → Prop) (R : Unit → Prop) (_ : Lock (P, R) := ⟨⟩) : Prop := brP b P R
@[simp ↓] theorem brP_lock {b : Bool} {P : Unit → Prop} {R : Unit → Prop} : brP b P R = brPS b P R := (rfl)
@[simp ↓] theorem brP_t {P R : Unit → Prop} : brPS true P R = P () := (rfl)
@[simp ↓] theorem brP_f {P R : Unit → Prop} : brPS false P R = R () := (rfl)
theorem brP_of {b : Bool} {P R : Unit → Prop} (h1 : b = true → P ()) (h2 : b = false → R ()) : brP b P R := by
  cases b
  · exact h2 rfl
  · exact h1 rfl
/-- a call -/
def goC (C : Con) (os : List O) (ops : List Opd) (c : Cf) (E : XP) (Q : DK) : Prop := C (fun nm fs os' => E nm fs (putOps ops c os')) os fun r os' => Q r (putOps ops c os')
def goCS (C : Con) (os : List O) (ops : List Opd) (c : Cf) (E : XP) (Q : DK) (_ : Lock (E, Q) := ⟨⟩) : Prop := goC C os ops c E Q
@[simp ↓] theorem goC_lock {C : Con} {os : List O} {ops : List Opd} {c : Cf} {E : XP} {Q : DK} : goC C os ops c E Q = goCS C os ops c E Q := (rfl)
theorem goC_of {C : Con} {os : List O} {ops : List Opd} {c : Cf} {E : XP} {Q : DK} (h : C (fun nm fs os' => E nm fs (putOps ops c os')) os fun r os' => Q r (putOps ops c os')) : goC C os ops c E Q := h
section
variable {Z : En} {c : Cf} {E : XP} {Q : DK} {QT : Bool → Cf → Prop} {KO : List O → Cf → Prop} {t u : DS} {e e1 e2 : DE} {b b1 b2 : DT} {i n : Nat} {o : O} {os : List O} {ops : List Opd} {d : D} {bf bf' : BfO} {KC : Cf → Prop}
@[simp ↓] theorem s_seq : vSeq t u Z c = t { Z with nx := u Z } c := vSeq_at
@[simp ↓] theorem s_next : vNext Z c = Z.nx c := rfl
@[simp ↓] theorem s_brk : vBreak Z c = Z.bk c := rfl
@[simp ↓] theorem s_cont : vCont Z c = Z.ct c := rfl
@[simp ↓] theorem s_never : vNever Z c = False := rfl
@[simp ↓] theorem s_drop : vDrop e Z c = e Z.ex c fun _ c1 => Z.nx c1 := rfl
@[simp ↓] theorem s_ret : vRet e Z c = e Z.ex c Z.rt := rfl
@[simp ↓] theorem s_retN : vRetN Z c = Z.rt (.fz .non) c := rfl
@[simp ↓] theorem s_ifs : vIfS b t u Z c = b Z.ex c fun d c1 => brS d t u Z c1 := rfl
@[simp ↓] theorem s_asg : vAsg i e Z c = e Z.ex c fun o c1 => Z.nx (c1.set i o) := rfl
@[simp ↓] theorem s_par {is : List Nat} : vPar is ops Z c = evOps ops Z.ex c fun os c1 => Z.nx (setAll c1 is os) := rfl
@[simp ↓] theorem s_asgT {g : DG} : vAsgT g e Z c = e Z.ex c fun o c1 => g o c1 Z.nx := rfl
@[simp ↓] theorem s_aug {oe : Opd} : vAug i oe bf Z c = ob c[i]? fun o0 => isBad o0 = false ∧ evOps [oe] Z.ex c fun ts c1 => ob (opsO [.sl i, oe] c1 ts) fun os => ob (bf os) fun r => Z.nx (c1.set i r) := rfl
@[simp ↓] theorem s_for {itf : Itf} {g : DG} : vFor ops itf g t Z c = evOps ops Z.ex c fun ts c1 => ob (opsO ops c1 ts) fun ds => ob (itf ds) fun items => vForL (keepOps ops c1) g t items Z c1 := rfl
@[simp ↓] theorem s_C : vC d E c Q = Q (.fz d) c := rfl
@[simp ↓] theorem s_var : vVar i E c Q = ob c[i]? fun o => isBad o = false ∧ Q (.fz o.view) (c.set i (.fz o.view)) := rfl
def mvO (o : O) (i : Nat) (c : Cf) (Q : DK) : Prop := match o with
  | .fz d => Q (.fz d) c
  | .own t os => Q (.own t os) (c.set i O.bad)
def mvOS (o : O) (i : Nat) (c : Cf) (Q : DK) (_ : Lock Q := ⟨⟩) : Prop := mvO o i c Q
@[simp ↓] theorem mvO_lock {o : O} {i : Nat} {c : Cf} {Q : DK} : mvO o i c Q = mvOS o i c Q := (rfl)
@[simp ↓] theorem mvO_fz : mvOS (.fz d) i c Q = Q (.fz d) c := (rfl)
@[simp ↓] theorem mvO_own {tg : Tag} : mvOS (.own tg os) i c Q = Q (.own tg os) (c.set i O.bad) := (rfl)
@[simp ↓] theorem s_mv : vMv i E c Q = ob c[i]? fun o => isBad o = false ∧ mvO o i c Q := rfl
@[simp ↓] theorem s_fz : vFz e E c Q = e E c fun o c1 => Q (.fz o.view) c1 := rfl
@[simp ↓] theorem s_pure : vPure ops bf E c Q = evOps ops E c fun ts c1 => ob (opsO ops c1 ts) fun ds => ob (bf ds) fun o => Q o c1 := rfl
@[simp ↓] theorem s_cmpT : vCmpT ops bf E c QT = evOps ops E c fun ts c1 => ob (opsO ops c1 ts) fun ds => ob ((bf ds).map O.sh) fun o => ob (boB o) fun b => QT b c1 := rfl
@[simp ↓] theorem s_cmpIx {key o2 : Opd} : vCmpIx i key o2 bf E c QT = ob c[i]? fun o0 => isBad o0 = false ∧ evOps [key] E c fun ks c1 => ob c1[i]? fun o1 => isBad o1 = false ∧ ob (opsO [key] c1 ks) fun kl => ob kl.head? fun ko =>
  ob (partsT o1) fun tp => ob (ixD tp.1 tp.2.length ko.sh) fun j => ob tp.2[j]? fun inner => ob (divesIn o1 inner) fun d => ∀ w : V, evOps [o2] E (c1.set i (.own d.1 (d.2.set j (.fz (.val w))))) fun as c2 =>
    ob c2[i]? fun o3 => ob (partsT o3) fun tp2 => o3 = .own tp2.1 tp2.2 ∧ tp2.1.mut = true ∧ tp2.2[j]? = some (.fz (.val w)) ∧ ob (opsO [o2] c2 as) fun os => ob ((bf (inner :: os)).map O.sh) fun r => ob (boB r) fun b => QT b (c2.set i (.own tp2.1 (tp2.2.set j inner))) := rfl
@[simp ↓] theorem s_tru {op : Opd} : vTru op E c QT = evOps [op] E c fun ts c1 => ob (shOps [op] c1 ts) fun ds => ob (ds.head?.bind truD) fun b => QT b c1 := rfl
@[simp ↓] theorem s_and : vAnd b1 b2 E c QT = b1 E c fun b c1 => brT b true b2 E c1 QT := by
  unfold vAnd brT
  congr 1
  funext b c1
  cases b <;> rfl
@[simp ↓] theorem s_or : vOr b1 b2 E c QT = b1 E c fun b c1 => brT b false b2 E c1 QT := by
  unfold vOr brT
  congr 1
  funext b c1
  cases b <;> rfl
@[simp ↓] theorem s_not : vNot b E c QT = b E c fun b c1 => QT (!b) c1 := rfl
@[simp ↓] theorem s_yes : vYes E c QT = QT true c := rfl
@[simp ↓] theorem s_test : vTest e E c QT = e E c fun o c1 => ob (boB o.sh) fun b => QT b c1 := rfl
@[simp ↓] theorem s_isB : vIsB e E c QT = e E c fun o c1 => ob (boB o.sh) fun b => QT b c1 := rfl
@[simp ↓] theorem s_bool : vBool b E c Q = b E c fun b c1 => Q (.fz (.bl b)) c1 := rfl
@[simp ↓] theorem s_andV : vAndV e1 e2 E c Q = e1 E c fun o c1 => ob (boB o.sh) fun b => brE b e2 (vC (.bl false)) E c1 Q := rfl
@[simp ↓] theorem s_orV : vOrV e1 e2 E c Q = e1 E c fun o c1 => ob (boB o.sh) fun b => brE b (vC (.bl true)) e2 E c1 Q := rfl
@[simp ↓] theorem s_notV : vNotV e E c Q = e E c fun o c1 => ob (boB o.sh) fun b => Q (.fz (.bl (!b))) c1 := rfl
@[simp ↓] theorem s_ife : vIf b e1 e2 E c Q = b E c fun d c1 => brE d e1 e2 E c1 Q := rfl
@[simp ↓] theorem s_chain {oa ob' oc : Opd} : vChain oa ob' oc bf bf' E c Q = evOps [oa, ob'] E c fun ts c1 => ob (opsO [oa, ob'] c1 ts) fun os => ob ((bf os).map O.sh) fun r => ob (boB r) fun b =>
  brP b (fun _ => ob ((os[1]?).bind fz1) fun d => evOps [oc] E c1 fun us c2 => ob (opsO [oc] c2 us) fun ps => ob (bf' (.fz d :: ps)) fun o => Q o c2) (fun _ => Q (.fz (.bl false)) c1) := rfl
@[simp ↓] theorem s_call {C : Con} {dv : List D} : vCall C dv ops E c Q = evOps ops E c fun ts c1 => ob (takeOps ops c1 ts) fun p => goC C (p.1 ++ dv.map O.fz) ops p.2 E Q := rfl
@[simp ↓] theorem s_tup : vTup ops E c Q = evOps ops E c fun os c1 => os.length ≤ sizeLine ∧ Q (mkT os) c1 := rfl
@[simp ↓] theorem s_lst : vLst ops E c Q = evOps ops E c fun os c1 => os.length ≤ sizeLine ∧ Q (.own .lst os) c1 := rfl
@[simp ↓] theorem s_disp {ks : List Key} : vDisp ks ops E c Q = evOps ops E c fun os c1 => Q (.own (.dK (putAll [] [] ks os).1) (putAll [] [] ks os).2) c1 := rfl
@[simp ↓] theorem s_sl {oa : Opd} {lo hi : Option Opd} : vSl oa lo hi E c Q = evOps [oa] E c fun ts c1 => evB lo E c1 fun l c2 => evB hi E c2 fun h c3 => ob (shOps [oa] c3 ts) fun ds => ob (ds.head?.bind fun d => cutR d l h) fun o => Q o c3 := rfl
@[simp ↓] theorem s_mth {mt : Mt} {recv : Opd} : vMth mt recv ops E c Q = evOps [recv] E c fun r c1 => ob (opsO [recv] c1 r) fun ro => ob ro.head? fun o => ob (tyO o.sh) fun T => ob (mt T) fun mf => evOps ops E c1 fun as c2 => afterM recv o as c2 mf Q := rfl
@[simp ↓] theorem s_afterS {as : List O} {mf : Mf} : afterM (.sl i) o as c mf Q = ob c[i]? fun o2 => isBad o2 = false ∧ ob (mf o2 as) fun p => Q p.2 (c.set i p.1) := rfl
@[simp ↓] theorem s_afterE {as : List O} {mf : Mf} : afterM (.ex e) o as c mf Q = ob (mf o as) fun p => Q p.2 c := rfl
/-- into a part -/
def diveQ (dv : Option (Tag × List O)) (c1 : Cf) (i j : Nat) (inner : O) (mf : Mf) (ops : List Opd) (E : XP) (Q : DK) : Prop := match dv with
    | some (t, ps) => ∀ w : V, evOps ops E (c1.set i (.own t (ps.set j (.fz (.val w))))) fun as c2 => ob c2[i]? fun o2 => ob (partsT o2) fun tp2 => o2 = .own tp2.1 tp2.2 ∧ tp2.1.mut = true ∧ tp2.2[j]? = some (.fz (.val w)) ∧ ob (mf inner as) fun r => Q r.2 (c2.set i (.own tp2.1 (tp2.2.set j r.1)))
    | none => ob (inner.tip |> fun d => if isBad (.fz d) = true then none else some d) fun d => evOps ops E c1 fun as c2 => ob (mf (.fz d) as) fun r => Q r.2 c2
def diveQS (dv : Option (Tag × List O)) (c1 : Cf) (i j : Nat) (inner : O) (mf : Mf) (ops : List Opd) (E : XP) (Q : DK) (_ : Lock (E, Q) := ⟨⟩) : Prop := diveQ dv c1 i j inner mf ops E Q
@[simp ↓] theorem diveQ_lock {dv : Option (Tag × List O)} {c1 : Cf} {i j : Nat} {inner : O} {mf : Mf} {ops : List Opd} {E : XP} {Q : DK} : diveQ dv c1 i j inner mf ops E Q = diveQS dv c1 i j inner mf ops E Q := (rfl)
@[simp ↓] theorem dive_some {tg : Tag} {ps : List O} {c1 : Cf} {j : Nat} {inner : O} {mf : Mf} : diveQS (some (tg, ps)) c1 i j inner mf ops E Q = ∀ w : V, evOps ops E (c1.set i (.own tg (ps.set j (.fz (.val w))))) fun as c2 => ob c2[i]? fun o2 => ob (partsT o2) fun tp2 => o2 = .own tp2.1 tp2.2 ∧ tp2.1.mut = true ∧ tp2.2[j]? = some (.fz (.val w)) ∧ ob (mf inner as) fun r => Q r.2 (c2.set i (.own tp2.1 (tp2.2.set j r.1))) := (rfl)
@[simp ↓] theorem dive_none {c1 : Cf} {j : Nat} {inner : O} {mf : Mf} : diveQS none c1 i j inner mf ops E Q = ob (inner.tip |> fun d => if isBad (.fz d) = true then none else some d) fun d => evOps ops E c1 fun as c2 => ob (mf (.fz d) as) fun r => Q r.2 c2 := (rfl)
@[simp ↓] theorem s_mthI {mt : Mt} {key : Opd} : vMthI mt i key ops E c Q = ob c[i]? fun o0 => isBad o0 = false ∧ evOps [key] E c fun ks c1 => ob c1[i]? fun o1 => isBad o1 = false ∧ ob (opsO [key] c1 ks) fun kl => ob kl.head? fun ko =>
  ob (partsT o1) fun tp => ob (ixD tp.1 tp.2.length ko.sh) fun j => ob tp.2[j]? fun inner => ob (tyO inner.sh) fun T => ob (mt T) fun mf => diveQ (divesIn o1 inner) c1 i j inner mf ops E Q := rfl
@[simp ↓] theorem s_lc {vs : List Nat} {itf : Itf} {g : DG} : vLc vs ops itf g b e E c Q = evOps ops E c fun ts c1 => ob (opsO ops c1 ts) fun dl => ob (itf dl) fun items =>
  vLcL vs (keepOps ops c1) g b e items [] (hide vs c1).1 fun acc c2 => Q (.own .lst acc) (restore vs (hide vs c1).2 c2) := rfl
@[simp ↓] theorem s_dc {vs : List Nat} {itf : Itf} {g : DG} : vDc vs ops itf g b e1 e2 E c Q = evOps ops E c fun ts c1 => ob (opsO ops c1 ts) fun dl => ob (itf dl) fun items =>
  vDcL vs (keepOps ops c1) g b e1 e2 items [] [] (hide vs c1).1 fun ks os c2 => Q (.own (.dK ks) os) (restore vs (hide vs c1).2 c2) := rfl
/-- a dict locked -/
def lockQ (o : O) (i : Nat) (t : DE) (E : XP) (c : Cf) (Q : DK) : Prop := match o with
  | .own (.dK ks) os => ∀ (od : Obj) (vs : List V), t (fun _ _ _ => False) (c.set i (.own (.lkK od vs ks) os)) fun r c' => c'[i]? = some (.own (.lkK od vs ks) os) ∧ Q r (c'.set i (.own (.dK ks) os))
  | .own (.dT ks) os => ∀ (od : Obj) (vs : List V), t (fun _ _ _ => False) (c.set i (.own (.lkT od vs ks) os)) fun r c' => c'[i]? = some (.own (.lkT od vs ks) os) ∧ Q r (c'.set i (.own (.dT ks) os))
  | _ => t E c Q
def lockQS (o : O) (i : Nat) (t : DE) (E : XP) (c : Cf) (Q : DK) (_ : Lock (t, E, Q) := ⟨⟩) : Prop := lockQ o i t E c Q
@[simp ↓] theorem lockQ_lock {o : O} {i : Nat} {t : DE} {E : XP} {c : Cf} {Q : DK} : lockQ o i t E c Q = lockQS o i t E c Q := (rfl)
@[simp ↓] theorem lockQ_dK {ks : List Key} {t : DE} : lockQS (.own (.dK ks) os) i t E c Q = ∀ (od : Obj) (vs : List V), t (fun _ _ _ => False) (c.set i (.own (.lkK od vs ks) os)) fun r c' => c'[i]? = some (.own (.lkK od vs ks) os) ∧ Q r (c'.set i (.own (.dK ks) os)) := (rfl)
@[simp ↓] theorem lockQ_dT {ks : List (List Key)} {t : DE} : lockQS (.own (.dT ks) os) i t E c Q = ∀ (od : Obj) (vs : List V), t (fun _ _ _ => False) (c.set i (.own (.lkT od vs ks) os)) fun r c' => c'[i]? = some (.own (.lkT od vs ks) os) ∧ Q r (c'.set i (.own (.dT ks) os)) := (rfl)
@[simp ↓] theorem lockQ_fz {t : DE} : lockQS (.fz d) i t E c Q = t E c Q := (rfl)
@[simp ↓] theorem s_lockE {t : DE} : vLockE i t E c Q = ob c[i]? fun o => lockQ o i t E c Q := rfl
def dispTQ (os : List O) (c1 : Cf) (Q : DK) : Prop := match os with
  | [ko, vo] => ob (tkeyOf ko.sh) fun kk => Q (.own (.dT [kk]) [vo]) c1
  | _ => False
@[simp ↓] theorem dispTQ_2 {ko vo : O} : dispTQ [ko, vo] c Q = ob (tkeyOf ko.sh) fun kk => Q (.own (.dT [kk]) [vo]) c := (rfl)
@[simp ↓] theorem s_dispT {oa ob' : Opd} : vDispT oa ob' E c Q = evOps [oa, ob'] E c fun os c1 => dispTQ os c1 Q := rfl
@[simp ↓] theorem s_tupS {l : List (Bool × DE)} : vTupS l E c Q = evSt l E c fun ds c1 => ds.length ≤ sizeLine ∧ Q (.fz (.nd .tup ds)) c1 := rfl
@[simp ↓] theorem s_lstS {l : List (Bool × DE)} : vLstS l E c Q = evSt l E c fun ds c1 => ds.length ≤ sizeLine ∧ Q (.own .lst (ds.map .fz)) c1 := rfl
@[simp ↓] theorem st_nil {k : List D → Cf → Prop} : evSt [] E c k = k [] c := rfl
@[simp ↓] theorem st_t {l : List (Bool × DE)} {k : List D → Cf → Prop} : evSt ((true, e) :: l) E c k = e E c fun o c1 => ob (fz1 o) fun d => ob (seqOf d) fun xs => evSt l E c1 fun ds c2 => k (xs ++ ds) c2 := rfl
@[simp ↓] theorem st_f {l : List (Bool × DE)} {k : List D → Cf → Prop} : evSt ((false, e) :: l) E c k = e E c fun o c1 => ob (fz1 o) fun d => evSt l E c1 fun ds c2 => k (d :: ds) c2 := rfl
@[simp] theorem fz1_fz : fz1 (.fz d) = some d := rfl
@[simp] theorem seqOf_lst {ds : List D} : seqOf (.nd .lst ds) = some ds := rfl
@[simp] theorem seqOf_tup {ds : List D} : seqOf (.nd .tup ds) = some ds := rfl
@[simp] theorem tkey_tup {ds : List D} : tkeyOf (.nd .tup ds) = keysOf ds := rfl
@[simp] theorem keysOf_nil : keysOf [] = some [] := rfl
@[simp] theorem keysOf_cons {ds : List D} : keysOf (d :: ds) = (keyOf d).bind fun k => (keysOf ds).map (k :: ·) := rfl
@[simp] theorem keyOf_int {z : Int} : keyOf (.int z) = some (.inl z) := rfl
@[simp] theorem keyOf_str {z : Str} : keyOf (.str z) = some (.inr z) := rfl
-- operands
@[simp ↓] theorem ev_nil : evOps [] E c KO = KO [] c := rfl
@[simp ↓] theorem ev_sl : evOps (.sl i :: ops) E c KO = ob c[i]? fun o => isBad o = false ∧ evOps ops E c KO := rfl
@[simp ↓] theorem ev_ex : evOps (.ex e :: ops) E c KO = e E c fun o c1 => evOps ops E c1 fun os c2 => KO (o :: os) c2 := rfl
@[simp] theorem op_nil {ts : List O} : opsO [] c ts = some [] := rfl
@[simp] theorem op_sl {ts : List O} : opsO (.sl i :: ops) c ts = c[i]?.bind fun o => (opsO ops c ts).map (o :: ·) := rfl
@[simp] theorem op_ex {ts : List O} : opsO (.ex e :: ops) c (o :: ts) = (opsO ops c ts).map (o :: ·) := rfl
@[simp] theorem sh_ops {ts : List O} : shOps ops c ts = (opsO ops c ts).map (·.map O.sh) := rfl
@[simp ↓] theorem evB_none {k : Option Int → Cf → Prop} : evB none E c k = k none c := rfl
@[simp ↓] theorem evB_some {op : Opd} {k : Option Int → Cf → Prop} : evB (some op) E c k = evOps [op] E c fun t c1 => ob ((shOps [op] c1 t).bind int1) fun i => k (some i) c1 := rfl
@[simp] theorem int1_int {z : Int} : int1 [.int z] = some z := rfl
@[simp] theorem tk_nil {ts : List O} : takeOps [] c ts = some ([], c) := rfl
@[simp] theorem tk_ex {ts : List O} : takeOps (.ex e :: ops) c (o :: ts) = (takeOps ops c ts).map fun p => (o :: p.1, p.2) := rfl
def tkO (x : Option O) (i : Nat) (ops : List Opd) (c : Cf) (ts : List O) : Option (List O × Cf) := match x with
    | some (.fz d) => if isBad (.fz d) then none else (takeOps ops c ts).map fun p => (.fz d :: p.1, p.2)
    | some (.own t os) => (takeOps ops (c.set i O.bad) ts).map fun p => (.own t os :: p.1, p.2)
    | none => none
@[simp] theorem tk_sl {ts : List O} : takeOps (.sl i :: ops) c ts = tkO c[i]? i ops c ts := rfl
@[simp] theorem tkO_fz {ts : List O} : tkO (some (.fz d)) i ops c ts = if isBad (.fz d) then none else (takeOps ops c ts).map fun p => (.fz d :: p.1, p.2) := rfl
@[simp] theorem tkO_own {ts : List O} {tg : Tag} : tkO (some (.own tg os)) i ops c ts = (takeOps ops (c.set i O.bad) ts).map fun p => (.own tg os :: p.1, p.2) := rfl
@[simp] theorem pt_nil : putOps [] c os = c := rfl
@[simp] theorem pt_ex : putOps (.ex e :: ops) c (o :: os) = putOps ops c os := rfl
def ptO (x : Option O) (i : Nat) (ops : List Opd) (c : Cf) (o : O) (os : List O) : Cf := match x with
    | some (.fz .bad) => putOps ops (c.set i o) os
    | _ => putOps ops c os
@[simp] theorem pt_sl : putOps (.sl i :: ops) c (o :: os) = ptO c[i]? i ops c o os := by
  unfold putOps ptO
  rfl
@[simp] theorem ptO_bad : ptO (some (.fz .bad)) i ops c o os = putOps ops (c.set i o) os := rfl
@[simp] theorem ptO_own {tg : Tag} {ps : List O} : ptO (some (.own tg ps)) i ops c o os = putOps ops c os := rfl
@[simp] theorem ptO_int {z : Int} : ptO (some (.fz (.int z))) i ops c o os = putOps ops c os := rfl
@[simp] theorem ptO_str {z : Str} : ptO (some (.fz (.str z))) i ops c o os = putOps ops c os := rfl
@[simp] theorem ptO_bl {z : Bool} : ptO (some (.fz (.bl z))) i ops c o os = putOps ops c os := rfl
@[simp] theorem ptO_non : ptO (some (.fz .non)) i ops c o os = putOps ops c os := rfl
@[simp] theorem ptO_nd {tg : Tag} {ds : List D} : ptO (some (.fz (.nd tg ds))) i ops c o os = putOps ops c os := rfl
-- targets
@[simp ↓] theorem g_n : gN i o c KC = KC (c.set i o) := rfl
@[simp ↓] theorem g_nil : gsNil [] c KC = KC c := by simp [gsNil]
@[simp ↓] theorem g_cons {g : DG} {r : DGs} : gsCons g r (o :: os) c KC = g o c fun c1 => r os c1 KC := rfl
@[simp ↓] theorem g_tupF {r : DGs} {ds : List D} : gT n r (.fz (.nd .tup ds)) c KC = (ds.length = n ∧ r (ds.map O.fz) c KC) := rfl
@[simp ↓] theorem g_tupO {r : DGs} : gT n r (.own .tup os) c KC = (os.length = n ∧ r os c KC) := rfl
@[simp ↓] theorem g_lstF {r : DGs} {ds : List D} : gT n r (.fz (.nd .lst ds)) c KC = (ds.length = n ∧ r (ds.map O.fz) c KC) := rfl
@[simp ↓] theorem g_lstO {r : DGs} : gT n r (.own .lst os) c KC = (os.length = n ∧ r os c KC) := rfl
@[simp ↓] theorem g_sub {key : Opd} : gSubD i key o c KC = ob c[i]? fun o0 => isBad o0 = false ∧ evOps [key] noX c fun ks c1 => ob c1[i]? fun o1 => ob (opsO [key] c1 ks) fun kl => ob kl.head? fun ko => ob (stO o1 ko.sh o) fun o2 => isBad o1 = false ∧ KC (c1.set i o2) := rfl
-- data
@[simp] theorem bad_int {z : Int} : isBad (.fz (.int z)) = false := rfl
@[simp] theorem bad_str {z : Str} : isBad (.fz (.str z)) = false := rfl
@[simp] theorem bad_bl {z : Bool} : isBad (.fz (.bl z)) = false := rfl
@[simp] theorem bad_non : isBad (.fz .non) = false := rfl
@[simp] theorem bad_nd {tg : Tag} {ds : List D} : isBad (.fz (.nd tg ds)) = false := rfl
@[simp] theorem bad_val {v : V} : isBad (.fz (.val v)) = false := rfl
@[simp] theorem bad_own {tg : Tag} : isBad (.own tg os) = false := rfl
@[simp] theorem view_fz : (O.fz d).view = d := rfl
@[simp] theorem view_own {tg : Tag} : (O.own tg os).view = .nd tg (O.views os) := rfl
@[simp] theorem views_nil : O.views [] = [] := rfl
@[simp] theorem views_cons : O.views (o :: os) = o.view :: O.views os := rfl
@[simp] theorem views_map {α : Type} {f : α → D} {l : List α} : O.views (l.map fun a => .fz (f a)) = l.map f := by
  induction l with
  | nil => rfl
  | cons a l ih => simp [ih]
@[simp] theorem views_fzs {ds : List D} : O.views (ds.map O.fz) = ds := O.views_fz ds
@[simp] theorem views_app {as bs : List O} : O.views (as ++ bs) = O.views as ++ O.views bs := by simp [O.views_eq]
@[simp] theorem sh_fz : (O.fz d).sh = d := rfl
@[simp] theorem sh_own {tg : Tag} : (O.own tg os).sh = .nd tg (os.map O.tip) := rfl
@[simp] theorem tip_fz : (O.fz d).tip = d := rfl
@[simp] theorem tip_own {tg : Tag} : (O.own tg os).tip = .bad := rfl
@[simp] theorem tips_fz {ds : List D} : (ds.map O.fz).map O.tip = ds := O.tip_fzs ds
@[simp] theorem tip_fz' : O.tip ∘ O.fz = id := rfl
@[simp] theorem sh_fz' : O.sh ∘ O.fz = id := rfl
@[simp] theorem bfD_eq {f : Bf} : bfD f os = f (os.map O.sh) := rfl
@[simp] theorem boB_bl {z : Bool} : boB (.bl z) = some z := rfl
@[simp] theorem mkT_eq {ds : List D} : mkT (ds.map .fz) = .fz (.nd .tup ds) := by unfold mkT; rw [unfzs_map]
@[simp] theorem unfzs_n : unfzs [] = some [] := rfl
@[simp] theorem unfzs_f : unfzs (.fz d :: os) = (unfzs os).map (d :: ·) := rfl
@[simp] theorem unfzs_o {tg : Tag} {ps : List O} : unfzs (.own tg ps :: os) = none := rfl
@[simp] theorem truD_bl {z : Bool} : truD (.bl z) = some z := rfl
@[simp] theorem truD_int {z : Int} : truD (.int z) = some (z != 0) := rfl
@[simp] theorem setAll_c {is : List Nat} : setAll c (i :: is) (o :: os) = setAll (c.set i o) is os := rfl
@[simp] theorem setAll_n : setAll c [] os = c := by cases os <;> rfl
@[simp] theorem tyO_str {z : Str} : tyO (.str z) = some "str" := rfl
@[simp] theorem tyO_lst {ds : List D} : tyO (.nd .lst ds) = some "list" := rfl
@[simp] theorem tyO_scr {ds : List D} {o : Obj} : tyO (.nd (.scr o) ds) = some "list" := rfl
@[simp] theorem tyO_dK {ds : List D} {ks : List Key} : tyO (.nd (.dK ks) ds) = some "dict" := rfl
@[simp] theorem hide_n : hide [] c = (c, []) := rfl
@[simp] theorem hide_c {is : List Nat} : hide (i :: is) c = ((hide is c).1.set i O.bad, ((hide is c).1.getD i O.bad) :: (hide is c).2) := rfl
@[simp] theorem restore_n : restore [] os c = c := by cases os <;> rfl
@[simp] theorem restore_c {is : List Nat} : restore (i :: is) (o :: os) c = restore is os (c.set i o) := rfl
@[simp] theorem drop_n : dropAll [] c = c := rfl
@[simp] theorem drop_c {is : List Nat} : dropAll (i :: is) c = (dropAll is c).set i O.bad := rfl
end
-- data functions
@[simp] theorem add_int {i j : Int} : bfAdd [.int i, .int j] = some (.fz (.int (i + j))) := rfl
@[simp] theorem lt_int {i j : Int} : bfLt [.int i, .int j] = some (.fz (.bl (decide (i < j)))) := rfl
@[simp] theorem le_int {i j : Int} : bfLe [.int i, .int j] = some (.fz (.bl (decide (i ≤ j)))) := rfl
@[simp] theorem gt_int {i j : Int} : bfGt [.int i, .int j] = some (.fz (.bl (decide (j < i)))) := rfl
@[simp] theorem ge_int {i j : Int} : bfGe [.int i, .int j] = some (.fz (.bl (decide (j ≤ i)))) := rfl
@[simp] theorem ii_tt {g : Int → Int → D} {i j : Int} : bfII tt2 g [.int i, .int j] = some (.fz (g i j)) := rfl
theorem ii_of {C : Int → Int → Bool} {g : Int → Int → D} {i j : Int} (h : C i j = true) : bfII C g [.int i, .int j] = some (.fz (g i j)) := by simp [bfII, h]
@[simp] theorem mod_of {g : Int → Int → D} {i j : Int} (h : j ≠ 0) : bfII modC g [.int i, .int j] = some (.fz (g i j)) := ii_of (by simp [modC, h])
@[simp] theorem div_of {g : Int → Int → D} {i j : Int} (h : j ≠ 0) (h2 : j.natAbs < 1073741824) : bfII divC g [.int i, .int j] = some (.fz (g i j)) := ii_of (by simp [divC, h, h2])
@[simp] theorem neg_int {i : Int} : bfNeg [.int i] = some (.fz (.int (-i))) := rfl
@[simp] theorem abs_int {i : Int} : bfAbs [.int i] = some (.fz (.int (if i < 0 then -i else i))) := rfl
@[simp] theorem max_int {i j : Int} : bfMax [.int i, .int j] = some (.fz (.int (if j > i then j else i))) := rfl
@[simp] theorem min_int {i j : Int} : bfMin [.int i, .int j] = some (.fz (.int (if j < i then j else i))) := rfl
@[simp] theorem int_int {i : Int} : bfInt [.int i] = some (.fz (.int i)) := rfl
theorem mul_of {i j : Int} (h : mulC i j = true) : bfMul [.int i, .int j] = some (.fz (.int (i * j))) := by
  unfold bfMul orB
  rw [ii_of h]
@[simp] theorem mul_l {i j : Int} (h1 : -18446744073709551616 < i) (h2 : i < 18446744073709551616) : bfMul [.int i, .int j] = some (.fz (.int (i * j))) := mul_of (by simp [mulC, smallB_iff]; omega)
@[simp] theorem mul_r {i j : Int} (h1 : -18446744073709551616 < j) (h2 : j < 18446744073709551616) : bfMul [.int i, .int j] = some (.fz (.int (i * j))) := mul_of (by simp [mulC, smallB_iff]; omega)
@[simp] theorem len_lst {ds : List D} : bfLen [.nd .lst ds] = some (.fz (.int ds.length)) := rfl
@[simp] theorem len_scr {ds : List D} {o : Obj} : bfLen [.nd (.scr o) ds] = some (.fz (.int ds.length)) := rfl
@[simp] theorem len_tup {ds : List D} : bfLen [.nd .tup ds] = some (.fz (.int ds.length)) := rfl
@[simp] theorem len_dK {ds : List D} {ks : List Key} : bfLen [.nd (.dK ks) ds] = some (.fz (.int ds.length)) := rfl
theorem eq_own {os : List O} {b : O} : bfEq [.own .lst os, b] = bfEqN id [.own .lst os, b] := rfl
@[simp] theorem eq_int {i j : Int} : bfEq [.fz (.int i), .fz (.int j)] = some (.fz (.bl (decide (i = j)))) := by
  have e : ∀ z : Int, shPD (.int z) = some (.int z) := fun z => rfl
  have e0 : bfEq [.fz (.int i), .fz (.int j)] = bfEqN id [.fz (.int i), .fz (.int j)] := rfl
  rw [e0]
  simp [bfEqN, e, PyData.eqv]
  rw [Bool.eq_iff_iff]; simp
@[simp] theorem ne_int {i j : Int} : bfNe [.fz (.int i), .fz (.int j)] = some (.fz (.bl (!decide (i = j)))) := by
  have e : ∀ z : Int, shPD (.int z) = some (.int z) := fun z => rfl
  simp [bfNe, bfEqN, e, PyData.eqv]
  rw [show (i == j) = decide (i = j) by rw [Bool.eq_iff_iff]; simp]
@[simp] theorem ix_lst {ds : List D} {i : Int} : bfIx [.nd .lst ds, .int i] = (atI ds i).map .fz := rfl
@[simp] theorem ix_tup {ds : List D} {i : Int} : bfIx [.nd .tup ds, .int i] = (atI ds i).map .fz := rfl
@[simp] theorem ix_dK {ks : List Key} {ds : List D} {x : Str} : bfIx [.nd (.dK ks) ds, .str x] = (getK (ks.zip ds) (.inr x)).bind fun r => some (.fz r) := by
  simp [bfIx, dlook, keyOf]
  cases getK (ks.zip ds) (.inr x) <;> rfl
@[simp] theorem ix_dKi {ks : List Key} {ds : List D} {x : Int} : bfIx [.nd (.dK ks) ds, .int x] = (getK (ks.zip ds) (.inl x)).bind fun r => some (.fz r) := by
  simp [bfIx, dlook, keyOf]
  cases getK (ks.zip ds) (.inl x) <;> rfl
@[simp] theorem rev_lst {ds : List D} : bfRev [.nd .lst ds] = some (.own .lst (ds.reverse.map .fz)) := rfl
@[simp] theorem rev_tup {ds : List D} : bfRev [.nd .tup ds] = some (.fz (.nd .tup ds.reverse)) := rfl
@[simp] theorem tup_lst {ds : List D} : bfTup [.nd .lst ds] = some (.fz (.nd .tup ds)) := rfl
@[simp] theorem tup_tup {ds : List D} : bfTup [.nd .tup ds] = some (.fz (.nd .tup ds)) := rfl
@[simp] theorem it_lst {ds : List D} : itAny [.fz (.nd .lst ds)] = some ds := rfl
@[simp] theorem it_tup {ds : List D} : itAny [.fz (.nd .tup ds)] = some ds := rfl
@[simp] theorem it_scr {ds : List D} {o : Obj} : itAny [.fz (.nd (.scr o) ds)] = some ds := rfl
@[simp] theorem it_lkK {os : List O} {ks : List Key} {od : Obj} {vs : List V} : itAny [.own (.lkK od vs ks) os] = some (ks.map keyD) := rfl
@[simp] theorem it_lkT {os : List O} {ks : List (List Key)} {od : Obj} {vs : List V} : itAny [.own (.lkT od vs ks) os] = some (ks.map fun k => .nd .tup (k.map keyD)) := rfl
@[simp] theorem it_dT {ds : List D} {ks : List (List Key)} : itAny [.fz (.nd (.dT ks) ds)] = some (ks.map fun k => .nd .tup (k.map keyD)) := rfl
@[simp] theorem it_dK {ds : List D} {ks : List Key} : itAny [.fz (.nd (.dK ks) ds)] = some (ks.map keyD) := rfl
@[simp] theorem rng1 {j : Int} (h1 : -4611686018427387904 < j) (h2 : j < 4611686018427387904) : itRng1 [.fz (.int j)] = some (rngD 0 j.toNat 1) := by
  have : smallI j = true := by
    unfold smallI
    rw [smallB_iff]
    omega
  simp [itRng1, this]
theorem rng1n {j : Nat} (h : j < 4611686018427387904) : itRng1 [.fz (.int j)] = some (rngD 0 j 1) := by
  have := rng1 (j := (j : Int)) (by omega) (by omega)
  rw [Int.toNat_natCast] at this
  exact this
@[simp] theorem append_m' : methOf "append" "list" = some mfAppend := rfl
@[simp] theorem pop_m' : methOf "pop" "list" = some mfPop := rfl
@[simp] theorem index_m' : methOf "index" "list" = some (mfP bfIndex) := rfl
@[simp] theorem join_m' : methOf "join" "str" = some (mfP (bfD bfJoin)) := rfl
@[simp] theorem mfP_eq {f : BfO} {o : O} {as : List O} : mfP f o as = (f (o :: as)).map fun r => (o, r) := rfl
theorem append_of {os : List O} {y : O} (h : os.length < sizeLine) : mfAppend (.own .lst os) [y] = some (.own .lst (os ++ [y]), .fz .non) := by simp [mfAppend, h]
@[simp] theorem pop_0 {os : List O} {y : O} : mfPop (.own .lst (y :: os)) [.fz (.int 0)] = some (.own .lst os, y) := by
  simp [mfPop, orM, mfPop0, mfPop1, ixN]
@[simp] theorem ixD_dK {ks : List Key} {n : Nat} {x : Str} : ixD (.dK ks) n (.str x) = ks.findIdx? fun j => decide (j = .inr x) := rfl
@[simp] theorem parts_own {t : Tag} {ps : List O} : partsT (.own t ps) = some (t, ps) := rfl
@[simp] theorem parts_fz {t : Tag} {ds : List D} : partsT (.fz (.nd t ds)) = some (t, ds.map .fz) := rfl
@[simp] theorem dives_oo {t t' : Tag} {ps qs : List O} : divesIn (.own t ps) (.own t' qs) = if t.mut = true then some (t, ps) else none := rfl
@[simp] theorem dives_of {t : Tag} {ps : List O} {d : D} : divesIn (.own t ps) (.fz d) = none := rfl
@[simp] theorem dives_f {d : D} {o : O} : divesIn (.fz d) o = none := by cases o <;> rfl
@[simp] theorem mut_dK {ks : List Key} : (Tag.dK ks).mut = true := rfl
@[simp] theorem mut_lst : Tag.lst.mut = true := rfl
@[simp] theorem stO_dK {ks : List Key} {os : List O} {x : Str} {v : O} : stO (.own (.dK ks) os) (.str x) v = if os.length < sizeLine then some (putO .dK ks os (.inr x) v) else none := rfl
@[simp] theorem stO_dT {ks : List (List Key)} {os : List O} {d : D} {v : O} : stO (.own (.dT ks) os) d v = (tkeyOf d).bind fun k => if os.length < sizeLine then some (putO .dT ks os k v) else none := rfl
@[simp] theorem mut_dT {ks : List (List Key)} : (Tag.dT ks).mut = true := rfl
@[simp] theorem len_dT {ds : List D} {ks : List (List Key)} : bfLen [.nd (.dT ks) ds] = some (.fz (.int ds.length)) := rfl
@[simp] theorem stO_dKi {ks : List Key} {os : List O} {x : Int} {v : O} : stO (.own (.dK ks) os) (.int x) v = if os.length < sizeLine then some (putO .dK ks os (.inl x) v) else none := rfl
@[simp] theorem allS {bs : List Bool} : bfAll (·.all id) [.nd .lst (bs.map D.bl)] = some (.fz (.bl (bs.all id))) := by
  have : blsD (bs.map D.bl) = some bs := by
    induction bs with
    | nil => rfl
    | cons b bs ih => simp [blsD, ih]
  simp [bfAll, lstOf, this]
/-- the item at its place -/
theorem atI_of {ds : List D} {i : Nat} (h : i < ds.length) : atI ds (i : Int) = some ds[i] := by
  unfold atI ixN
  rw [if_pos (by omega), if_pos (by omega)]
  simp
@[simp] theorem map_int_inj {a b : List Int} : (a.map D.int = b.map D.int) ↔ a = b := ⟨fun h => (List.map_inj_right (fun x y e => by cases e; rfl)).mp h, fun h => by rw [h]⟩
@[simp] theorem map_str_inj {a b : List Str} : (a.map D.str = b.map D.str) ↔ a = b := ⟨fun h => (List.map_inj_right (fun x y e => by cases e; rfl)).mp h, fun h => by rw [h]⟩
@[simp] theorem map_fint_inj {a b : List Int} : ((a.map fun z => O.fz (.int z)) = b.map fun z => O.fz (.int z)) ↔ a = b := ⟨fun h => (List.map_inj_right (fun x y e => by cases e; rfl)).mp h, fun h => by rw [h]⟩
@[simp] theorem map_fstr_inj {a b : List Str} : ((a.map fun z => O.fz (.str z)) = b.map fun z => O.fz (.str z)) ↔ a = b := ⟨fun h => (List.map_inj_right (fun x y e => by cases e; rfl)).mp h, fun h => by rw [h]⟩
@[simp] theorem map_fz_inj {a b : List D} : (a.map O.fz = b.map O.fz) ↔ a = b := ⟨fun h => (List.map_inj_right (fun x y e => by cases e; rfl)).mp h, fun h => by rw [h]⟩
@[simp] theorem and_asc {a b c : Prop} : ((a ∧ b) ∧ c) ↔ (a ∧ b ∧ c) := and_assoc
/-! equality of lists of ints, of texts -/
theorem toPDs_ints : ∀ l : List Int, toPDs (l.map D.int) = some (l.map PyData.int)
  | [] => rfl
  | z :: l => by simp [toPDs, toPD, toPDs_ints l]
theorem toPDs_strs : ∀ l : List Str, toPDs (l.map D.str) = some (l.map PyData.str)
  | [] => rfl
  | z :: l => by simp [toPDs, toPD, toPDs_strs l]
/-! texts that are written down -/
theorem chars_inj : ∀ {a b : List Char}, a.map Char.toNat = b.map Char.toNat → a = b
  | [], [], _ => rfl
  | [], _ :: _, h => by cases h
  | _ :: _, [], h => by cases h
  | x :: a, y :: b, h => by
    simp only [List.map_cons, List.cons.injEq] at h
    rw [chars_inj h.2, Char.ext (UInt32.toNat_inj.mp h.1)]
@[simp] theorem ofString_inj {a b : String} : (Str.ofString a = Str.ofString b) ↔ a = b := by
  refine ⟨fun h => ?_, fun h => by rw [h]⟩
  rw [Str.ofString_eq_toList, Str.ofString_eq_toList] at h
  have h' : (a.toList.map Char.toNat).toArray = (b.toList.map Char.toNat).toArray := congrArg Str.cps h
  have := chars_inj (List.toArray_inj h')
  exact String.toList_inj.mp this
@[simp] theorem getK_nil {κ α : Type} [DecidableEq κ] {k : κ} : getK ([] : List (κ × α)) k = none := rfl
@[simp] theorem getK_cons {κ α : Type} [DecidableEq κ] {j k : κ} {x : α} {r : List (κ × α)} : getK ((j, x) :: r) k = if j = k then some x else getK r k := by
  unfold getK
  rw [List.find?_cons]
  by_cases h : j = k <;> simp [h]
@[simp] theorem hasK_nil {κ : Type} [DecidableEq κ] {k : κ} : hasK [] k = false := rfl
@[simp] theorem hasK_cons {κ : Type} [DecidableEq κ] {j k : κ} {r : List κ} : hasK (j :: r) k = (decide (j = k) || hasK r k) := rfl
@[simp] theorem setKs_nil {κ α : Type} [DecidableEq κ] {k : κ} {v : α} : setKs [] [] k v = [] := rfl
@[simp] theorem setKs_cons {κ α : Type} [DecidableEq κ] {j k : κ} {r : List κ} {x : α} {xs : List α} {v : α} : setKs (j :: r) (x :: xs) k v = (if j = k then v else x) :: setKs r xs k v := rfl
@[simp] theorem putO_eq {κ : Type} [DecidableEq κ] {tg : List κ → Tag} {ks : List κ} {os : List O} {k : κ} {v : O} : putO tg ks os k v = if hasK ks k = true then .own (tg ks) (setKs ks os k (.fz v.view)) else .own (tg (ks ++ [k])) (os ++ [v]) := rfl
@[simp] theorem putAll_n {ks : List Key} {os vs : List O} : putAll ks os [] vs = (ks, os) := rfl
@[simp] theorem putAll_c {ks r : List Key} {os vs : List O} {k : Key} {v : O} : putAll ks os (k :: r) (v :: vs) = putAll (putP ks os k v).1 (putP ks os k v).2 r vs := rfl
@[simp] theorem putP_eq {κ : Type} [DecidableEq κ] {ks : List κ} {os : List O} {k : κ} {v : O} : putP ks os k v = if hasK ks k = true then (ks, setKs ks os k (.fz v.view)) else (ks ++ [k], os ++ [v]) := rfl
@[simp] theorem size1 {n : Nat} : (n < sizeLine) = (n < 16777216) := rfl
@[simp] theorem size2 {n : Nat} : (n ≤ sizeLine) = (n ≤ 16777216) := rfl
/-! loops -/
theorem forL_list {kp : Cf → Prop} {g : DG} {body : DS} {Z : En} (mg : MonoG g) (mb : MonoS body) (J : List D → Cf → Prop) (ht : ∀ d ds c, J (d :: ds) c → kp c ∧ g (.fz d) c fun c1 => body { Z with nx := J ds, ct := J ds, bk := Z.nx } c1) (he : ∀ c, J [] c → kp c ∧ Z.nx c) :
    ∀ (items : List D) (c : Cf), J items c → vForL kp g body items Z c
  | [], c, h => he c h
  | d :: ds, c, h => ⟨(ht d ds c h).1, mg _ _ _ _ (fun c1 q => mb { Z with nx := J ds, ct := J ds, bk := Z.nx } { Z with nx := vForL kp g body ds Z, ct := vForL kp g body ds Z, bk := Z.nx } c1 (fun c2 z => forL_list mg mb J ht he ds c2 z) (fun _ _ z => z) (fun _ z => z) (fun c2 z => forL_list mg mb J ht he ds c2 z) (fun _ _ _ z => z) q) (ht d ds c h).2⟩
/-- by the number of turns -/
theorem forL_nat {kp : Cf → Prop} {g : DG} {body : DS} {Z : En} (mg : MonoG g) (mb : MonoS body) (items : List D) (I : Nat → Cf → Prop) {c : Cf} (h0 : I 0 c)
    (ht : ∀ (i : Nat) (d : D) (c : Cf), items[i]? = some d → I i c → kp c ∧ g (.fz d) c fun c1 => body { Z with nx := I (i + 1), ct := I (i + 1), bk := Z.nx } c1) (he : ∀ c, I items.length c → kp c ∧ Z.nx c) : vForL kp g body items Z c := by
  have J : ∀ (l : List D) (n : Nat), items.drop n = l → n ≤ items.length → ∀ c, I n c → vForL kp g body l Z c := by
    intro l
    induction l with
    | nil =>
      intro n hn hle c hc
      have : items.length ≤ n := List.drop_eq_nil_iff.mp hn
      obtain rfl : n = items.length := by omega
      exact he c hc
    | cons d l ih =>
      intro n hn hle c hc
      have hl : n < items.length := by
        by_cases z : n < items.length
        · exact z
        · rw [List.drop_eq_nil_of_le (by omega)] at hn; cases hn
      rw [List.drop_eq_getElem_cons hl] at hn
      obtain ⟨rfl, rfl⟩ := List.cons.inj hn
      obtain ⟨q1, q2⟩ := ht n _ c (List.getElem?_eq_getElem hl) hc
      have nx := ih (n + 1) rfl hl
      exact ⟨q1, mg _ _ _ _ (fun c1 q => mb { Z with nx := I (n + 1), ct := I (n + 1), bk := Z.nx } { Z with nx := vForL kp g body _ Z, ct := vForL kp g body _ Z, bk := Z.nx } c1 nx (fun _ _ z => z) (fun _ z => z) nx (fun _ _ _ z => z) q) q2⟩
  exact J items 0 rfl (Nat.zero_le _) c h0
theorem lcL_list {vs : List Nat} {kp : Cf → Prop} {g : DG} {tt : DT} {te : DE} {k : List O → Cf → Prop} (mg : MonoG g) (mt : MonoT tt) (me : Mono te) (J : List D → List O → Cf → Prop)
    (ht : ∀ d ds acc c, J (d :: ds) acc c → kp c ∧ g (.fz d) c fun c1 => tt noX c1 fun b c2 => brP b (fun _ => te noX c2 fun o c3 => acc.length < sizeLine ∧ J ds (acc ++ [o]) (dropAll vs c3)) (fun _ => J ds acc (dropAll vs c2))) (he : ∀ acc c, J [] acc c → kp c ∧ k acc c) :
    ∀ (items : List D) (acc : List O) (c : Cf), J items acc c → vLcL vs kp g tt te items acc c k
  | [], acc, c, h => he acc c h
  | d :: ds, acc, c, h => ⟨(ht d ds acc c h).1, mg _ _ _ _ (fun c1 q => mt _ _ _ _ _ (fun _ _ _ z => z) (fun b c2 q => by
      cases b with
      | true => exact me _ _ _ _ _ (fun _ _ _ z => z) (fun o c3 q => ⟨q.1, lcL_list mg mt me J ht he ds _ _ q.2⟩) q
      | false => exact lcL_list mg mt me J ht he ds _ _ q) q) (ht d ds acc c h).2⟩
theorem dcL_list {vs : List Nat} {kp : Cf → Prop} {g : DG} {tt : DT} {tk tv : DE} {k : List Key → List O → Cf → Prop} (mg : MonoG g) (mt : MonoT tt) (mk : Mono tk) (mv : Mono tv) (J : List D → List Key → List O → Cf → Prop)
    (ht : ∀ d ds ks acc c, J (d :: ds) ks acc c → kp c ∧ g (.fz d) c fun c1 => tt noX c1 fun b c2 => brP b (fun _ => tk noX c2 fun ko c3 => tv noX c3 fun vo c4 => ob (keyOf ko.sh) fun kk => acc.length < sizeLine ∧ J ds (putP ks acc kk vo).1 (putP ks acc kk vo).2 (dropAll vs c4)) (fun _ => J ds ks acc (dropAll vs c2))) (he : ∀ ks acc c, J [] ks acc c → kp c ∧ k ks acc c) :
    ∀ (items : List D) (ks : List Key) (acc : List O) (c : Cf), J items ks acc c → vDcL vs kp g tt tk tv items ks acc c k
  | [], ks, acc, c, h => he ks acc c h
  | d :: ds, ks, acc, c, h => ⟨(ht d ds ks acc c h).1, mg _ _ _ _ (fun c1 q => mt _ _ _ _ _ (fun _ _ _ z => z) (fun b c2 q => by
      cases b with
      | true => exact mk _ _ _ _ _ (fun _ _ _ z => z) (fun ko c3 q => mv _ _ _ _ _ (fun _ _ _ z => z) (fun vo c4 q => by
          obtain ⟨kk, e, q⟩ := ob_iff.mp q
          exact ob_iff.mpr ⟨kk, e, q.1, dcL_list mg mt mk mv J ht he ds _ _ _ q.2⟩) q) q
      | false => exact dcL_list mg mt mk mv J ht he ds _ _ _ q) q) (ht d ds ks acc c h).2⟩
theorem while_of {t : DT} {body : DS} {Z : En} {c : Cf} (mt : MonoT t) (I : Nat → Cf → Prop) (m : Nat) (h0 : I m c) (h : ∀ m c, I m c → t Z.ex c fun b c1 => brP b (fun _ => body { Z with nx := fun c2 => ∃ m', m' < m ∧ I m' c2, ct := fun c2 => ∃ m', m' < m ∧ I m' c2, bk := Z.nx } c1) (fun _ => Z.nx c1)) : vWhile t body Z c := by
  refine ⟨I, ⟨m, h0⟩, fun m c hI => mt _ _ _ _ _ (fun _ _ _ z => z) (fun b c1 q => ?_) (h m c hI)⟩
  cases b with
  | true => exact q
  | false => exact q
/-! mono -/
theorem gsNil_mono : MonoGs gsNil := fun o c Q Q' h q => ⟨q.1, h _ q.2⟩
theorem gsCons_mono {g : DG} {r : DGs} (h : MonoG g) (h' : MonoGs r) : MonoGs (gsCons g r) := fun o c Q Q' hq q => by
  cases o with
  | nil => exact q
  | cons o os => exact h _ _ _ _ (fun c1 q => h' _ _ _ _ hq q) q
theorem gT_mono {n : Nat} {r : DGs} (h : MonoGs r) : MonoG (gT n r) := fun o c Q Q' hq q => by
  unfold gT at q ⊢
  split at q <;> first | exact ⟨q.1, h _ _ _ _ hq q.2⟩ | exact q
theorem mO_nil : MonoO [] := trivial
theorem mO_sl {i : Nat} {ops : List Opd} (h : MonoO ops) : MonoO (.sl i :: ops) := h
theorem mO_ex {e : DE} {ops : List Opd} (h : Mono e) (h' : MonoO ops) : MonoO (.ex e :: ops) := ⟨h, h'⟩
theorem mB_none : MonoB none := trivial
theorem mB_some {o : Opd} (h : MonoO [o]) : MonoB (some o) := h
theorem vBool_mono {b : DT} (h : MonoT b) : Mono (vBool b) := fun E E' c Q Q' hE hQ q => h _ _ _ _ _ hE (fun _ _ z => hQ _ _ z) q
theorem vIsB_mono {e : DE} (h : Mono e) : MonoT (vIsB e) := fun E E' c Q Q' hE hQ q => h _ _ _ _ _ hE (fun o c1 z => by
  obtain ⟨b, e1, z⟩ := ob_iff.mp z
  exact ob_iff.mpr ⟨b, e1, hQ _ _ z⟩) q
theorem vNewD_mono : Mono vNewD := fun E E' c Q Q' hE hQ q => q.imp (hQ _ _) (hQ _ _)
/-- a def's body, its ends by name -/
theorem Keeps.of {m n : Nat} {P : List Nat} {t : DS} {C : Con} (h : ∀ (E : XP) (os : List O) (Q : O → List O → Prop) (Z : En), C E os Q → (∀ o c, Q o (finArgs n P os c) → Z.rt o c) → (∀ c, Q (.fz .non) (finArgs n P os c) → Z.nx c) → (∀ nm fs c, E nm fs (finArgs n P os c) → Z.ex nm fs c) → t Z (startC m os))
    (hP : P.all (fun i => decide (n ≤ i)) = true) : Keeps m n P t C := fun E os Q hl hC => ⟨fun i hi hp => by
      have := List.all_eq_true.mp hP i (by simpa using hp)
      simp at this
      omega, h E os Q (fnEnds n P os E Q) hC (fun _ _ z => z) (fun _ z => z) (fun _ _ _ z => z)⟩
@[simp] theorem fin_0 {P : List Nat} {os : List O} {c : Cf} : finArgs 0 P os c = [] := rfl
theorem fin_take {P : List Nat} {os : List O} {c : Cf} {n : Nat} (hP : P.all (fun i => decide (n ≤ i)) = true) (hc : n ≤ c.length) : finArgs n P os c = c.take n := by
  unfold finArgs
  apply List.ext_getElem
  · simp; omega
  · intro i h1 h2
    simp at h1
    have hp : P.contains i = false := by
      cases e : P.contains i with
      | false => rfl
      | true =>
        have := List.all_eq_true.mp hP i (by simpa using e)
        simp at this
        omega
    simp only [List.getElem_map, List.getElem_range, hp, List.getElem_take]
    simp [List.getD_eq_getElem?_getD, List.getElem?_eq_getElem (show i < c.length by omega)]
/-- what holds between two statements -/
theorem seq_cut {t u : DS} {Z : En} {c : Cf} (I : Cf → Prop) (mt : MonoS t) (h1 : t { Z with nx := I } c) (h2 : ∀ c, I c → u Z c) : vSeq t u Z c := by
  rw [vSeq_at]
  exact mt { Z with nx := I } { Z with nx := u Z } c h2 (fun _ _ z => z) (fun _ z => z) (fun _ z => z) (fun _ _ _ z => z) h1
/-! ## contracts -/
/-- what is drawn from -/
structure Dr where
  great : List Int
  cells : List Int
  rest : Int
  turn : Int
def Dr.O (s : Dr) : VS.O := .own (.dK [.inr "great", .inr "cells", .inr "rest", .inr "turn"]) [.own .lst (s.great.map fun z => .fz (.int z)), .fz (.nd .lst (s.cells.map .int)), .fz (.int s.rest), .fz (.int s.turn)]
/-- at least n more draws may be taken -/
def Dr.K (s : Dr) (n : Nat) : Prop := 0 ≤ s.turn ∧ s.turn + n ≤ 1000000000000000 ∧ s.cells.length ≤ 63
theorem Dr.K.le {s : Dr} {m n : Nat} (h : s.K n) (hm : m ≤ n) : s.K m := ⟨h.1, by have := h.2.1; omega, h.2.2⟩
/-- a def that draws: what is asked of the arguments behind the draw, how many draws at most, what the result is -/
def CDr (F : List D → Nat → (O → Prop) → Prop) : Con := fun _ os Q => ∃ s ds n b R, os = Dr.O s :: ds.map .fz ∧ F ds b R ∧ s.K (n + b) ∧ ∀ s' r, s'.K n → R r → Q r (Dr.O s' :: ds.map .fz)
theorem CDr_mono {F : List D → Nat → (O → Prop) → Prop} : MonoC (CDr F) := fun _ _ _ _ _ _ hQ ⟨s, ds, n, b, R, h1, h2, h3, h4⟩ => ⟨s, ds, n, b, R, h1, h2, h3, fun s' r k q => hQ _ _ (h4 s' r k q)⟩
/-- a def that changes nothing -/
def CPu (F : List D → (O → Prop) → Prop) : Con := fun _ os Q => ∃ ds R, os = ds.map .fz ∧ F ds R ∧ ∀ r, R r → Q r (ds.map .fz)
theorem CPu_mono {F : List D → (O → Prop) → Prop} : MonoC (CPu F) := fun _ _ _ _ _ _ hQ ⟨ds, R, h1, h2, h3⟩ => ⟨ds, R, h1, h2, fun r q => hQ _ _ (h3 r q)⟩
@[simp] theorem bad_dr {s : Dr} : isBad s.O = false := rfl
@[simp] theorem tkO_dr {s : Dr} {i : Nat} {ops : List Opd} {c : Cf} {ts : List O} : tkO (some s.O) i ops c ts = (takeOps ops (c.set i O.bad) ts).map fun p => (s.O :: p.1, p.2) := rfl
@[simp] theorem mvO_dr {s : Dr} {i : Nat} {c : Cf} {Q : DK} : mvOS s.O i c Q = Q s.O (c.set i O.bad) := (rfl)
theorem Dr.O_inj {s t : Dr} : s.O = t.O ↔ s = t := by
  refine ⟨fun h => ?_, fun h => by rw [h]⟩
  unfold Dr.O at h
  simp at h
  cases s; cases t
  simp_all
theorem mL_nil : MonoL [] := fun _ h => nomatch h
theorem mL_cons {b : Bool} {t : DE} {l : List (Bool × DE)} (h : Mono t) (h' : MonoL l) : MonoL ((b, t) :: l) := fun p hp => (List.mem_cons.mp hp).elim (fun z => z ▸ h) (h' p)
/-! the same, what is to be kept is hidden from simp -/
theorem seqc {t u : DS} {Z : En} {c : Cf} (I : Cf → Prop) (mt : MonoS t) (h1 : ∀ J : Cf → Prop, (∀ c, I c → J c) → t { Z with nx := J } c) (h2 : ∀ c, I c → u Z c) : vSeq t u Z c :=
  seq_cut I mt (h1 I fun _ z => z) h2
theorem forc {kp : Cf → Prop} {g : DG} {body : DS} {Z : En} {items : List D} {c : Cf} (mg : MonoG g) (mb : MonoS body) (J : List D → Cf → Prop) (h0 : J items c) (ht : ∀ (K : Cf → Prop) d ds c, (∀ c, J ds c → K c) → J (d :: ds) c → kp c ∧ g (.fz d) c fun c1 => body { Z with nx := K, ct := K, bk := Z.nx } c1) (he : ∀ c, J [] c → kp c ∧ Z.nx c) :
    vForL kp g body items Z c := forL_list mg mb J (fun d ds c h => ht (J ds) d ds c (fun _ z => z) h) he items c h0
/-- a loop with a number of the turn -/
theorem forn {kp : Cf → Prop} {g : DG} {body : DS} {Z : En} {items : List D} {c : Cf} (mg : MonoG g) (mb : MonoS body) (I : Nat → Cf → Prop) (h0 : I 0 c)
    (ht : ∀ (K : Cf → Prop) (i : Nat) (d : D) (c : Cf), (∀ c, I (i + 1) c → K c) → items[i]? = some d → I i c → kp c ∧ g (.fz d) c fun c1 => body { Z with nx := K, ct := K, bk := Z.nx } c1) (he : ∀ c, I items.length c → kp c ∧ Z.nx c) : vForL kp g body items Z c :=
  forL_nat mg mb items I h0 (fun i d c e h => ht (I (i + 1)) i d c (fun _ z => z) e h) he
theorem lcc {vs : List Nat} {kp : Cf → Prop} {g : DG} {tt : DT} {te : DE} {k : List O → Cf → Prop} {items : List D} {acc : List O} {c : Cf} (mg : MonoG g) (mt : MonoT tt) (me : Mono te) (J : List D → List O → Cf → Prop) (h0 : J items acc c)
    (ht : ∀ (K : List O → Cf → Prop) d ds acc c, (∀ acc c, J ds acc c → K acc c) → J (d :: ds) acc c → kp c ∧ g (.fz d) c fun c1 => tt noX c1 fun b c2 => brP b (fun _ => te noX c2 fun o c3 => acc.length < sizeLine ∧ K (acc ++ [o]) (dropAll vs c3)) (fun _ => K acc (dropAll vs c2))) (he : ∀ acc c, J [] acc c → kp c ∧ k acc c) :
    vLcL vs kp g tt te items acc c k := lcL_list mg mt me J (fun d ds acc c h => ht (J ds) d ds acc c (fun _ _ z => z) h) he items acc c h0
theorem dcc {vs : List Nat} {kp : Cf → Prop} {g : DG} {tt : DT} {tk tv : DE} {k : List Key → List O → Cf → Prop} {items : List D} {ks : List Key} {acc : List O} {c : Cf} (mg : MonoG g) (mt : MonoT tt) (mk : Mono tk) (mv : Mono tv) (J : List D → List Key → List O → Cf → Prop) (h0 : J items ks acc c)
    (ht : ∀ (K : List Key → List O → Cf → Prop) d ds ks acc c, (∀ ks acc c, J ds ks acc c → K ks acc c) → J (d :: ds) ks acc c → kp c ∧ g (.fz d) c fun c1 => tt noX c1 fun b c2 => brP b (fun _ => tk noX c2 fun ko c3 => tv noX c3 fun vo c4 => ob (keyOf ko.sh) fun kk => acc.length < sizeLine ∧ K (putP ks acc kk vo).1 (putP ks acc kk vo).2 (dropAll vs c4)) (fun _ => K ks acc (dropAll vs c2))) (he : ∀ ks acc c, J [] ks acc c → kp c ∧ k ks acc c) :
    vDcL vs kp g tt tk tv items ks acc c k := dcL_list mg mt mk mv J (fun d ds ks acc c h => ht (J ds) d ds ks acc c (fun _ _ _ z => z) h) he items ks acc c h0
/-- a while's turn or its end -/
def brW (b : Bool) (body : DS) (Z1 Z : En) (c : Cf) : Prop := if b = true then body Z1 c else Z.nx c
def brWS (b : Bool) (body : DS) (Z1 Z : En) (c : Cf) (_ : Lock (body, Z1, Z) := ⟨⟩) : Prop := brW b body Z1 Z c
@[simp ↓] theorem brW_lock {b : Bool} {body : DS} {Z1 Z : En} {c : Cf} : brW b body Z1 Z c = brWS b body Z1 Z c := (rfl)
@[simp ↓] theorem brW_t {body : DS} {Z1 Z : En} {c : Cf} : brWS true body Z1 Z c = body Z1 c := (rfl)
@[simp ↓] theorem brW_f {body : DS} {Z1 Z : En} {c : Cf} : brWS false body Z1 Z c = Z.nx c := (rfl)
theorem brW_of {b : Bool} {body : DS} {Z1 Z : En} {c : Cf} (h1 : b = true → body Z1 c) (h2 : b = false → Z.nx c) : brW b body Z1 Z c := by
  cases b
  · exact h2 rfl
  · exact h1 rfl
theorem whilec {t : DT} {body : DS} {Z : En} {c : Cf} (mt : MonoT t) (I : Nat → Cf → Prop) (m : Nat) (h0 : I m c) (h : ∀ (K : Cf → Prop) m c, (∀ m' c, m' < m → I m' c → K c) → I m c → t Z.ex c fun b c1 => brW b body { Z with nx := K, ct := K, bk := Z.nx } Z c1) : vWhile t body Z c :=
  while_of mt I m h0 fun m c hI => mt _ _ _ _ _ (fun _ _ _ z => z) (fun b c1 q => by cases b <;> exact q) (h (fun c2 => ∃ m', m' < m ∧ I m' c2) m c (fun m' c h1 h2 => ⟨m', h1, h2⟩) hI)
/-- a comprehension that reckons f of each item that p lets through -/
theorem lc_filter {vs : List Nat} {kp : Cf → Prop} {g : DG} {tt : DT} {te : DE} {k : List O → Cf → Prop} {items : List D} {c : Cf} (mg : MonoG g) (mt : MonoT tt) (me : Mono te) (p : D → Bool) (f : D → O) (hk : kp c) (hl : items.length ≤ 16777216)
    (h : ∀ d ∈ items, g (.fz d) c fun c1 => tt noX c1 fun b c2 => b = p d ∧ (p d = true → te noX c2 fun o c3 => o = f d ∧ dropAll vs c3 = c) ∧ (p d = false → dropAll vs c2 = c)) (he : k ((items.filter p).map f) c) : vLcL vs kp g tt te items [] c k := by
  refine lcL_list mg mt me (fun ds acc c' => ∃ pre, items = pre ++ ds ∧ acc = (pre.filter p).map f ∧ c' = c) ?_ ?_ _ _ _ ⟨[], rfl, rfl, rfl⟩
  · rintro d ds acc _ ⟨pre, e, rfl, rfl⟩
    refine ⟨hk, mg _ _ _ _ (fun c1 q => mt _ _ _ _ _ (fun _ _ _ z => z) (fun b c2 ⟨q1, q2, q3⟩ => ?_) q) (h d (by rw [e]; simp))⟩
    subst q1
    cases hb : p d with
    | true =>
      rw [brP_lock, brP_t]
      refine me _ _ _ _ _ (fun _ _ _ z => z) (fun o c3 z => ?_) (q2 hb)
      obtain ⟨z1, z2⟩ := z
      refine ⟨?_, pre ++ [d], by rw [e]; simp, ?_, z2⟩
      · show ((pre.filter p).map f).length < 16777216
        have : (pre.filter p).length ≤ pre.length := List.length_filter_le ..
        rw [e] at hl
        simp at hl ⊢
        omega
      · subst z1
        simp [hb]
    | false =>
      rw [brP_lock, brP_f]
      exact ⟨pre ++ [d], by rw [e]; simp, by simp [hb], q3 hb⟩
  · rintro acc _ ⟨pre, e, rfl, rfl⟩
    rw [List.append_nil] at e
    subst e
    exact ⟨hk, he⟩
theorem lc_map {vs : List Nat} {kp : Cf → Prop} {g : DG} {te : DE} {k : List O → Cf → Prop} {items : List D} {c : Cf} (mg : MonoG g) (me : Mono te) (f : D → O) (hk : kp c) (hl : items.length ≤ 16777216)
    (h : ∀ d ∈ items, g (.fz d) c fun c1 => te noX c1 fun o c3 => o = f d ∧ dropAll vs c3 = c) (he : k (items.map f) c) : vLcL vs kp g vYes te items [] c k := by
  refine lc_filter mg vYes_mono me (fun _ => true) f hk hl (fun d hd => mg _ _ _ _ (fun c1 q => ⟨rfl, fun _ => q, fun z => by cases z⟩) (h d hd)) ?_
  rw [List.filter_eq_self.mpr (by simp)]
  exact he
end VS
namespace VS
open PySem PySem.Spec PyProof.Rows L2
/-! ## plain data: good if its texts are of true signs, its numbers small -/
mutual
def good : D → Bool
  | .non => true
  | .bl _ => true
  | .int i => decide (-1000000000 < i) && decide (i < 1000000000)
  | .str x => PyData.strOk x
  | .nd .lst ds => goods ds
  | .nd (.scr _) ds => goods ds
  | .nd .tup ds => goods ds
  | _ => false
def goods : List D → Bool
  | [] => true
  | d :: ds => good d && goods ds
end
mutual
/-- the data as the library writes it -/
def pd : D → PyData
  | .non => .none
  | .bl b => .bool b
  | .int i => .int i
  | .str x => .str x
  | .nd .lst ds => .list (pds ds)
  | .nd (.scr _) ds => .list (pds ds)
  | .nd .tup ds => .tuple (pds ds)
  | _ => .none
def pds : List D → List PyData
  | [] => []
  | d :: ds => pd d :: pds ds
end
theorem goods_iff : ∀ {ds : List D}, goods ds = true ↔ ∀ d ∈ ds, good d = true
  | [] => by simp [goods]
  | d :: ds => by simp [goods, goods_iff (ds := ds)]
theorem pds_eq : ∀ ds : List D, pds ds = ds.map pd
  | [] => rfl
  | d :: ds => by rw [pds, pds_eq ds]; rfl
theorem int_short {i : Int} (h1 : -1000000000 < i) (h2 : i < 1000000000) : (PyData.shown (.int i)).length ≤ 13 := PyData.shown_int_le (by omega)
mutual
theorem good_pd : ∀ {d : D}, good d = true → toPD d = some (pd d) ∧ (pd d).canLay0 = true ∧ (pd d).showable = true ∧ (pd d).hasDict = false ∧ (pd d).leavesShort 13 = true
  | .non, _ => ⟨rfl, rfl, rfl, rfl, rfl⟩
  | .bl _, _ => ⟨rfl, rfl, rfl, rfl, rfl⟩
  | .int i, h => by
    simp only [good, Bool.and_eq_true, decide_eq_true_eq] at h
    refine ⟨rfl, rfl, ?_, rfl, ?_⟩
    · simp only [pd, PyData.showable, decide_eq_true_eq]
      have : i.natAbs < 2 ^ 30 := by omega
      rcases Nat.eq_zero_or_pos i.natAbs with z | z
      · rw [z]; decide
      · have := (Nat.log2_lt (by omega)).mpr this
        omega
    · simp only [pd, PyData.leavesShort, decide_eq_true_eq]
      exact int_short h.1 h.2
  | .str x, h => by
    have h' : PyData.strOk x = true := h
    refine ⟨rfl, h', rfl, rfl, ?_⟩
    simp only [pd, PyData.leavesShort, List.all_eq_true, decide_eq_true_eq]
    intro c hc
    unfold PyData.strOk at h'
    have := Array.all_eq_true'.mp h' c (by simpa using hc)
    simp at this
    omega
  | .nd t ds, h => by
    have key : goods ds = true → toPDs ds = some (pds ds) ∧ PyData.canLayAll0 (pds ds) = true ∧ PyData.showableAll (pds ds) = true ∧ PyData.hasDictAll (pds ds) = false ∧ PyData.leavesShortAll 13 (pds ds) = true := fun q => goods_pd (ds := ds) q
    cases t with
    | lst =>
      obtain ⟨h1, h2, h3, h4, h5⟩ := key h
      refine ⟨by simp [toPD, h1, pd], ?_, ?_, ?_, ?_⟩
      · simpa [pd, PyData.canLay0] using h2
      · simpa [pd, PyData.showable] using h3
      · simpa [pd, PyData.hasDict] using h4
      · simpa [pd, PyData.leavesShort] using h5
    | scr _ =>
      obtain ⟨h1, h2, h3, h4, h5⟩ := key h
      refine ⟨by simp [toPD, h1, pd], ?_, ?_, ?_, ?_⟩
      · simpa [pd, PyData.canLay0] using h2
      · simpa [pd, PyData.showable] using h3
      · simpa [pd, PyData.hasDict] using h4
      · simpa [pd, PyData.leavesShort] using h5
    | tup =>
      obtain ⟨h1, h2, h3, h4, h5⟩ := key h
      refine ⟨by simp [toPD, h1, pd], ?_, ?_, ?_, ?_⟩
      · simpa [pd, PyData.canLay0] using h2
      · simpa [pd, PyData.showable] using h3
      · simpa [pd, PyData.hasDict] using h4
      · simpa [pd, PyData.leavesShort] using h5
    | dK ks => exact absurd h (by simp [good])
    | dT ks => exact absurd h (by simp [good])
    | ins C fs => exact absurd h (by simp [good])
    | lkK _ _ _ => exact absurd h (by simp [good])
    | lkT _ _ _ => exact absurd h (by simp [good])
    | opq _ => exact absurd h (by simp [good])
  | .bad, h => absurd h (by simp [good])
  | .val _, h => absurd h (by simp [good])
theorem goods_pd : ∀ {ds : List D}, goods ds = true → toPDs ds = some (pds ds) ∧ PyData.canLayAll0 (pds ds) = true ∧ PyData.showableAll (pds ds) = true ∧ PyData.hasDictAll (pds ds) = false ∧ PyData.leavesShortAll 13 (pds ds) = true
  | [], _ => ⟨rfl, rfl, rfl, rfl, rfl⟩
  | d :: ds, h => by
    simp only [goods, Bool.and_eq_true] at h
    obtain ⟨h1, h2, h3, h4, h5⟩ := good_pd h.1
    obtain ⟨k1, k2, k3, k4, k5⟩ := goods_pd (ds := ds) h.2
    refine ⟨by simp [toPDs, h1, k1, pds], ?_, ?_, ?_, ?_⟩
    · simp [pds, PyData.canLayAll0, h2, k2]
    · simp [pds, PyData.showableAll, h3, k3]
    · simp [pds, PyData.hasDictAll, h4, k4]
    · simp [pds, PyData.leavesShortAll, h5, k5]
end
theorem shP_good {d : D} (h : good d = true) (hd : (pd d).depth ≤ 64) : shPD d = some (pd d) := by
  obtain ⟨h1, h2, _⟩ := good_pd h
  unfold shPD
  rw [h1]
  have : SeqAt.shaped (pd d) = true := by unfold SeqAt.shaped; simp [h2, hd]
  simp [this]
/-- the text of data -/
def rpr (d : D) : Str := (pd d).shown
theorem repr_good {o : O} (h : good o.view = true) (hs : isSeqD o.view = true) (hd : (pd o.view).depth ≤ 60) (hb : (pd o.view).bulk ≤ 1048576) : bfRepr [o] = some (.fz (.str (rpr o.view))) := by
  obtain ⟨h1, h2, h3, h4, h5⟩ := good_pd h
  have hl := PyData.shown_fits_bulk (B := 13) (by decide) (by decide) h5 (by simpa using hb)
  unfold bfRepr
  simp only [hs, if_true]
  unfold showD
  rw [h1]
  rw [Option.bind_some, if_pos ⟨h3, by omega, hl⟩]
  rfl
@[simp] theorem eq_str {x y : Str} : bfEq [.fz (.str x), .fz (.str y)] = some (.fz (.bl (decide (x = y)))) := rfl
@[simp] theorem ne_str {x y : Str} : bfNe [.fz (.str x), .fz (.str y)] = some (.fz (.bl (!decide (x = y)))) := rfl
/-! lists of ints, of texts -/
theorem eqv_ints : ∀ a b : List Int, PyData.eqvAll (a.map .int) (b.map .int) = decide (a = b)
  | [], [] => rfl
  | [], _ :: _ => rfl
  | _ :: _, [] => rfl
  | x :: a, y :: b => by
    simp only [List.map_cons, PyData.eqvAll, PyData.eqv, eqv_ints a b, List.cons.injEq]
    rw [Bool.eq_iff_iff]
    simp
theorem eqv_strs : ∀ a b : List Str, PyData.eqvAll (a.map .str) (b.map .str) = decide (a = b)
  | [], [] => rfl
  | [], _ :: _ => rfl
  | _ :: _, [] => rfl
  | x :: a, y :: b => by
    simp only [List.map_cons, PyData.eqvAll, PyData.eqv, eqv_strs a b, List.cons.injEq]
    rw [Bool.eq_iff_iff]
    simp
theorem pds_ints (l : List Int) : pds (l.map .int) = l.map .int := by rw [pds_eq, List.map_map]; rfl
theorem pds_strs (l : List Str) : pds (l.map .str) = l.map .str := by rw [pds_eq, List.map_map]; rfl
theorem depthAll_flat {l : List PyData} (h : ∀ x ∈ l, x.depth = 0) : PyData.depthAll l = 0 := by
  induction l with
  | nil => rfl
  | cons x l ih => simp [PyData.depthAll, h x (by simp), ih fun y hy => h y (by simp [hy])]
theorem canLay_ints (l : List Int) : PyData.canLayAll0 (l.map .int) = true := by
  induction l with
  | nil => rfl
  | cons x l ih => simp [PyData.canLayAll0, PyData.canLay0, ih]
theorem canLay_strs {l : List Str} (h : ∀ x ∈ l, PyData.strOk x = true) : PyData.canLayAll0 (l.map .str) = true := by
  induction l with
  | nil => rfl
  | cons x l ih => simp [PyData.canLayAll0, PyData.canLay0, h x (by simp), ih fun y hy => h y (by simp [hy])]
theorem sh_ints {l : List Int} : shPD (.nd .lst (l.map .int)) = some (.list (l.map .int)) := by
  have hd : PyData.depthAll (l.map PyData.int) = 0 := depthAll_flat fun x hx => by
    obtain ⟨z, _, rfl⟩ := List.mem_map.mp hx
    rfl
  simp [shPD, toPD, toPDs_ints, SeqAt.shaped, PyData.canLay0, canLay_ints, PyData.depth, hd]
theorem sh_strs {l : List Str} (h : ∀ x ∈ l, PyData.strOk x = true) : shPD (.nd .lst (l.map .str)) = some (.list (l.map .str)) := by
  have hd : PyData.depthAll (l.map PyData.str) = 0 := depthAll_flat fun x hx => by
    obtain ⟨z, _, rfl⟩ := List.mem_map.mp hx
    rfl
  simp [shPD, toPD, toPDs_strs, SeqAt.shaped, PyData.canLay0, canLay_strs h, PyData.depth, hd]
theorem eqN_ints {f : Bool → Bool} {a b : O} {l m : List Int} (ha : a.view = .nd .lst (l.map .int)) (hb : b.view = .nd .lst (m.map .int)) : bfEqN f [a, b] = some (.fz (.bl (f (decide (l = m))))) := by
  cases a with
  | fz d =>
    cases ha
    simp [bfEqN, sh_ints, hb, PyData.eqv, eqv_ints]
  | own t os => 
    simp [bfEqN, sh_ints, ha, hb, PyData.eqv, eqv_ints]
theorem eqN_strs {f : Bool → Bool} {a b : O} {l m : List Str} (ha : a.view = .nd .lst (l.map .str)) (hb : b.view = .nd .lst (m.map .str)) (h1 : ∀ x ∈ l, PyData.strOk x = true) (h2 : ∀ x ∈ m, PyData.strOk x = true) : bfEqN f [a, b] = some (.fz (.bl (f (decide (l = m))))) := by
  cases a with
  | fz d =>
    cases ha
    simp [bfEqN, sh_strs h1, sh_strs h2, hb, PyData.eqv, eqv_strs]
  | own t os => 
    simp [bfEqN, sh_strs h1, sh_strs h2, ha, hb, PyData.eqv, eqv_strs]
theorem views_fints {l : List Int} : O.views (l.map fun z => .fz (.int z)) = l.map D.int := views_map
theorem views_fstrs {l : List Str} : O.views (l.map fun z => .fz (.str z)) = l.map D.str := views_map
@[simp] theorem ne_ints0 {l : List Int} : bfNe [.own .lst (l.map fun z => .fz (.int z)), .own .lst []] = some (.fz (.bl (!decide (l = [])))) := eqN_ints (m := []) (by simp) rfl
@[simp] theorem eq_ints0 {l : List Int} : bfEq [.own .lst (l.map fun z => .fz (.int z)), .own .lst []] = some (.fz (.bl (decide (l = [])))) := eq_own.trans (eqN_ints (f := id) (m := []) (by simp) rfl)
theorem ix_str {z : Str} {i : Int} (h : z.length ≤ 16777216) : bfIx [.str z, .int i] = (atI z.cps.toList i).map fun c => .fz (.str ⟨#[c]⟩) := if_pos h
theorem len_str {z : Str} (h : z.length ≤ 16777216) : bfLen [.str z] = some (.fz (.int z.length)) := if_pos h
theorem ne_strs0 {l : List Str} (h : ∀ x ∈ l, PyData.strOk x = true) : bfNe [.own .lst (l.map fun z => .fz (.str z)), .own .lst []] = some (.fz (.bl (!decide (l = [])))) := eqN_strs (m := []) (by simp) rfl h (by simp)
@[simp] theorem tip_comp {α : Type} {f : α → D} : (O.tip ∘ fun y => O.fz (f y)) = f := rfl
@[simp] theorem sh_comp {α : Type} {f : α → D} : (O.sh ∘ fun y => O.fz (f y)) = f := rfl
@[simp] theorem view_comp {α : Type} {f : α → D} : (O.view ∘ fun y => O.fz (f y)) = f := rfl
@[simp] theorem cut_lst {ds : List D} {lo hi : Option Int} : cutR (.nd .lst ds) lo hi = some (.own .lst ((cutD ds lo hi).map .fz)) := rfl
@[simp] theorem cut_tup {ds : List D} {lo hi : Option Int} : cutR (.nd .tup ds) lo hi = some (.fz (.nd .tup (cutD ds lo hi))) := rfl
@[simp] theorem cut_to {ds : List D} {k : Nat} : cutD ds none (some (k : Int)) = ds.take k := by
  unfold cutD
  rw [HT.sIx_none, HT.sIx_nat]
  simp only [List.drop_zero, Nat.sub_zero]
  rw [← List.take_eq_take_min]
@[simp] theorem cut_from {ds : List D} {k : Nat} : cutD ds (some (k : Int)) none = ds.drop k := by
  unfold cutD
  rw [HT.sIx_none, HT.sIx_nat]
  apply List.ext_getElem
  · simp; omega
  · intro i h1 h2
    simp at h1 h2
    simp only [List.getElem_take, List.getElem_drop]
    congr 1
    omega
theorem cut_mid {ds : List D} {i j : Nat} (h : i ≤ ds.length) : cutD ds (some (i : Int)) (some (j : Int)) = (ds.drop i).take (j - i) := by
  unfold cutD
  rw [HT.sIx_nat, HT.sIx_nat, Nat.min_eq_left h]
  apply List.ext_getElem
  · simp; omega
  · intro a h1 h2
    simp
@[simp] theorem fidx_nil {α : Type} [DecidableEq α] {k : α} : ([] : List α).findIdx? (fun j => decide (j = k)) = none := rfl
@[simp] theorem fidx_cons {α : Type} [DecidableEq α] {k a : α} {l : List α} : (a :: l).findIdx? (fun j => decide (j = k)) = if a = k then some 0 else (l.findIdx? fun j => decide (j = k)).map (· + 1) := by
  rw [List.findIdx?_cons]
  simp
@[simp] theorem cat_lst {a b : List D} : bfAdd [.nd .lst a, .nd .lst b] = if a.length + b.length ≤ 16777216 then some (.own .lst ((a ++ b).map .fz)) else none := rfl
end VS
namespace VS
open PySem PySem.Spec PyProof.Rows L2 SX
/-! ## texts -/
theorem in_strs {f : Bool → Bool} {x : Str} {l : List Str} (h : PyData.strOk x = true) (h1 : ∀ y ∈ l, PyData.strOk y = true) : bfIn f [.str x, .nd .lst (l.map .str)] = some (.fz (.bl (f (decide (x ∈ l))))) := by
  have e1 : shPD (.str x) = some (.str x) := by
    simp [shPD, toPD, SeqAt.shaped, PyData.canLay0, h, PyData.depth]
  have key : ∀ l : List Str, (l.map PyData.str).any (fun z => PyData.eqv z (.str x)) = decide (x ∈ l) := by
    intro l
    induction l with
    | nil => rfl
    | cons y l ih =>
      rw [List.map_cons, List.any_cons, ih]
      simp only [PyData.eqv, List.mem_cons]
      rw [Bool.eq_iff_iff]
      simp
      exact ⟨fun q => q.imp Eq.symm id, fun q => q.imp Eq.symm id⟩
  simp only [bfIn, e1, sh_strs h1, Option.bind_some, key]
theorem joinL_nil : ∀ ys : List (List Nat), TL.joinL [] ys = ys.flatten
  | [] => rfl
  | [p] => by simp [TL.joinL]
  | p :: q :: r => by
    rw [TL.joinL, joinL_nil (q :: r)]
    simp
/-- "".join of single signs -/
theorem join_signs {cs : List Nat} (h : cs.length ≤ 16777216) : bfJoin [.str "", .nd .lst (cs.map chD)] = some (.fz (.str (S cs))) := by
  have e1 : ∀ cs : List Nat, strsD (cs.map chD) = some (cs.map fun c => S [c]) := by
    intro cs
    induction cs with
    | nil => rfl
    | cons c cs ih =>
      show (strsD (cs.map chD)).map (_ :: ·) = _
      rw [ih]
      rfl
  have e0 : ("" : Str) = S [] := by decide
  have fl : ∀ cs : List Nat, (cs.map fun c => [c]).flatten = cs := by
    intro cs
    induction cs with
    | nil => rfl
    | cons c cs ih => simp [ih]
  have e2 : Txt.join (S []) (cs.map fun c => S [c]) = S cs := by
    have := join_S [] (cs.map fun c => [c])
    rw [joinL_nil, List.map_map, fl] at this
    exact this
  have e3 : ∀ cs : List Nat, ((cs.map fun c => S [c]).map (·.length)).sum = cs.length := by
    intro cs
    induction cs with
    | nil => rfl
    | cons c cs ih =>
      rw [List.map_cons, List.map_cons, List.sum_cons, ih, S_len, List.length_cons]
      simp only [List.length_cons, List.length_nil]
      omega
  have e4 : seqOf (.nd .lst (cs.map chD)) = some (cs.map chD) := rfl
  simp only [bfJoin, e4, e1, Option.bind_some, e0, e2]
  rw [if_pos]
  rw [e3, S_len]
  simpa using h
theorem cat_str {x y : Str} (h : x.length + y.length ≤ 16777216) : bfAdd [.str x, .str y] = some (.fz (.str (x ++ y))) := by
  have : bfSS addSC (fun i j => .str (i ++ j)) [.str x, .str y] = some (.fz (.str (x ++ y))) := by
    have : addSC x y = true := by unfold addSC; exact decide_eq_true h
    simp [bfSS, this]
  simp [bfAdd, orB, bfII, this]
theorem cut_str {x : Str} {lo hi : Option Int} (h : x.length ≤ 16777216) : cutR (.str x) lo hi = some (.fz (.str (cutS x lo hi))) := if_pos h
theorem cutS_to {cs : List Nat} {k : Nat} : cutS (S cs) none (some (k : Int)) = S (cs.take k) := by
  unfold cutS
  rw [HT.sIx_none, HT.sIx_nat, S_len]
  simp only [List.drop_zero, Nat.sub_zero, List.toList_toArray]
  rw [← List.take_eq_take_min]
theorem it_str {x : Str} : itAny [.fz (.str x)] = some (x.cps.toList.map chD) := rfl
end VS
namespace VS
open PySem PySem.Spec PyProof.Rows L2 SX
local macro_rules | `(tactic| walk_at "mono") => `(tactic| repeat' (with_reducible first
  | exact mO_nil | apply mO_sl | apply mO_ex | exact mB_none | apply mB_some
  | exact vNext_mono | apply vSeq_mono | apply vAsg_mono | apply vPure_mono | exact vC_mono | exact vVar_mono | exact vMv_mono | apply vCmpT_mono | apply vCmpIx_mono | apply vIfS_mono | apply vRet_mono | apply vDrop_mono | apply vCall_mono
  | apply vFz_mono | apply vAsgT_mono | apply gSubD_mono | exact gN_mono | apply gT_mono | apply gsCons_mono | exact gsNil_mono | apply vAnd_mono | apply vOr_mono | apply vNot_mono | apply vTru_mono | apply vTup_mono | apply vLst_mono
  | apply vFor_mono | apply vWhile_mono | apply vPar_mono | apply vLc_mono | apply vDc_mono | exact vYes_mono | apply vMth_mono | apply vMthI_mono | apply vSl_mono | apply vAug_mono | apply vTest_mono | apply vChain_mono | apply vIf_mono | apply vAndV_mono | apply vOrV_mono | apply vNotV_mono | apply vDisp_mono
  | apply vBool_mono | apply vIsB_mono | exact vNewD_mono | exact vBreak_mono | exact vCont_mono | exact vNever_mono | exact vRetN_mono | exact CDr_mono | exact CPu_mono | apply arrC_mono))
/-! ## the draws -/
def T__law_begun : DS := (vSeq (vAsg 1 (vLc [2] [Opd.ex (vVar 0)] itAny (gN 2) vYes (vPure [Opd.sl 2] (bfD bfAbs)))) (vSeq (vRet (vDisp [Sum.inr (("great" : Str)), Sum.inr (("cells" : Str)), Sum.inr (("rest" : Str)), Sum.inr (("turn" : Str))] [Opd.ex (vLc [2] [Opd.ex (vVar 1)] itAny (gN 2) (vCmpT [Opd.sl 2, Opd.ex (vPure [Opd.ex (vC (D.int 10)), Opd.ex (vC (D.int 18))] (bfD (bfII powC fun i j => D.int (i ^ j.toNat))))] (bfD bfGe)) (vPure [Opd.sl 2, Opd.ex (vPure [Opd.ex (vC (D.int 10)), Opd.ex (vC (D.int 18))] (bfD (bfII powC fun i j => D.int (i ^ j.toNat))))] (bfD (bfII tt2 fun i j => D.int (i - j))))), Opd.ex (vVar 1), Opd.ex (vC (D.int 0)), Opd.ex (vC (D.int 0))])) vNext))
def T__law_take : DS := (vSeq (vIfS (vAnd (vCmpT [Opd.ex (vPure [Opd.sl 0, Opd.ex (vC (D.str (("rest" : Str))))] (bfD bfIx)), Opd.ex (vC (D.int 0))] bfEq) (vCmpIx 0 (Opd.ex (vC (D.str (("great" : Str))))) (Opd.ex (vLst [])) bfNe)) (vSeq (vAsgT (gSubD 0 (Opd.ex (vC (D.str (("rest" : Str)))))) (vMthI (methOf (("pop" : Str))) 0 (Opd.ex (vC (D.str (("great" : Str))))) [Opd.ex (vC (D.int 0))])) vNext) vNext) (vSeq (vIfS (vCmpT [Opd.ex (vPure [Opd.sl 0, Opd.ex (vC (D.str (("rest" : Str))))] (bfD bfIx)), Opd.ex (vC (D.int 0))] bfEq) (vSeq (vAsgT (gSubD 0 (Opd.ex (vC (D.str (("turn" : Str)))))) (vPure [Opd.ex (vPure [Opd.sl 0, Opd.ex (vC (D.str (("turn" : Str))))] (bfD bfIx)), Opd.ex (vC (D.int 1))] (bfD bfAdd))) (vSeq (vAsg 2 (vPure [Opd.ex (vPure [Opd.ex (vC (D.int 7919)), Opd.ex (vPure [Opd.sl 0, Opd.ex (vC (D.str (("turn" : Str))))] (bfD bfIx))] (bfD bfMul)), Opd.ex (vPure [Opd.ex (vPure [Opd.sl 0, Opd.ex (vC (D.str (("cells" : Str))))] (bfD bfIx))] (bfD bfLen))] (bfD bfAdd))) (vSeq (vFor [Opd.ex (vFz (vPure [Opd.sl 0, Opd.ex (vC (D.str (("cells" : Str))))] (bfD bfIx)))] itAny (gN 3) (vSeq (vAsg 2 (vPure [Opd.ex (vPure [Opd.ex (vPure [Opd.ex (vPure [Opd.ex (vPure [Opd.sl 2, Opd.ex (vC (D.int 48271))] (bfD bfMul)), Opd.sl 3] (bfD bfAdd)), Opd.ex (vC (D.int 11))] (bfD bfAdd))] (bfD bfInt)), Opd.ex (vC (D.int 2147483647))] (bfD (bfII modC fun i j => D.int (i.fmod j))))) vNext)) (vSeq (vFor [Opd.ex (vC (D.int 3))] itRng1 (gN 4) (vSeq (vAsg 2 (vPure [Opd.ex (vPure [Opd.ex (vPure [Opd.ex (vPure [Opd.ex (vPure [Opd.sl 2, Opd.sl 2] (bfD bfMul)), Opd.ex (vPure [Opd.ex (vC (D.int 16807)), Opd.sl 2] (bfD bfMul))] (bfD bfAdd)), Opd.ex (vC (D.int 13))] (bfD bfAdd))] (bfD bfInt)), Opd.ex (vC (D.int 2305843009213693951))] (bfD (bfII modC fun i j => D.int (i.fmod j))))) vNext)) (vSeq (vAsgT (gSubD 0 (Opd.ex (vC (D.str (("rest" : Str)))))) (vVar 2)) vNext))))) vNext) (vSeq (vAsg 5 (vPure [Opd.ex (vPure [Opd.ex (vPure [Opd.sl 0, Opd.ex (vC (D.str (("rest" : Str))))] (bfD bfIx))] (bfD bfInt)), Opd.sl 1] (bfD (bfII modC fun i j => D.int (i.fmod j))))) (vSeq (vAsgT (gSubD 0 (Opd.ex (vC (D.str (("rest" : Str)))))) (vPure [Opd.ex (vPure [Opd.sl 0, Opd.ex (vC (D.str (("rest" : Str))))] (bfD bfIx)), Opd.sl 1] (bfD (bfII divC fun i j => D.int (i.fdiv j))))) (vSeq (vRet (vMv 5)) vNext)))))
def F_take (ds : List D) (b : Nat) (R : O → Prop) : Prop := ∃ m : Int, ds = [.int m] ∧ 0 < m ∧ m < 1000000000 ∧ b = 1 ∧ R = fun o => ∃ r : Int, o = .fz (.int r) ∧ 0 ≤ r ∧ r < m
abbrev C__law_take := CDr F_take
theorem k_take : Keeps 6 2 [2, 3, 4, 5] T__law_take C__law_take := by
  refine .of (fun E os Q Z ⟨s, ds, n, b, R, e, ⟨m, e1, h1, h2, e2, e3⟩, ⟨k1, k2, k3⟩, hQ⟩ rt nx ex => ?_) rfl
  subst e e1 e2 e3
  refine seq_cut (fun c => ∃ g r, c = [Dr.O ⟨g, s.cells, r, s.turn⟩, .fz (.int m), .bad, .bad, .bad, .bad]) (by walk_at "mono") ?_ ?_
  · simp [startC, Dr.O]
    refine brT_of (fun h => ?_) (fun h => ?_)
    · simp
      intro _
      cases hg : s.great with
      | nil => simp
      | cons z gr => simp
    · simp at h
      simp [h]
  rintro c ⟨g, r, rfl⟩
  refine seq_cut (fun c => ∃ g r t x3 x4 x2, c = [Dr.O ⟨g, s.cells, r, t⟩, .fz (.int m), x2, x3, x4, .bad] ∧ 0 ≤ t ∧ t ≤ s.turn + 1) (by walk_at "mono") ?_ ?_
  · simp [startC, Dr.O]
    refine brS_of (fun h => ?_) (fun h => ?_)
    · simp [keepOps]
      refine forL_list (by walk_at "mono") (by walk_at "mono") (fun ds c => ∃ x3 mx cs, ds = List.map D.int cs ∧ c = [Dr.O ⟨g, s.cells, r, s.turn + 1⟩, .fz (.int m), .fz (.int mx), x3, .bad, .bad] ∧ 0 ≤ mx ∧ mx < 18446744073709551616) ?_ ?_ _ _ ⟨.bad, 7919 * (s.turn + 1) + s.cells.length, s.cells, rfl, rfl, by omega, by omega⟩
      · rintro d ds c ⟨x3, mx, cs, e, rfl, m1, m2⟩
        cases cs with
        | nil => cases e
        | cons z cs =>
          cases e
          have k6 := Int.emod_nonneg (mx * 48271 + z + 11) (show (2147483647 : Int) ≠ 0 by decide)
          have k5 := Int.emod_lt_of_pos (mx * 48271 + z + 11) (show (0 : Int) < 2147483647 by decide)
          simp [keepOps, Dr.O, Int.fmod_eq_emod_of_nonneg]
          omega
      · rintro c ⟨x3, mx, cs, e, rfl, m1, m2⟩
        simp [keepOps, Dr.O]
        refine forL_list (by walk_at "mono") (by walk_at "mono") (fun ds c => ∃ x3 x4 mx, c = [Dr.O ⟨g, s.cells, r, s.turn + 1⟩, .fz (.int m), .fz (.int mx), x3, x4, .bad] ∧ 0 ≤ mx ∧ mx < 18446744073709551616) ?_ ?_ _ _ ⟨_, _, mx, rfl, by omega, by omega⟩
        · rintro d ds c ⟨x3, x4, mx, rfl, m1, m2⟩
          have k6 := Int.emod_nonneg (mx * mx + 16807 * mx + 13) (show (2305843009213693951 : Int) ≠ 0 by decide)
          have k5 := Int.emod_lt_of_pos (mx * mx + 16807 * mx + 13) (show (0 : Int) < 2305843009213693951 by decide)
          have k4 : -18446744073709551616 < mx := by omega
          simp [keepOps, Dr.O, Int.fmod_eq_emod_of_nonneg, k4, m2]
          omega
        · rintro c ⟨x3, x4, mx, rfl, m1, m2⟩
          simp [keepOps, Dr.O]
          omega
    · simp
      refine ⟨?_, ?_⟩ <;> omega
  rintro c ⟨g, r, t, x3, x4, x2, rfl, ht1, ht2⟩
  have e0 : m ≠ 0 := by omega
  have e1 : m.natAbs < 1073741824 := by omega
  simp [Dr.O, e0, e1]
  exact rt _ _ (hQ ⟨g, s.cells, r.fdiv m, t⟩ _ ⟨by omega, by show t + (n : Int) ≤ _; omega, k3⟩ ⟨r.fmod m, rfl, Int.fmod_nonneg_of_pos _ h1, Int.fmod_lt_of_pos _ h1⟩)
theorem take_of {s : Dr} {m : Int} {n : Nat} {ops : List Opd} {c : Cf} {E : XP} {Q : DK} (hk : s.K (n + 1)) (h1 : 0 < m) (h2 : m < 1000000000) (h : ∀ (s' : Dr) (r : Int), s'.K n → 0 ≤ r → r < m → Q (.fz (.int r)) (putOps ops c [s'.O, .fz (.int m)])) : goC C__law_take [s.O, .fz (.int m)] ops c E Q :=
  goC_of ⟨s, [.int m], n, 1, _, rfl, ⟨m, rfl, h1, h2, rfl, rfl⟩, hk, fun s' _ k' ⟨r, e, r1, r2⟩ => by subst e; exact h s' r k' r1 r2⟩
/-- the sequence that is picked from: its items -/
inductive Items : D → List D → Prop
  | lst {xs} : Items (.nd .lst xs) xs
  | tup {xs} : Items (.nd .tup xs) xs
  | str {z : Str} : z.length ≤ 1000 → Items (.str z) (z.cps.toList.map chD)
def F_pick (ds : List D) (b : Nat) (R : O → Prop) : Prop := ∃ d xs, ds = [d] ∧ Items d xs ∧ 0 < xs.length ∧ xs.length < 1000000 ∧ b = 1 ∧ R = fun o => ∃ x ∈ xs, o = .fz x
abbrev C__law_pick := CDr F_pick
def T__law_pick : DS := (vSeq (vRet (vPure [Opd.sl 1, Opd.ex (vCall C__law_take [] [Opd.sl 0, Opd.ex (vFz (vPure [Opd.sl 1] (bfD bfLen)))])] (bfD bfIx))) vNext)
theorem k_pick : Keeps 2 2 [] T__law_pick C__law_pick := by
  refine .of (fun E os Q Z ⟨s, ds, n, b, R, e, ⟨d, xs, e1, hi, h1, h2, e2, e3⟩, hk, hQ⟩ rt nx ex => ?_) rfl
  subst e e1 e2 e3
  have fin : ∀ (s' : Dr) (r : Int), s'.K n → 0 ≤ r → r < xs.length → ∃ x, bfIx [d, .int r] = some (.fz x) ∧ Z.rt (.fz x) [s'.O, .fz d] := by
    intro s' r k' r1 r2
    obtain ⟨i, rfl⟩ : ∃ i : Nat, r = i := ⟨r.toNat, by omega⟩
    have hi' : i < xs.length := by omega
    have key : bfIx [d, .int i] = some (.fz xs[i]) := by
      cases hi with
      | lst => rw [ix_lst, atI_of hi']; rfl
      | tup => rw [ix_tup, atI_of hi']; rfl
      | @str z hz =>
        have h4 : i < z.cps.toList.length := by simpa using hi'
        rw [ix_str (by omega)]
        unfold atI ixN
        rw [if_pos (by omega), if_pos (by omega)]
        simp [chD]
    exact ⟨_, key, rt _ _ (hQ s' _ k' ⟨_, List.getElem_mem hi', rfl⟩)⟩
  have len : bfLen [d] = some (.fz (.int xs.length)) := by
    cases hi with
    | lst => rfl
    | tup => rfl
    | @str z hz =>
      rw [len_str (by omega)]
      simp [Str.length]
  have nb : isBad (.fz d) = false := by cases hi <;> rfl
  simp [T__law_pick, startC, nb, len, Dr.O]
  refine goC_of ⟨s, [.int xs.length], n, 1, _, rfl, ⟨_, rfl, by omega, by omega, rfl, rfl⟩, hk, ?_⟩
  rintro s' _ k' ⟨r, rfl, r1, r2⟩
  obtain ⟨x, e1, e2⟩ := fin s' r k' r1 r2
  simp [nb, Dr.O, e1]
  exact e2
theorem pick_of {s : Dr} {d : D} {xs : List D} {n : Nat} {ops : List Opd} {c : Cf} {E : XP} {Q : DK} (hk : s.K (n + 1)) (hi : Items d xs) (h1 : 0 < xs.length) (h2 : xs.length < 1000000) (h : ∀ (s' : Dr) (x : D), s'.K n → x ∈ xs → Q (.fz x) (putOps ops c [s'.O, .fz d])) : goC C__law_pick [s.O, .fz d] ops c E Q :=
  goC_of ⟨s, [d], n, 1, _, rfl, ⟨d, xs, rfl, hi, h1, h2, rfl, rfl⟩, hk, fun s' _ k' ⟨x, hx, e⟩ => by subst e; exact h s' x k' hx⟩
def F_begun (ds : List D) (R : O → Prop) : Prop := ∃ (o : Obj) (ns : List Int), ds = [.nd (.scr o) (ns.map .int)] ∧ ns.length ≤ 63 ∧ R = fun r => ∃ s : Dr, r = s.O ∧ s.turn = 0 ∧ s.cells.length ≤ 63
abbrev C__law_begun := CPu F_begun
theorem k_begun : Keeps 3 1 [1] T__law_begun C__law_begun := by
  refine .of (fun E os Q Z ⟨ds, R, e, ⟨o, ns, e1, h1, e2⟩, hQ⟩ rt nx ex => ?_) rfl
  subst e e1 e2
  refine seq_cut (fun c => ∃ ms : List Int, ms.length ≤ 63 ∧ c = [.fz (.nd (.scr o) (ns.map .int)), .own .lst (ms.map fun z => .fz (.int z)), .bad]) (by walk_at "mono") ?_ ?_
  · simp [startC]
    refine lcL_list (by walk_at "mono") (by walk_at "mono") (by walk_at "mono") (fun ds acc c => ∃ ms qs : List Int, ds = qs.map .int ∧ acc = ms.map (fun z => .fz (.int z)) ∧ ms.length + qs.length ≤ 63 ∧ c = [.fz (.nd (.scr o) (ns.map .int)), .bad, .bad]) ?_ ?_ _ _ _ ⟨[], ns, rfl, rfl, by simpa using h1, rfl⟩
    · rintro d ds acc c ⟨ms, qs, e, rfl, hl, rfl⟩
      cases qs with
      | nil => cases e
      | cons q qs =>
        cases e
        simp [keepOps] at hl ⊢
        refine ⟨by omega, ms ++ [if q < 0 then -q else q], by simp, ?_⟩
        simp
        omega
    · rintro acc c ⟨ms, qs, e, rfl, hl, rfl⟩
      simp [keepOps]
      omega
  rintro c ⟨ms, hl, rfl⟩
  have hp : bfII powC (fun i j => D.int (i ^ j.toNat)) [.int 10, .int 18] = some (.fz (.int (10 ^ 18))) := by
    rw [ii_of (by decide)]
    rfl
  simp
  refine lcL_list (by walk_at "mono") (by walk_at "mono") (by walk_at "mono") (fun ds acc c => ∃ gs qs : List Int, ds = qs.map .int ∧ acc = gs.map (fun z => .fz (.int z)) ∧ gs.length + qs.length ≤ 63 ∧ c = [.fz (.nd (.scr o) (ns.map .int)), .fz (.nd .lst (ms.map .int)), .bad]) ?_ ?_ _ _ _ ⟨[], ms, rfl, rfl, by simpa using hl, rfl⟩
  · rintro d ds acc c ⟨gs, qs, e, rfl, hl, rfl⟩
    cases qs with
    | nil => cases e
    | cons q qs =>
      cases e
      simp [keepOps, hp] at hl ⊢
      refine brP_of (fun _ => ?_) (fun _ => ?_)
      · simp [hp]
        exact ⟨by omega, gs ++ [q - 1000000000000000000], by simp, by simp; omega⟩
      · simp
        omega
  · rintro acc c ⟨gs, qs, e, rfl, _, rfl⟩
    simp [keepOps]
    exact rt _ _ (hQ _ ⟨⟨gs, ms, 0, 0⟩, rfl, rfl, hl⟩)
/-! ## names and logs that are drawn -/
def word (x : Str) : Prop := 1 ≤ x.length ∧ x.length ≤ 6 ∧ ∀ c ∈ x.cps.toList, 97 ≤ c ∧ c ≤ 122
def F_log (ds : List D) (b : Nat) (R : O → Prop) : Prop := ∃ (xs : List Str) (m : Nat), ds = [.nd .lst (xs.map .str), .int m] ∧ (xs ≠ [] ∨ m = 0) ∧ (∀ x ∈ xs, PyData.strOk x = true) ∧ xs.length < 1000000 ∧ m ≤ 1000 ∧ b = 1 + 3 * m ∧ R = fun o => ∃ ys : List Str, o = .own .lst (ys.map fun y => .fz (.str y)) ∧ ys.length ≤ m ∧ ∀ y ∈ ys, y ∈ xs
abbrev C__law_log := CDr F_log
def T__law_log : DS := (vSeq (vPar [3, 4] [Opd.ex (vLst []), Opd.ex (vCall C__law_take [] [Opd.sl 0, Opd.ex (vFz (vPure [Opd.sl 2, Opd.ex (vC (D.int 1))] (bfD bfAdd)))])]) (vSeq (vWhile (vCmpT [Opd.ex (vPure [Opd.sl 3] (bfD bfLen)), Opd.sl 4] (bfD bfLt)) (vSeq (vIfS (vAnd (vCmpT [Opd.ex (vCall C__law_take [] [Opd.sl 0, Opd.ex (vC (D.int 4))]), Opd.ex (vC (D.int 0))] bfEq) (vCmpT [Opd.sl 3, Opd.ex (vLst [])] bfNe)) (vSeq (vAsg 5 (vCall C__law_take [] [Opd.sl 0, Opd.ex (vFz (vPure [Opd.sl 3] (bfD bfLen)))])) (vSeq (vAsg 3 (vPure [Opd.sl 3, Opd.ex (vSl (Opd.sl 3) (some (Opd.sl 5)) (some (Opd.ex (vPure [Opd.ex (vPure [Opd.sl 5, Opd.ex (vC (D.int 1))] (bfD bfAdd)), Opd.ex (vCall C__law_take [] [Opd.sl 0, Opd.ex (vC (D.int 4))])] (bfD bfAdd)))))] (bfD bfAdd))) vNext)) (vSeq (vDrop (vMth (methOf (("append" : Str))) (Opd.sl 3) [Opd.ex (vFz (vCall C__law_pick [] [Opd.sl 0, Opd.ex (vVar 1)]))])) vNext)) vNext)) (vSeq (vRet (vSl (Opd.sl 3) none (some (Opd.sl 4)))) vNext)))
theorem k_log : Keeps 6 3 [3, 4, 5] T__law_log C__law_log := by
  refine .of (fun E os Q Z ⟨s, ds, n, b, R, e, ⟨xs, m, e1, h0, h3, h1, h2, e2, e3⟩, hk, hQ⟩ rt nx ex => ?_) rfl
  subst e e1 e2 e3
  refine seqc (fun c => ∃ (s : Dr) (k : Nat), c = [s.O, .fz (.nd .lst (xs.map .str)), .fz (.int m), .own .lst [], .fz (.int k), .bad] ∧ s.K (n + 3 * m) ∧ k ≤ m) (by walk_at "mono") (fun J hJ => ?_) ?_
  · simp [T__law_log, startC]
    refine take_of (n := n + 3 * m) (by rw [Nat.add_assoc, Nat.add_comm (3 * m)]; exact hk) (by omega) (by omega) fun s' r k' r1 r2 => ?_
    simp
    obtain ⟨k, rfl⟩ : ∃ k : Nat, r = k := ⟨r.toNat, by omega⟩
    exact hJ _ ⟨s', k, rfl, k', by omega⟩
  rintro c ⟨s, k, rfl, hk, hkm⟩
  refine seqc (fun c => ∃ (s : Dr) (ys : List Str) (xb : O), c = [s.O, .fz (.nd .lst (xs.map .str)), .fz (.int m), .own .lst (ys.map fun y => .fz (.str y)), .fz (.int k), xb] ∧ s.K n ∧ ∀ y ∈ ys, y ∈ xs) (by walk_at "mono") (fun J hJ => ?_) ?_
  · refine whilec (by walk_at "mono") (fun j c => ∃ (s : Dr) (ys : List Str) (xb : O), c = [s.O, .fz (.nd .lst (xs.map .str)), .fz (.int m), .own .lst (ys.map fun y => .fz (.str y)), .fz (.int k), xb] ∧ s.K (n + 3 * j) ∧ ys.length ≤ 2000 ∧ j = k - ys.length ∧ ∀ y ∈ ys, y ∈ xs) k ⟨s, [], .bad, rfl, hk.le (by omega), by simp, by simp, by simp⟩ ?_
    rintro K j c hK ⟨s, ys, xb, rfl, hk, hl, rfl, hy⟩
    simp
    refine brW_of (fun h => ?_) (fun h => ?_)
    · simp at h
      obtain ⟨j, hj⟩ : ∃ j, k - ys.length = j + 1 := ⟨k - ys.length - 1, by omega⟩
      rw [hj] at hk hK
      try simp
      refine take_of (n := n + 3 * j + 2) (hk.le (by omega)) (by omega) (by omega) fun s' r k' r1 r2 => ?_
      simp
      have hne : xs ≠ [] := by
        rcases h0 with h0 | h0
        · exact h0
        · omega
      have oks : ∀ y ∈ ys, PyData.strOk y = true := fun y hy' => h3 y (hy y hy')
      have app : ∀ (Z' : En), Z'.nx = K → vSeq (vDrop (vMth (methOf "append") (Opd.sl 3) [Opd.ex (vFz (vCall C__law_pick [] [Opd.sl 0, Opd.ex (vVar 1)]))])) vNext Z' [s'.O, .fz (.nd .lst (xs.map .str)), .fz (.int m), .own .lst (ys.map fun y => .fz (.str y)), .fz (.int k), xb] := by
        intro Z' hZ
        simp
        refine pick_of (n := n + 3 * j + 1) k' .lst (by simp; exact List.length_pos_iff.mpr hne) (by simpa using h1) fun s2 x k2 hx => ?_
        obtain ⟨x, hx, rfl⟩ := List.mem_map.mp hx
        simp [append_of (show (ys.map fun y => O.fz (D.str y)).length < sizeLine by simp; omega)]
        rw [hZ]
        refine hK (k - (ys ++ [x]).length) _ (by simp; omega) ⟨s2, ys ++ [x], xb, by simp, k2.le (by simp; omega), by simp; omega, rfl, ?_⟩
        intro y hy'
        rcases List.mem_append.mp hy' with z | z
        · exact hy y z
        · simp at z; subst z; simpa using hx
      refine brT_of (fun h1 => ?_) (fun h1 => ?_)
      · simp [ne_strs0 oks]
        refine brS_of (fun h4 => ?_) (fun _ => app _ rfl)
        simp at h4
        simp
        refine take_of (n := n + 3 * j + 1) k' (by have := List.length_pos_iff.mpr h4; omega) (by omega) fun s2 r k2 r1 r2 => ?_
        obtain ⟨i, rfl⟩ : ∃ i : Nat, r = i := ⟨r.toNat, by omega⟩
        simp
        refine take_of (n := n + 3 * j) k2 (by omega) (by omega) fun s3 r k3 r3 r4 => ?_
        obtain ⟨a, rfl⟩ : ∃ i : Nat, r = i := ⟨r.toNat, by omega⟩
        obtain ⟨z, e⟩ : ∃ z : Nat, (i : Int) + 1 + (a : Int) = z := ⟨i + 1 + a, by omega⟩
        simp [e, cut_mid (show i ≤ (ys.map D.str).length by simp; omega)]
        rw [if_pos (by omega)]
        show K _
        refine hK (k - (ys ++ (ys.drop i).take (z - i)).length) _ (by simp; omega) ⟨s3, ys ++ (ys.drop i).take (z - i), .fz (.int i), ?_, k3.le (by simp; omega), by simp; omega, rfl, ?_⟩
        · simp [List.map_append, List.map_take, List.map_drop, Function.comp_def]
        · intro y hy'
          rcases List.mem_append.mp hy' with q | q
          · exact hy y q
          · exact hy y (List.mem_of_mem_drop (List.mem_of_mem_take q))
      · exact brS_of (fun z => by rw [h1] at z; cases z) (fun _ => app _ rfl)
    · simp at h
      exact hJ _ ⟨s, ys, xb, rfl, hk.le (by omega), hy⟩
  rintro c ⟨s, ys, xb, rfl, hk, hy⟩
  simp
  exact rt _ _ (hQ s _ hk ⟨ys.take k, by simp [List.map_take]; rfl, by simp; omega, fun y h => hy y (List.mem_of_mem_take h)⟩)
theorem log_of {s : Dr} {xs : List Str} {m n : Nat} {ops : List Opd} {c : Cf} {E : XP} {Q : DK} (hk : s.K (n + (1 + 3 * m))) (h0 : xs ≠ [] ∨ m = 0) (h1 : ∀ x ∈ xs, PyData.strOk x = true) (h2 : xs.length < 1000000) (h3 : m ≤ 1000)
    (h : ∀ (s' : Dr) (ys : List Str), s'.K n → ys.length ≤ m → (∀ y ∈ ys, y ∈ xs) → Q (.own .lst (ys.map fun y => .fz (.str y))) (putOps ops c [s'.O, .fz (.nd .lst (xs.map .str)), .fz (.int m)])) : goC C__law_log [s.O, .fz (.nd .lst (xs.map .str)), .fz (.int m)] ops c E Q :=
  goC_of ⟨s, [.nd .lst (xs.map .str), .int m], n, _, _, rfl, ⟨xs, m, rfl, h0, h1, h2, h3, rfl, rfl⟩, hk, fun s' _ k' ⟨ys, e, r1, r2⟩ => by subst e; exact h s' ys k' r1 r2⟩
/-! ## the names of k04: any letters, now and then words -/
def letters : Str := "abcdefghijklmnopqrstuvwxyz"
theorem letters_eq : letters = ⟨#[97, 98, 99, 100, 101, 102, 103, 104, 105, 106, 107, 108, 109, 110, 111, 112, 113, 114, 115, 116, 117, 118, 119, 120, 121, 122]⟩ := by decide +kernel
theorem word_ok {x : Str} (h : word x) : PyData.strOk x = true := by
  unfold PyData.strOk
  rw [Array.all_eq_true']
  intro c hc
  have := h.2.2 c (by simpa using hc)
  simp
  omega
/-- distinct or not, words all -/
def F_names (ds : List D) (b : Nat) (R : O → Prop) : Prop := ∃ m : Nat, ds = [.int m] ∧ m ≤ 20 ∧ b = 12 * m ∧ R = fun o => ∃ ys : List Str, o = .own .lst (ys.map fun y => .fz (.str y)) ∧ ys.length = m ∧ ys.Nodup ∧ ∀ y ∈ ys, word y
abbrev C__law_names := CDr F_names
def T__law_names4 : DS := (vSeq (vAsgT (gT 2 (gsCons (gN 2) (gsCons (gN 3) gsNil))) (vTup [Opd.ex (vC (D.str (("abcdefghijklmnopqrstuvwxyz" : Str)))), Opd.ex (vLst [])])) (vSeq (vFor [Opd.sl 1] itRng1 (gN 4) (vSeq (vAsg 5 (vPure [Opd.ex (vC (D.int 1)), Opd.ex (vCall C__law_take [] [Opd.sl 0, Opd.ex (vFz (vCall C__law_pick [] [Opd.sl 0, Opd.ex (vFz (vLst [Opd.ex (vC (D.int 1)), Opd.ex (vC (D.int 1)), Opd.ex (vC (D.int 2)), Opd.ex (vC (D.int 6))]))]))])] (bfD bfAdd))) (vSeq (vAsg 6 (vMth (methOf (("join" : Str))) (Opd.ex (vC (D.str (("" : Str))))) [Opd.ex (vFz (vLc [7] [Opd.sl 5] itRng1 (gN 7) vYes (vFz (vCall C__law_pick [] [Opd.sl 0, Opd.ex (vVar 2)]))))])) (vSeq (vIfS (vCmpT [Opd.ex (vCall C__law_take [] [Opd.sl 0, Opd.ex (vC (D.int 8))]), Opd.ex (vC (D.int 0))] bfEq) (vSeq (vAsg 6 (vCall C__law_pick [] [Opd.sl 0, Opd.ex (vFz (vLst [Opd.ex (vC (D.str (("has" : Str)))), Opd.ex (vC (D.str (("left" : Str)))), Opd.ex (vC (D.str (("many" : Str)))), Opd.ex (vC (D.str (("yes" : Str)))), Opd.ex (vC (D.str (("no" : Str)))), Opd.ex (vC (D.str (("ok" : Str)))), Opd.ex (vC (D.str (("came" : Str)))), Opd.ex (vC (D.str (("what" : Str)))), Opd.ex (vC (D.str (("undo" : Str)))), Opd.ex (vC (D.str (("like" : Str)))), Opd.ex (vC (D.str (("full" : Str))))]))])) vNext) vNext) (vSeq (vIfS (vCmpT [Opd.sl 6, Opd.sl 3] (bfD (bfIn fun a => a))) (vSeq (vAsg 6 (vPure [Opd.ex (vLc [8] [Opd.ex (vFz (vLc [9] [Opd.ex (vVar 2)] itAny (gN 9) vYes (vFz (vPure [Opd.ex (vSl (Opd.sl 6) none (some (Opd.ex (vC (D.int 5))))), Opd.sl 9] (bfD bfAdd)))))] itAny (gN 8) (vCmpT [Opd.sl 8, Opd.sl 3] (bfD (bfIn fun x => !x))) (vVar 8)), Opd.ex (vC (D.int 0))] (bfD bfIx))) vNext) vNext) (vSeq (vDrop (vMth (methOf (("append" : Str))) (Opd.sl 3) [Opd.ex (vVar 6)])) vNext)))))) (vSeq (vRet (vMv 3)) vNext)))
theorem pick_strs {s : Dr} {xs : List Str} {n : Nat} {ops : List Opd} {c : Cf} {E : XP} {Q : DK} (hk : s.K (n + 1)) (h1 : xs ≠ []) (h2 : xs.length < 1000000) (h : ∀ (s' : Dr) (x : Str), s'.K n → x ∈ xs → Q (.fz (.str x)) (putOps ops c [s'.O, .fz (.nd .lst (xs.map .str))])) : goC C__law_pick [s.O, .fz (.nd .lst (xs.map .str))] ops c E Q :=
  pick_of hk .lst (by simpa using List.length_pos_iff.mpr h1) (by simpa using h2) fun s' x k' hx => by
    obtain ⟨y, hy, rfl⟩ := List.mem_map.mp hx
    exact h s' y k' hy
theorem pick_ints {s : Dr} {xs : List Int} {n : Nat} {ops : List Opd} {c : Cf} {E : XP} {Q : DK} (hk : s.K (n + 1)) (h1 : xs ≠ []) (h2 : xs.length < 1000000) (h : ∀ (s' : Dr) (x : Int), s'.K n → x ∈ xs → Q (.fz (.int x)) (putOps ops c [s'.O, .fz (.nd .lst (xs.map .int))])) : goC C__law_pick [s.O, .fz (.nd .lst (xs.map .int))] ops c E Q :=
  pick_of hk .lst (by simpa using List.length_pos_iff.mpr h1) (by simpa using h2) fun s' x k' hx => by
    obtain ⟨y, hy, rfl⟩ := List.mem_map.mp hx
    exact h s' y k' hy
theorem lett_len : ("abcdefghijklmnopqrstuvwxyz" : Str).length ≤ 1000 := by decide +kernel
theorem lett_26 : ("abcdefghijklmnopqrstuvwxyz" : Str).cps.toList.length = 26 := by decide +kernel
theorem lett_in : ∀ y ∈ ("abcdefghijklmnopqrstuvwxyz" : Str).cps.toList, 97 ≤ y ∧ y ≤ 122 := by decide +kernel
theorem pick_letter {s : Dr} {n : Nat} {ops : List Opd} {c : Cf} {E : XP} {Q : DK} (hk : s.K (n + 1)) (h : ∀ (s' : Dr) (x : Nat), s'.K n → 97 ≤ x → x ≤ 122 → Q (.fz (chD x)) (putOps ops c [s'.O, .fz (.str "abcdefghijklmnopqrstuvwxyz")])) : goC C__law_pick [s.O, .fz (.str "abcdefghijklmnopqrstuvwxyz")] ops c E Q :=
  pick_of hk (.str lett_len) (by rw [List.length_map, lett_26]; decide) (by rw [List.length_map, lett_26]; decide) fun s' x k' hx => by
    obtain ⟨y, hy, rfl⟩ := List.mem_map.mp hx
    exact h s' y k' (lett_in y hy).1 (lett_in y hy).2
theorem names_of {s : Dr} {m n : Nat} {ops : List Opd} {c : Cf} {E : XP} {Q : DK} (hk : s.K (n + 12 * m)) (h1 : m ≤ 20)
    (h : ∀ (s' : Dr) (ys : List Str), s'.K n → ys.length = m → ys.Nodup → (∀ y ∈ ys, word y) → Q (.own .lst (ys.map fun y => .fz (.str y))) (putOps ops c [s'.O, .fz (.int m)])) : goC C__law_names [s.O, .fz (.int m)] ops c E Q :=
  goC_of ⟨s, [.int m], n, _, _, rfl, ⟨m, rfl, h1, rfl, rfl⟩, hk, fun s' _ k' ⟨ys, e, r1, r2, r3⟩ => by subst e; exact h s' ys k' r1 r2 r3⟩
end VS
namespace VS
open PySem PySem.Spec PyProof.Rows L2 SX
local macro_rules | `(tactic| walk_at "mono") => `(tactic| repeat' (with_reducible first
  | exact mO_nil | apply mO_sl | apply mO_ex | exact mB_none | apply mB_some
  | exact vNext_mono | apply vSeq_mono | apply vAsg_mono | apply vPure_mono | exact vC_mono | exact vVar_mono | exact vMv_mono | apply vCmpT_mono | apply vCmpIx_mono | apply vIfS_mono | apply vRet_mono | apply vDrop_mono | apply vCall_mono
  | apply vFz_mono | apply vAsgT_mono | apply gSubD_mono | exact gN_mono | apply gT_mono | apply gsCons_mono | exact gsNil_mono | apply vAnd_mono | apply vOr_mono | apply vNot_mono | apply vTru_mono | apply vTup_mono | apply vLst_mono
  | apply vFor_mono | apply vWhile_mono | apply vPar_mono | apply vLc_mono | apply vDc_mono | exact vYes_mono | apply vMth_mono | apply vMthI_mono | apply vSl_mono | apply vAug_mono | apply vTest_mono | apply vChain_mono | apply vIf_mono | apply vAndV_mono | apply vOrV_mono | apply vNotV_mono | apply vDisp_mono
  | apply vBool_mono | apply vIsB_mono | exact vNewD_mono | exact vBreak_mono | exact vCont_mono | exact vNever_mono | exact vRetN_mono | exact CDr_mono | exact CPu_mono | apply arrC_mono))
instance : DecidablePred word := fun x => by unfold word; infer_instance
theorem words_ok : ∀ x ∈ (["has", "left", "many", "yes", "no", "ok", "came", "what", "undo", "like", "full"] : List Str), word x := by decide +kernel
/-- five signs at most, and a letter -/
def bent (w : Str) : D → D
  | .str x => .str (cutS w none (some 5) ++ x)
  | d => d
def bents (w : Str) : List Str := ("abcdefghijklmnopqrstuvwxyz" : Str).cps.toList.map fun c => cutS w none (some 5) ++ S [c]
def notIn (ys : List Str) : D → Bool
  | .str x => !decide (x ∈ ys)
  | _ => false
theorem bents_eq {w : Str} : (("abcdefghijklmnopqrstuvwxyz" : Str).cps.toList.map chD).map (fun d => O.fz (bent w d)) = (bents w).map fun x => .fz (.str x) := by
  unfold bents
  rw [List.map_map, List.map_map]
  rfl
theorem bents_26 {w : Str} : (bents w).length = 26 := by
  unfold bents
  rw [List.length_map, lett_26]
theorem lett_nd : ("abcdefghijklmnopqrstuvwxyz" : Str).cps.toList.Nodup := by decide +kernel
theorem bents_nd {w : Str} : (bents w).Nodup := by
  unfold bents
  refine List.Pairwise.map _ (fun a b h e => h ?_) lett_nd
  have e1 : ∀ c : Nat, (cutS w none (some 5) ++ S [c]).cps.toList = (cutS w none (some 5)).cps.toList ++ [c] := fun c => by
    show ((cutS w none (some 5)).cps ++ (S [c]).cps).toList = _
    simp
  have h2 := congrArg (fun z : Str => z.cps.toList) e
  simp only [e1] at h2
  exact (List.cons.inj (List.append_cancel_left h2)).1
theorem bents_word {w : Str} (h : word w) : ∀ x ∈ bents w, word x := by
  intro x hx
  obtain ⟨c, hc, rfl⟩ := List.mem_map.mp hx
  have h1 := lett_in c hc
  obtain ⟨w1, w2, w3⟩ := h
  have e : cutS w none (some 5) ++ S [c] = S (w.cps.toList.take 5 ++ [c]) := by
    rw [show w = S w.cps.toList from rfl, show (5 : Int) = ((5 : Nat) : Int) from rfl, cutS_to, S_cat]
  rw [e]
  refine ⟨by rw [S_len]; simp, by rw [S_len]; simp; omega, ?_⟩
  intro y hy
  simp at hy
  rcases hy with q | q
  · exact w3 y (by simpa using List.mem_of_mem_take q)
  · omega
theorem nodup_le {α : Type} [DecidableEq α] : ∀ {l m : List α}, l.Nodup → (∀ x ∈ l, x ∈ m) → l.length ≤ m.length
  | [], _, _, _ => Nat.zero_le _
  | a :: l, m, h, hs => by
    rw [List.nodup_cons] at h
    have ha := hs a (by simp)
    have := nodup_le (l := l) (m := m.erase a) h.2 fun x hx => (List.mem_erase_of_ne fun e => h.1 (by rw [← e]; exact hx)).mpr (hs x (by simp [hx]))
    rw [List.length_erase_of_mem ha] at this
    have := List.length_pos_of_mem ha
    simp
    omega
theorem bents_free {w : Str} (h : word w) {ys : List Str} (hl : ys.length < 26) : ∃ x r, ((bents w).map D.str).filter (notIn ys) = .str x :: r ∧ x ∉ ys ∧ word x := by
  have key : ∀ l : List Str, (∃ x ∈ l, x ∉ ys) → (∀ x ∈ l, word x) → ∃ x r, (l.map D.str).filter (notIn ys) = .str x :: r ∧ x ∉ ys ∧ word x := by
    intro l
    induction l with
    | nil => rintro ⟨x, hx, _⟩ _; cases hx
    | cons a l ih =>
      intro he hw
      by_cases ha : a ∈ ys
      · obtain ⟨x, hx, hn⟩ := he
        obtain ⟨x', r, e1, e2, e3⟩ := ih ⟨x, (List.mem_cons.mp hx).resolve_left fun e => hn (e ▸ ha), hn⟩ fun x hx => hw x (List.mem_cons_of_mem _ hx)
        exact ⟨x', r, by simp [notIn, ha]; exact e1, e2, e3⟩
      · exact ⟨a, _, by rw [List.map_cons, List.filter_cons_of_pos (by simp [notIn, ha])], ha, hw a (by simp)⟩
  refine key _ ?_ (bents_word h)
  by_cases hx : ∃ x ∈ bents w, x ∉ ys
  · exact hx
  · have := nodup_le (bents_nd (w := w)) (m := ys) fun x hx' => by
      by_cases z : x ∈ ys
      · exact z
      · exact absurd ⟨x, hx', z⟩ hx
    rw [bents_26] at this
    omega
theorem k_names4 : Keeps 10 2 [2, 3, 4, 5, 6] T__law_names4 C__law_names := by
  refine .of (fun E os Q Z ⟨s, ds, n, b, R, e, ⟨m, e1, h1, e2, e3⟩, hk, hQ⟩ rt nx ex => ?_) rfl
  subst e e1 e2 e3
  refine seqc (fun c => c = [s.O, .fz (.int m), .fz (.str "abcdefghijklmnopqrstuvwxyz"), .own .lst [], .bad, .bad, .bad, .bad, .bad, .bad]) (by walk_at "mono") (fun J hJ => ?_) ?_
  · simp [startC, mkT]
    exact hJ _ rfl
  rintro c rfl
  simp [rng1n (show m < 4611686018427387904 by omega)]
  refine forn (by walk_at "mono") (by walk_at "mono") (fun i c => ∃ (s : Dr) (ys : List Str) (x4 x5 x6 : O), c = [s.O, .fz (.int m), .fz (.str "abcdefghijklmnopqrstuvwxyz"), .own .lst (ys.map fun y => .fz (.str y)), x4, x5, x6, .bad, .bad, .bad] ∧ s.K (n + 12 * (m - i)) ∧ ys.length = i ∧ ys.Nodup ∧ ∀ y ∈ ys, word y) ⟨s, [], _, _, _, rfl, hk.le (by omega), rfl, by simp, by simp⟩ ?_ ?_
  · rintro K i d c hK hd ⟨s, ys, x4, x5, x6, rfl, hk, hl, hn, hw⟩
    have hi : i < m := by
      have := (List.getElem?_eq_some_iff.mp hd).1
      simp [rngD] at this
      omega
    obtain ⟨j, hj⟩ : ∃ j, m - i = j + 1 := ⟨m - i - 1, by omega⟩
    rw [hj] at hk
    refine ⟨by simp [keepOps], ?_⟩
    rw [g_n]
    refine seqc (fun c => ∃ (s : Dr) (l : Nat), c = [s.O, .fz (.int m), .fz (.str "abcdefghijklmnopqrstuvwxyz"), .own .lst (ys.map fun y => .fz (.str y)), .fz d, .fz (.int l), x6, .bad, .bad, .bad] ∧ s.K (n + 12 * j + 10) ∧ 1 ≤ l ∧ l ≤ 6) (by walk_at "mono") (fun J hJ => ?_) ?_
    · simp
      refine pick_ints (xs := [1, 1, 2, 6]) (n := n + 12 * j + 11) (hk.le (by omega)) (by simp) (by simp) fun s' x k' hx => ?_
      have hx' : 1 ≤ x ∧ x ≤ 6 := by simp at hx; omega
      simp
      refine take_of (n := n + 12 * j + 10) (k'.le (by omega)) (by omega) (by omega) fun s' r k' r1 r2 => ?_
      obtain ⟨a, rfl⟩ : ∃ i : Nat, r = i := ⟨r.toNat, by omega⟩
      simp
      refine hJ _ ⟨s', 1 + a, by simp, k', by omega, by omega⟩
    rintro c ⟨s, l, rfl, hk, l1, l2⟩
    refine seqc (fun c => ∃ (s : Dr) (w : Str), c = [s.O, .fz (.int m), .fz (.str "abcdefghijklmnopqrstuvwxyz"), .own .lst (ys.map fun y => .fz (.str y)), .fz d, .fz (.int l), .fz (.str w), .bad, .bad, .bad] ∧ s.K (n + 12 * j + 4) ∧ word w) (by walk_at "mono") (fun J hJ => ?_) ?_
    · simp [rng1n (show l < 4611686018427387904 by omega)]
      refine lcc (by walk_at "mono") (by walk_at "mono") (by walk_at "mono") (fun ds acc c => ∃ (s : Dr) (cs : List Nat), acc = cs.map (fun z => .fz (chD z)) ∧ cs.length + ds.length = l ∧ (∀ z ∈ cs, 97 ≤ z ∧ z ≤ 122) ∧ c = [s.O, .fz (.int m), .fz (.str "abcdefghijklmnopqrstuvwxyz"), .own .lst (ys.map fun y => .fz (.str y)), .fz d, .fz (.int l), x6, .bad, .bad, .bad] ∧ s.K (n + 12 * j + 4 + ds.length)) ⟨s, [], rfl, by simp [rngD], by simp, rfl, hk.le (by simp [rngD]; omega)⟩ ?_ ?_
      · rintro K d' ds acc c hK ⟨s, cs, rfl, hl, hcs, rfl, hk⟩
        simp [keepOps]
        refine pick_letter (n := n + 12 * j + 4 + ds.length) (hk.le (by simp; omega)) fun s' x k' hx1 hx2 => ?_
        simp at hl ⊢
        refine ⟨by omega, hK _ _ ⟨s', cs ++ [x], by simp, by simp; omega, ?_, by simp, k'⟩⟩
        intro z hz
        rcases List.mem_append.mp hz with q | q
        · exact hcs z q
        · simp at q; omega
      · rintro acc c ⟨s, cs, rfl, hl, hcs, rfl, hk⟩
        simp at hl
        simp [keepOps, join_signs (show cs.length ≤ 16777216 by omega)]
        exact hJ _ ⟨s, S cs, by simp, hk.le (by omega), by simp [S_len]; omega, by simp [S_len]; omega, by simpa using hcs⟩
    rintro c ⟨s, w, rfl, hk, hw1⟩
    refine seqc (fun c => ∃ (s : Dr) (w : Str), c = [s.O, .fz (.int m), .fz (.str "abcdefghijklmnopqrstuvwxyz"), .own .lst (ys.map fun y => .fz (.str y)), .fz d, .fz (.int l), .fz (.str w), .bad, .bad, .bad] ∧ s.K (n + 12 * j) ∧ word w) (by walk_at "mono") (fun J hJ => ?_) ?_
    · simp
      refine take_of (n := n + 12 * j + 3) hk (by omega) (by omega) fun s' r k' r1 r2 => ?_
      simp
      refine brS_of (fun h => ?_) (fun h => ?_)
      · simp
        refine pick_strs (xs := ["has", "left", "many", "yes", "no", "ok", "came", "what", "undo", "like", "full"]) (n := n + 12 * j + 2) (k'.le (by omega)) (by simp) (by simp) fun s2 x k2 hx => ?_
        simp
        exact hJ _ ⟨s2, x, rfl, k2.le (by omega), words_ok x hx⟩
      · simp
        exact hJ _ ⟨s', w, rfl, k'.le (by omega), hw1⟩
    rintro c ⟨s, w, rfl, hk, hw1⟩
    refine seqc (fun c => ∃ (w : Str), c = [s.O, .fz (.int m), .fz (.str "abcdefghijklmnopqrstuvwxyz"), .own .lst (ys.map fun y => .fz (.str y)), .fz d, .fz (.int l), .fz (.str w), .bad, .bad, .bad] ∧ word w ∧ w ∉ ys) (by walk_at "mono") (fun J hJ => ?_) ?_
    · simp [in_strs (word_ok hw1) (fun y hy => word_ok (hw y hy))]
      refine brS_of (fun h => ?_) (fun h => ?_)
      · have hwl : w.length ≤ 6 := hw1.2.1
        have oks : ∀ y ∈ ys, PyData.strOk y = true := fun y hy => word_ok (hw y hy)
        simp [it_str]
        refine lc_map (by walk_at "mono") (by walk_at "mono") (fun d => .fz (bent w d)) (by simp [keepOps]) (by rw [List.length_map, lett_26]; decide) ?_ ?_
        · intro d hd
          obtain ⟨z, hz, rfl⟩ := List.mem_map.mp hd
          have hc : (cutS w none (some 5)).length ≤ 5 := by
            rw [show w = S w.cps.toList from rfl, show (5 : Int) = ((5 : Nat) : Int) from rfl, cutS_to, S_len]
            simp
            omega
          have hc2 : (⟨#[z]⟩ : Str).length = 1 := rfl
          simp [cut_str (show w.length ≤ 16777216 by omega), chD]
          rw [cat_str (by omega)]
          simp [bent]
        · rw [bents_eq]
          simp
          refine lc_filter (by walk_at "mono") (by walk_at "mono") (by walk_at "mono") (notIn ys) .fz (by simp [keepOps]) (by rw [List.length_map, bents_26]; decide) ?_ ?_
          · intro d hd
            obtain ⟨x, hx, rfl⟩ := List.mem_map.mp hd
            simp [in_strs (word_ok (bents_word hw1 x hx)) oks, notIn]
          · obtain ⟨x, r, e, hx, hxw⟩ := bents_free hw1 (ys := ys) (by omega)
            rw [e]
            simp [atI, ixN]
            exact hJ _ ⟨x, rfl, hxw, hx⟩
      · simp at h
        simp
        exact hJ _ ⟨w, rfl, hw1, h⟩
    rintro c ⟨w, rfl, hw1, hn1⟩
    simp [append_of (show (ys.map fun y => O.fz (D.str y)).length < sizeLine by simp; omega)]
    refine hK _ ⟨s, ys ++ [w], .fz d, .fz (.int l), .fz (.str w), by simp, hk.le (by omega), by simp [hl], ?_, ?_⟩
    · rw [List.nodup_append]
      exact ⟨hn, by simp, fun a ha b hb => by simp at hb; subst hb; exact fun e => hn1 (e ▸ ha)⟩
    · intro y hy
      rcases List.mem_append.mp hy with q | q
      · exact hw y q
      · simp at q; subst q; exact hw1
  · rintro c ⟨s, ys, x4, x5, x6, rfl, hk, hl, hn, hw⟩
    refine ⟨by simp [keepOps], ?_⟩
    simp
    exact rt _ _ (hQ s _ (hk.le (by omega)) ⟨ys, rfl, by simpa [rngD] using hl, hn, hw⟩)
end VS
namespace VS
open PySem PySem.Spec PyProof.Rows L2 SX
local macro_rules | `(tactic| walk_at "mono") => `(tactic| repeat' (with_reducible first
  | exact mO_nil | apply mO_sl | apply mO_ex | exact mB_none | apply mB_some
  | exact vNext_mono | apply vSeq_mono | apply vAsg_mono | apply vPure_mono | exact vC_mono | exact vVar_mono | exact vMv_mono | apply vCmpT_mono | apply vCmpIx_mono | apply vIfS_mono | apply vRet_mono | apply vDrop_mono | apply vCall_mono
  | apply vFz_mono | apply vAsgT_mono | apply gSubD_mono | exact gN_mono | apply gT_mono | apply gsCons_mono | exact gsNil_mono | apply vAnd_mono | apply vOr_mono | apply vNot_mono | apply vTru_mono | apply vTup_mono | apply vLst_mono
  | apply vFor_mono | apply vWhile_mono | apply vPar_mono | apply vLc_mono | apply vDc_mono | exact vYes_mono | apply vMth_mono | apply vMthI_mono | apply vSl_mono | apply vAug_mono | apply vTest_mono | apply vChain_mono | apply vIf_mono | apply vAndV_mono | apply vOrV_mono | apply vNotV_mono | apply vDisp_mono
  | apply vBool_mono | apply vIsB_mono | exact vNewD_mono | exact vBreak_mono | exact vCont_mono | exact vNever_mono | exact vRetN_mono | exact CDr_mono | exact CPu_mono | apply arrC_mono))
/-! ## names, logs -/
def isNm (x : Str) : Bool := decide (1 ≤ x.length) && decide (x.length ≤ 6) && x.cps.toList.all fun c => decide (c ∈ ("abcdefghijklmnopqrstuvwxyz" : Str).cps.toList)
def F_is_name (ds : List D) (R : O → Prop) : Prop := ∃ x : Str, ds = [.str x] ∧ x.length ≤ 1000000 ∧ R = fun o => o = .fz (.bl (isNm x))
abbrev C_is_name := CPu F_is_name
def T_is_name (kitT : Value → Value → Option Bool) (clsT : Addr → Bool) : DS := (vSeq (vIfS (vOr (vNot (vTru (Opd.ex (vPure [Opd.sl 0, Opd.ex (vC (D.val (V.ty "str")))] (bfD (bfIsi kitT clsT)))))) (vNot (vTest (vChain (Opd.ex (vC (D.int 1))) (Opd.ex (vPure [Opd.sl 0] (bfD bfLen))) (Opd.ex (vC (D.int 6))) (bfD bfLe) (bfD bfLe))))) (vSeq (vRet (vC (D.bl false))) vNext) vNext) (vSeq (vRet (vPure [Opd.ex (vLc [1] [Opd.ex (vVar 0)] itAny (gN 1) vYes (vFz (vPure [Opd.sl 1, Opd.ex (vC (D.str (("abcdefghijklmnopqrstuvwxyz" : Str))))] (bfD (bfIn fun a => a)))))] (bfD (bfAll fun x => x.all id)))) vNext))
theorem in_sign {f : Bool → Bool} {c : Nat} {L : Str} : bfIn f [.str ⟨#[c]⟩, .str L] = some (.fz (.bl (f (decide (c ∈ L.cps.toList))))) := by
  show some _ = _
  rw [StrLaws.found_one]
def inLet : D → D
  | .str x => .bl (x.cps.toList.all fun c => decide (c ∈ ("abcdefghijklmnopqrstuvwxyz" : Str).cps.toList))
  | d => d
theorem T_is_name_mono {kitT : Value → Value → Option Bool} {clsT : Addr → Bool} : MonoS (T_is_name kitT clsT) := by unfold T_is_name; walk_at "mono"
theorem k_is_name {kitT : Value → Value → Option Bool} {clsT : Addr → Bool} : Keeps 2 1 [] (T_is_name kitT clsT) C_is_name := by
  refine .of (fun E os Q Z ⟨ds, R, e, ⟨x, e1, h1, e2⟩, hQ⟩ rt nx ex => ?_) rfl
  subst e e1 e2
  have hi : bfIsi kitT clsT [.str x, .val (.ty "str")] = some (.fz (.bl true)) := rfl
  simp [T_is_name, startC, hi, len_str (show x.length ≤ 16777216 by omega)]
  refine brP_of (fun h => ?_) (fun h => ?_)
  · simp at h
    simp [fz1]
    refine brS_of (fun h2 => ?_) (fun h2 => ?_)
    · simp at h2
      have e : isNm x = false := by simp [isNm]; omega
      try simp
      exact rt _ _ (hQ _ (by rw [e]))
    · simp at h2
      simp [it_str]
      refine lc_map (by walk_at "mono") (by walk_at "mono") (fun d => .fz (inLet d)) (by simp [keepOps]) (by rw [List.length_map]; show x.length ≤ _; omega) ?_ ?_
      · intro d hd
        obtain ⟨z, hz, rfl⟩ := List.mem_map.mp hd
        simp [chD, inLet, in_sign]
      · have e : List.map O.tip (List.map (fun d => O.fz (inLet d)) (x.cps.toList.map chD)) = (x.cps.toList.map fun c => decide (c ∈ ("abcdefghijklmnopqrstuvwxyz" : Str).cps.toList)).map D.bl := by
          rw [List.map_map, List.map_map, List.map_map]
          refine List.map_congr_left fun c _ => ?_
          simp [inLet, chD]
        show obS (bfAll (fun x => x.all id) [D.nd .lst _]) _
        rw [e]
        simp only [allS, obS_some]
        refine rt _ _ (hQ _ ?_)
        have : isNm x = (x.cps.toList.all fun c => decide (c ∈ ("abcdefghijklmnopqrstuvwxyz" : Str).cps.toList)) := by
          unfold isNm
          rw [decide_eq_true (show 1 ≤ x.length by omega), decide_eq_true (show x.length ≤ 6 by omega)]
          rfl
        rw [this, List.all_map]
        rfl
  · simp at h
    have e : isNm x = false := by simp [isNm]; omega
    try simp
    exact rt _ _ (hQ _ (by rw [e]))
theorem pure_of {F : List D → (O → Prop) → Prop} {ds : List D} {R : O → Prop} {os : List O} {ops : List Opd} {c : Cf} {E : XP} {Q : DK} (e : os = ds.map .fz) (hF : F ds R) (h : ∀ r, R r → Q r (putOps ops c (ds.map .fz))) : goC (CPu F) os ops c E Q := goC_of ⟨ds, R, e, hF, h⟩
/-- a list or tuple of texts -/
inductive Seq : D → List Str → Prop
  | lst {xs} : Seq (.nd .lst (xs.map .str)) xs
  | tup {xs} : Seq (.nd .tup (xs.map .str)) xs
theorem Seq.of {d : D} {xs : List Str} (h : Seq d xs) : seqOf d = some (xs.map .str) := by cases h <;> rfl
theorem Seq.nb {d : D} {xs : List Str} (h : Seq d xs) : isBad (.fz d) = false := by cases h <;> rfl
theorem Seq.it {d : D} {xs : List Str} (h : Seq d xs) : itAny [.fz d] = some (xs.map .str) := by cases h <;> rfl
theorem Seq.enum {d : D} {xs : List Str} (h : Seq d xs) : itEnum [.fz d] = some (enumD 0 (xs.map .str)) := by
  simp [itEnum, h.of]
def F_first_wrong (ds : List D) (R : O → Prop) : Prop := ∃ d xs, ds = [d] ∧ Seq d xs ∧ (∀ x ∈ xs, x.length ≤ 1000000) ∧ R = fun o => o = match xs.findIdx? (fun x => !isNm x) with
  | some i => .fz (.int i)
  | none => .fz .non
abbrev C_first_wrong := CPu F_first_wrong
def T_first_wrong : DS := (vSeq (vFor [Opd.ex (vVar 0)] itEnum (gT 2 (gsCons (gN 1) (gsCons (gN 2) gsNil))) (vSeq (vIfS (vNot (vTru (Opd.ex (vCall C_is_name [] [Opd.ex (vVar 2)])))) (vSeq (vRet (vMv 1)) vNext) vNext) vNext)) (vSeq (vRet (vC D.non)) vNext))
theorem k_first_wrong : Keeps 3 1 [1, 2] T_first_wrong C_first_wrong := by
  refine .of (fun E os Q Z ⟨ds, R, e, ⟨d, xs, e1, hs, hl, e2⟩, hQ⟩ rt nx ex => ?_) rfl
  subst e e1 e2
  simp [T_first_wrong, startC, hs.nb, hs.enum]
  refine forn (by walk_at "mono") (by walk_at "mono") (fun i c => ∃ x1 x2, c = [.fz d, x1, x2] ∧ ∀ j y, j < i → xs[j]? = some y → isNm y = true) ⟨_, _, rfl, by simp⟩ ?_ ?_
  · rintro K i it c hK hi ⟨x1, x2, rfl, hj⟩
    obtain ⟨e, h1, h2⟩ := enumD_at hi
    obtain ⟨x, hx, rfl⟩ := List.mem_map.mp (List.mem_of_getElem? h1)
    rw [List.getElem?_map] at h1
    obtain ⟨x', h3, h4⟩ := Option.map_eq_some_iff.mp h1
    cases h4
    subst h2
    simp [keepOps]
    refine pure_of (ds := [.str x]) rfl ⟨x, rfl, hl x hx, rfl⟩ fun r hr => ?_
    subst hr
    simp
    refine brS_of (fun h => ?_) (fun h => ?_)
    · simp at h
      simp
      refine rt _ _ (hQ _ ?_)
      have e : xs.findIdx? (fun x => !isNm x) = some i := by
        rw [List.findIdx?_eq_some_iff_getElem]
        obtain ⟨q1, q2⟩ := List.getElem?_eq_some_iff.mp h3
        refine ⟨q1, by rw [q2, h]; rfl, fun j hji => ?_⟩
        have := hj j (xs[j]'(by omega)) hji (List.getElem?_eq_getElem _)
        simp [this]
      rw [e]
    · simp at h
      simp
      refine hK _ ⟨_, _, rfl, fun j y hj' hy => ?_⟩
      by_cases z : j = i
      · subst z
        rw [h3] at hy
        cases hy
        exact h
      · exact hj j y (by omega) hy
  · rintro c ⟨x1, x2, rfl, hj⟩
    simp [keepOps]
    refine rt _ _ (hQ _ ?_)
    have e : xs.findIdx? (fun x => !isNm x) = none := by
      rw [List.findIdx?_eq_none_iff]
      intro x hx
      obtain ⟨j, q1, q2⟩ := List.getElem_of_mem hx
      have := hj j x (by rw [enumD_len]; simpa using q1) (by rw [← q2]; exact List.getElem?_eq_getElem _)
      simp [this]
    rw [e]
def F_need_log (ds : List D) (R : O → Prop) : Prop := ∃ d xs, ds = [d] ∧ Seq d xs ∧ (∀ x ∈ xs, isNm x = true) ∧ R = fun o => o = .fz .non
abbrev C_need_log := CPu F_need_log
def T_need_log (kitT : Value → Value → Option Bool) (clsT : Addr → Bool) : DS := (vSeq (vIfS (vNot (vTru (Opd.ex (vPure [Opd.sl 0, Opd.ex (vTup [Opd.ex (vC (D.val (V.ty "list"))), Opd.ex (vC (D.val (V.ty "tuple")))])] (bfD (bfIsi kitT clsT)))))) (vSeq vNever vNext) vNext) (vSeq (vAsg 1 (vCall C_first_wrong [] [Opd.ex (vVar 0)])) (vSeq (vIfS (vCmpT [Opd.sl 1, Opd.ex (vC D.non)] (bfD (bfIsN fun x => !x))) (vSeq vNever vNext) vNext) vNext)))
theorem isNm_len {x : Str} (h : isNm x = true) : x.length ≤ 6 := by
  simp [isNm] at h
  omega
theorem k_need_log {kitT : Value → Value → Option Bool} {clsT : Addr → Bool} : Keeps 2 1 [1] (T_need_log kitT clsT) C_need_log := by
  refine .of (fun E os Q Z ⟨ds, R, e, ⟨d, xs, e1, hs, hl, e2⟩, hQ⟩ rt nx ex => ?_) rfl
  subst e e1 e2
  have hi : bfIsi kitT clsT [d, .nd .tup [.val (.ty "list"), .val (.ty "tuple")]] = some (.fz (.bl true)) := by cases hs <;> rfl
  have ht : bfIsN (fun x => !x) [.non, .non] = some (.fz (.bl false)) := rfl
  simp [T_need_log, startC, hs.nb, mkT, hi]
  refine pure_of (ds := [d]) rfl ⟨d, xs, rfl, hs, fun x hx => Nat.le_trans (isNm_len (hl x hx)) (by decide), rfl⟩ fun r hr => ?_
  have e : xs.findIdx? (fun x => !isNm x) = none := by
    rw [List.findIdx?_eq_none_iff]
    intro x hx
    simp [hl x hx]
  rw [e] at hr
  subst hr
  simp [ht]
  exact nx _ (hQ _ rfl)
end VS
namespace VS
open PySem
/-! ## depths: plain law -/
section
variable {α : Type} [DecidableEq α]
/-- the depths of what comes, from what is coming -/
def dep : (α → Nat) → List α → List Nat
  | _, [] => []
  | cm, x :: r => cm x :: dep (fun y => if y = x then cm x + 1 else min (cm y) (cm x + 1)) r
def depths (l : List α) : List Nat := dep (fun _ => 1) l
theorem dep_len : ∀ (l : List α) (cm : α → Nat), (dep cm l).length = l.length
  | [], _ => rfl
  | x :: r, cm => by rw [dep, List.length_cons, List.length_cons, dep_len r]
/-- node p: 0 is the start, p + 1 event p -/
def nd (ds : List Nat) : Nat → Nat
  | 0 => 0
  | p + 1 => ds.getD p 0
/-- x is coming: fewest jumps to an event x behind the events pre -/
structure Coming (pre : List α) (ds : List Nat) (cm : α → Nat) : Prop where
  le : ∀ y p, p ≤ pre.length → y ∉ pre.drop p → cm y ≤ nd ds p + 1
  ex : ∀ y, ∃ p, p ≤ pre.length ∧ y ∉ pre.drop p ∧ cm y = nd ds p + 1
theorem nd_app {ds es : List Nat} {p : Nat} (h : p ≤ ds.length) : nd (ds ++ es) p = nd ds p := by
  cases p with
  | zero => rfl
  | succ p =>
    simp only [nd, List.getD_eq_getElem?_getD]
    rw [List.getElem?_append_left (by omega)]
theorem Coming.next {pre : List α} {ds : List Nat} {cm : α → Nat} (hl : ds.length = pre.length) (h : Coming pre ds cm) (x : α) : Coming (pre ++ [x]) (ds ++ [cm x]) (fun y => if y = x then cm x + 1 else min (cm y) (cm x + 1)) := by
  have last : nd (ds ++ [cm x]) (pre.length + 1) = cm x := by
    simp [nd, List.getD_eq_getElem?_getD, ← hl]
  refine ⟨fun y p hp hy => ?_, fun y => ?_⟩
  · by_cases e : p = pre.length + 1
    · subst e
      rw [last]
      by_cases z : y = x
      · simp [z]
      · simp only [if_neg z]; omega
    · have hp' : p ≤ pre.length := by simp at hp; omega
      rw [List.drop_append_of_le_length hp'] at hy
      simp at hy
      have := h.le y p hp' hy.1
      rw [nd_app (by omega)]
      simp only [if_neg hy.2]
      omega
  · by_cases z : y = x
    · refine ⟨pre.length + 1, by simp, ?_, ?_⟩
      · rw [List.drop_of_length_le (by simp)]; simp
      · rw [last, if_pos z]
    · obtain ⟨p, h1, h2, h3⟩ := h.ex y
      by_cases q : cm y ≤ cm x + 1
      · refine ⟨p, by simp; omega, ?_, ?_⟩
        · rw [List.drop_append_of_le_length h1]
          simp [h2, z]
        · rw [nd_app (by omega), if_neg z]
          omega
      · refine ⟨pre.length + 1, by simp, ?_, ?_⟩
        · rw [List.drop_of_length_le (by simp)]; simp
        · rw [last, if_neg z]
          omega
theorem Coming.start : Coming ([] : List α) [] (fun _ => 1) := ⟨fun y p hp _ => by simp at hp; subst hp; simp [nd], fun y => ⟨0, by simp, by simp, rfl⟩⟩
/-- at each event: the coming depth of its name -/
theorem dep_at : ∀ (l pre : List α) (ds : List Nat) (cm : α → Nat), ds.length = pre.length → Coming pre ds cm → ∀ j x, l[j]? = some x →
    ∃ cm', Coming (pre ++ l.take j) ((ds ++ dep cm l).take (pre.length + j)) cm' ∧ (dep cm l)[j]? = some (cm' x)
  | [], _, _, _, _, _, j, x, h => by simp at h
  | a :: l, pre, ds, cm, hl, hc, 0, x, h => by
    simp at h
    subst h
    refine ⟨cm, ?_, by simp [dep]⟩
    simp [← hl]
    have : pre = pre := rfl
    exact hc
  | a :: l, pre, ds, cm, hl, hc, j + 1, x, h => by
    obtain ⟨cm', h1, h2⟩ := dep_at l (pre ++ [a]) (ds ++ [cm a]) _ (by simp [hl]) (hc.next hl a) j x (by simpa using h)
    refine ⟨cm', ?_, by simpa [dep] using h2⟩
    have e1 : pre ++ [a] ++ l.take j = pre ++ (a :: l).take (j + 1) := by simp
    have e2 : ds ++ [cm a] ++ dep (fun y => if y = a then cm a + 1 else min (cm y) (cm a + 1)) l = ds ++ dep cm (a :: l) := by simp [dep]
    rw [e1, e2] at h1
    have e3 : (pre ++ [a]).length + j = pre.length + (j + 1) := by simp; omega
    rw [e3] at h1
    exact h1
theorem nd_take {ds : List Nat} {p k : Nat} (h : p ≤ k) : nd (ds.take k) p = nd ds p := by
  cases p with
  | zero => rfl
  | succ p =>
    simp only [nd, List.getD_eq_getElem?_getD]
    rw [List.getElem?_take_of_lt (by omega)]
/-- a jump leads no further than one deeper -/
theorem jump_le {l : List α} {p j : Nat} {x : α} (hp : p ≤ j) (hx : l[j]? = some x) (hn : x ∉ (l.take j).drop p) : nd (depths l) (j + 1) ≤ nd (depths l) p + 1 := by
  obtain ⟨cm, h1, h2⟩ := dep_at l [] [] (fun _ => 1) rfl Coming.start j x hx
  have hj : j < l.length := (List.getElem?_eq_some_iff.mp hx).1
  have := h1.le x p (by simp; omega) (by simpa using hn)
  have e : nd (depths l) (j + 1) = cm x := by
    simp only [nd, List.getD_eq_getElem?_getD]
    unfold depths
    rw [h2]
    rfl
  rw [e]
  have e2 := nd_take (ds := depths l) (p := p) (k := j) hp
  simp only [List.nil_append, List.length_nil, Nat.zero_add] at this
  rw [show nd (List.take j (dep (fun _ => 1) l)) p = nd (depths l) p from e2] at this
  exact this
/-- some jump leads there -/
theorem jump_ex {l : List α} {j : Nat} {x : α} (hx : l[j]? = some x) : ∃ p, p ≤ j ∧ x ∉ (l.take j).drop p ∧ nd (depths l) (j + 1) = nd (depths l) p + 1 := by
  obtain ⟨cm, h1, h2⟩ := dep_at l [] [] (fun _ => 1) rfl Coming.start j x hx
  have hj : j < l.length := (List.getElem?_eq_some_iff.mp hx).1
  obtain ⟨p, q1, q2, q3⟩ := h1.ex x
  have hp : p ≤ j := by simp at q1; omega
  have e : nd (depths l) (j + 1) = cm x := by
    simp only [nd, List.getD_eq_getElem?_getD]
    unfold depths
    rw [h2]
    rfl
  refine ⟨p, hp, by simpa using q2, ?_⟩
  rw [e, q3]
  simp only [List.nil_append, List.length_nil, Nat.zero_add]
  rw [show nd (List.take j (dep (fun _ => 1) l)) p = nd (depths l) p from nd_take (ds := depths l) hp]
theorem depths_len (l : List α) : (depths l).length = l.length := dep_len l _
/-- depths are no greater than the place -/
theorem depth_le {l : List α} : ∀ j, j ≤ l.length → nd (depths l) j ≤ j := by
  intro j
  induction j using Nat.strongRecOn with
  | _ j ih =>
    intro hj
    cases j with
    | zero => exact Nat.le_refl 0
    | succ j =>
      obtain ⟨p, h1, _, h3⟩ := jump_ex (l := l) (j := j) (x := l[j]'(by omega)) (List.getElem?_eq_getElem (by omega))
      have := ih p (by omega) (by omega)
      omega
theorem depth_pos {l : List α} {j : Nat} (h : j < l.length) : 1 ≤ nd (depths l) (j + 1) := by
  obtain ⟨p, h1, _, h3⟩ := jump_ex (l := l) (j := j) (x := l[j]'(by omega)) (List.getElem?_eq_getElem (by omega))
  omega
/-- the first place of a name behind p is led to by a jump -/
theorem first_jump {l : List α} {p : Nat} {x : α} (h : x ∈ l.drop p) : (l.drop p).idxOf x + p < l.length ∧ l[p + (l.drop p).idxOf x]? = some x ∧ x ∉ (l.take (p + (l.drop p).idxOf x)).drop p := by
  have h1 := List.idxOf_lt_length_of_mem h
  have h2 : (l.drop p)[(l.drop p).idxOf x]'h1 = x := List.getElem_idxOf h1
  refine ⟨by simp at h1; omega, ?_, ?_⟩
  · rw [← List.getElem?_drop, List.getElem?_eq_getElem h1, h2]
  · rw [List.drop_take]
    intro hm
    rw [Nat.add_sub_cancel_left] at hm
    obtain ⟨i, hi, e⟩ := List.getElem_of_mem hm
    simp at hi e
    have : (l.drop p)[i]'(by simp; omega) = x := by simpa using e
    have q := List.not_of_lt_findIdx (p := (· == x)) (xs := l.drop p) (i := i) (by simp only [List.idxOf] at hi; omega)
    simp at q
    exact q (by simpa using e)
theorem idx_first {l : List α} {p j : Nat} {x : α} (hp : p ≤ j) (hx : l[j]? = some x) (hn : x ∉ (l.take j).drop p) : (l.drop p).idxOf x = j - p ∧ x ∈ l.drop p := by
  have hj : j < l.length := (List.getElem?_eq_some_iff.mp hx).1
  have e : (l.drop p)[j - p]? = some x := by rw [List.getElem?_drop, show p + (j - p) = j by omega]; exact hx
  have hm : x ∈ l.drop p := List.mem_of_getElem? e
  refine ⟨?_, hm⟩
  have h1 := first_jump hm
  by_cases z : (l.drop p).idxOf x < j - p
  · exfalso
    refine hn ?_
    have : ((l.take j).drop p)[(l.drop p).idxOf x]? = some x := by
      rw [List.getElem?_drop, List.getElem?_take_of_lt (by omega)]
      exact h1.2.1
    exact List.mem_of_getElem? this
  · by_cases z2 : j - p < (l.drop p).idxOf x
    · exfalso
      have := List.not_of_lt_findIdx (p := (· == x)) (xs := l.drop p) (i := j - p) (by simpa [List.idxOf] using z2)
      obtain ⟨h3, h4⟩ := List.getElem?_eq_some_iff.mp e
      simp at this
      exact this (by simpa using h4)
    · omega
end
end VS
namespace VS
open PySem PySem.Spec PyProof.Rows L2 SX
local macro_rules | `(tactic| walk_at "mono") => `(tactic| repeat' (with_reducible first
  | exact mO_nil | apply mO_sl | apply mO_ex | exact mB_none | apply mB_some
  | exact vNext_mono | apply vSeq_mono | apply vAsg_mono | apply vPure_mono | exact vC_mono | exact vVar_mono | exact vMv_mono | apply vCmpT_mono | apply vCmpIx_mono | apply vIfS_mono | apply vRet_mono | apply vDrop_mono | apply vCall_mono
  | apply vFz_mono | apply vAsgT_mono | apply gSubD_mono | exact gN_mono | apply gT_mono | apply gsCons_mono | exact gsNil_mono | apply vAnd_mono | apply vOr_mono | apply vNot_mono | apply vTru_mono | apply vTup_mono | apply vLst_mono
  | apply vFor_mono | apply vWhile_mono | apply vPar_mono | apply vLc_mono | apply vDc_mono | exact vYes_mono | apply vMth_mono | apply vMthI_mono | apply vSl_mono | apply vAug_mono | apply vTest_mono | apply vChain_mono | apply vIf_mono | apply vAndV_mono | apply vOrV_mono | apply vNotV_mono | apply vDisp_mono
  | apply vBool_mono | apply vIsB_mono | exact vNewD_mono | exact vBreak_mono | exact vCont_mono | exact vNever_mono | exact vRetN_mono | exact CDr_mono | exact CPu_mono | apply arrC_mono))
/-! ## dicts by texts -/
theorem hasK_map {ks : List Str} {x : Str} : hasK (ks.map (Sum.inr : Str → Key)) (.inr x) = decide (x ∈ ks) := by
  induction ks with
  | nil => rfl
  | cons y ks ih =>
    rw [List.map_cons, hasK_cons, ih]
    rw [Bool.eq_iff_iff]
    simp
    exact ⟨fun q => q.imp Eq.symm id, fun q => q.imp Eq.symm id⟩
theorem getK_map {ks : List Str} {f : Str → D} {x : Str} (h : x ∈ ks) : getK ((ks.map (Sum.inr : Str → Key)).zip (ks.map f)) (.inr x) = some (f x) := by
  induction ks with
  | nil => cases h
  | cons y ks ih =>
    simp only [List.map_cons, List.zip_cons_cons, getK_cons]
    by_cases e : y = x
    · subst e; simp
    · rw [if_neg (by simpa using e)]
      exact ih ((List.mem_cons.mp h).resolve_left fun z => e z.symm)
theorem setKs_const {ks : List Str} {o : O} {x : Str} : setKs (ks.map (Sum.inr : Str → Key)) (ks.map fun _ => o) (.inr x) o = ks.map fun _ => o := by
  induction ks with
  | nil => rfl
  | cons y ks ih => simp [ih]
theorem dc_map {vs : List Nat} {kp : Cf → Prop} {g : DG} {tk tv : DE} {k : List Key → List O → Cf → Prop} {c : Cf} (mg : MonoG g) (mk : Mono tk) (mv : Mono tv) (ks : List Str) (hn : ks.Nodup) (f : Str → D) (hk : kp c) (hl : ks.length ≤ 16777216)
    (h : ∀ y ∈ ks, g (.fz (.str y)) c fun c1 => tk noX c1 fun ko c3 => ko.sh = .str y ∧ tv noX c3 fun vo c4 => vo = .fz (f y) ∧ dropAll vs c4 = c) (he : k (ks.map .inr) (ks.map fun y => .fz (f y)) c) : vDcL vs kp g vYes tk tv (ks.map .str) [] [] c k := by
  refine dcL_list mg vYes_mono mk mv (fun ds kk acc c' => ∃ pre suf, ks = pre ++ suf ∧ ds = suf.map .str ∧ kk = pre.map .inr ∧ acc = pre.map (fun y => .fz (f y)) ∧ c' = c) ?_ ?_ _ _ _ _ ⟨[], ks, rfl, rfl, rfl, rfl, rfl⟩
  · rintro d ds kk acc _ ⟨pre, suf, e, hd, rfl, rfl, rfl⟩
    cases suf with
    | nil => cases hd
    | cons y suf =>
      cases hd
      have hy : y ∈ ks := by rw [e]; simp
      have hnot : y ∉ pre := by
        rw [e, List.nodup_append] at hn
        exact fun q => hn.2.2 y q y (by simp) rfl
      refine ⟨hk, mg _ _ _ _ (fun c1 q => ?_) (h y hy)⟩
      simp only [s_yes, brP_lock, brP_t]
      refine mk _ _ _ _ _ (fun _ _ _ z => z) (fun ko c3 z => ?_) q
      obtain ⟨z1, z2⟩ := z
      refine mv _ _ _ _ _ (fun _ _ _ z => z) (fun vo c4 z => ?_) z2
      obtain ⟨z3, z4⟩ := z
      rw [z1]
      show (pre.map fun y => O.fz (f y)).length < 16777216 ∧ _
      have e2 : putP (pre.map (Sum.inr : Str → Key)) (pre.map fun y => O.fz (f y)) (.inr y) vo = (pre.map .inr ++ [.inr y], (pre.map fun y => O.fz (f y)) ++ [vo]) := by
        rw [putP_eq, hasK_map, if_neg (by simpa using hnot)]
      rw [e2]
      refine ⟨by rw [e] at hl; simp at hl ⊢; omega, pre ++ [y], suf, by rw [e]; simp, rfl, by simp, by simp [z3], z4⟩
  · rintro kk acc _ ⟨pre, suf, e, hd, rfl, rfl, rfl⟩
    have : suf = [] := by cases suf with
      | nil => rfl
      | cons _ _ => cases hd
    subst this
    rw [List.append_nil] at e
    subst e
    exact ⟨hk, he⟩
/-! ## depths -/
def F_depths_of (ds : List D) (R : O → Prop) : Prop := ∃ d xs, ds = [d] ∧ Seq d xs ∧ (∀ x ∈ xs, PyData.strOk x = true) ∧ xs.length ≤ 1000000 ∧ R = fun o => o = .own .lst ((depths xs).map fun n => .fz (.int (n : Nat)))
abbrev C_depths_of := CPu F_depths_of
def T_depths_of : DS := (vSeq (vAsg 1 (vDc [3] [Opd.ex (vVar 0)] itAny (gN 3) vYes (vVar 3) (vFz (vC (D.int 1))))) (vSeq (vAsg 2 (vLst [])) (vSeq (vFor [Opd.ex (vVar 0)] itAny (gN 3) (vSeq (vAsg 4 (vPure [Opd.sl 1, Opd.sl 3] (bfD bfIx))) (vSeq (vDrop (vMth (methOf (("append" : Str))) (Opd.sl 2) [Opd.ex (vVar 4)])) (vSeq (vAsg 1 (vDc [5] [Opd.ex (vVar 1)] itAny (gN 5) vYes (vVar 5) (vFz (vIf (vCmpT [Opd.sl 5, Opd.sl 3] bfEq) (vPure [Opd.sl 4, Opd.ex (vC (D.int 1))] (bfD bfAdd)) (vPure [Opd.ex (vPure [Opd.sl 1, Opd.sl 5] (bfD bfIx)), Opd.ex (vPure [Opd.sl 4, Opd.ex (vC (D.int 1))] (bfD bfAdd))] (bfD bfMin)))))) vNext)))) (vSeq (vRet (vMv 2)) vNext))))
def cmO (ks : List Str) (cm : Str → Nat) : O := .own (.dK (ks.map .inr)) (ks.map fun y => .fz (.int (cm y : Nat)))
theorem k_depths_of : Keeps 6 1 [1, 2, 3, 4] T_depths_of C_depths_of := by
  refine .of (fun E os Q Z ⟨ds, R, e, ⟨d, xs, e1, hs, hok, hl, e2⟩, hQ⟩ rt nx ex => ?_) rfl
  subst e e1 e2
  refine seqc (fun c => ∃ ks : List Str, c = [.fz d, cmO ks (fun _ => 1), .bad, .bad, .bad, .bad] ∧ ks.Nodup ∧ ks.length ≤ xs.length ∧ ∀ x ∈ xs, x ∈ ks) (by walk_at "mono") (fun J hJ => ?_) ?_
  · simp [startC, hs.nb, hs.it]
    refine dcc (by walk_at "mono") (by walk_at "mono") (by walk_at "mono") (by walk_at "mono") (fun ds kk acc c => ∃ (pre suf ks : List Str), xs = pre ++ suf ∧ ds = suf.map .str ∧ kk = ks.map .inr ∧ acc = ks.map (fun _ => .fz (.int 1)) ∧ ks.Nodup ∧ ks.length ≤ pre.length ∧ (∀ x ∈ pre, x ∈ ks) ∧ c = [.fz d, .bad, .bad, .bad, .bad, .bad]) ⟨[], xs, [], rfl, rfl, rfl, rfl, by simp, by simp, by simp, rfl⟩ ?_ ?_
    · rintro K d' ds kk acc c hK ⟨pre, suf, ks, e, hd, rfl, rfl, hn, hkl, hm, rfl⟩
      cases suf with
      | nil => cases hd
      | cons x suf =>
        cases hd
        have hlen : pre.length < xs.length := by rw [e]; simp
        simp [keepOps, keyOf, hasK_map]
        refine ⟨by omega, ?_⟩
        by_cases hx : x ∈ ks
        · simp only [hx, decide_true, if_true]
          rw [setKs_const]
          refine hK _ _ _ ⟨pre ++ [x], suf, ks, by rw [e]; simp, rfl, rfl, rfl, hn, by simp; omega, ?_, rfl⟩
          intro y hy
          rcases List.mem_append.mp hy with q | q
          · exact hm y q
          · simp at q; subst q; exact hx
        · simp only [hx, decide_false, if_false, Bool.false_eq_true]
          refine hK _ _ _ ⟨pre ++ [x], suf, ks ++ [x], by rw [e]; simp, rfl, by simp, by simp, ?_, by simp; omega, ?_, rfl⟩
          · rw [List.nodup_append]
            exact ⟨hn, by simp, fun a ha b hb => by simp at hb; subst hb; exact fun e => hx (e ▸ ha)⟩
          · intro y hy
            rcases List.mem_append.mp hy with q | q
            · simp [hm y q]
            · simp at q; subst q; simp
    · rintro kk acc c ⟨pre, suf, ks, e, hd, rfl, rfl, hn, hkl, hm, rfl⟩
      have : suf = [] := by cases suf with
        | nil => rfl
        | cons _ _ => cases hd
      subst this
      simp [keepOps]
      rw [List.append_nil] at e
      subst e
      exact hJ _ ⟨ks, by simp [cmO], hn, hkl, hm⟩
  rintro c ⟨ks, rfl, hn, hkl, hm⟩
  have nbc : ∀ cm, isBad (cmO ks cm) = false := fun _ => rfl
  simp [hs.nb, hs.it]
  refine forc (by walk_at "mono") (by walk_at "mono") (fun ds c => ∃ (pre suf : List Str) (cm : Str → Nat) (x3 x4 : O), xs = pre ++ suf ∧ ds = suf.map .str ∧ c = [.fz d, cmO ks cm, .own .lst (((depths xs).take pre.length).map fun n => .fz (.int (n : Nat))), x3, x4, .bad] ∧ (depths xs).drop pre.length = dep cm suf) ⟨[], xs, fun _ => 1, .bad, .bad, rfl, rfl, by simp, by simp [depths]⟩ ?_ ?_
  · rintro K d' ds c hK ⟨pre, suf, cm, x3, x4, e, hd, rfl, hdep⟩
    cases suf with
    | nil => cases hd
    | cons x suf =>
      cases hd
      have hx : x ∈ ks := hm x (by rw [e]; simp)
      have hlen : pre.length < xs.length := by rw [e]; simp
      simp [keepOps, cmO, getK_map hx]
      rw [append_of (by rw [List.length_take, List.length_map, depths_len]; simp; omega)]
      simp
      have hks : ks.map (keyD ∘ (Sum.inr : Str → Key)) = ks.map D.str := rfl
      rw [hks]
      refine dc_map (by walk_at "mono") (by walk_at "mono") (by walk_at "mono") ks hn (fun y => .int ((if y = x then cm x + 1 else min (cm y) (cm x + 1) : Nat))) (by simp [keepOps]) (by omega) ?_ ?_
      · intro y hy
        simp
        by_cases z : y = x
        · subst z
          simp
        · simp [z, getK_map hy]
          omega
      · simp
        have hsp : (depths xs)[pre.length]? = some (cm x) := by
          have := congrArg (fun l : List Nat => l[0]?) hdep
          simpa [dep] using this
        refine hK _ ⟨pre ++ [x], suf, (fun y => if y = x then cm x + 1 else min (cm y) (cm x + 1)), .fz (.str x), .fz (.int (cm x : Nat)), by rw [e]; simp, rfl, ?_, ?_⟩
        · simp only [cmO, List.length_append, List.length_cons, List.length_nil, Nat.zero_add]
          rw [List.take_add_one, hsp, List.map_append, ← List.map_take]
          rfl
        · have := congrArg (List.drop 1) hdep
          simpa [dep] using this
  · rintro c ⟨pre, suf, cm, x3, x4, e, hd, rfl, hdep⟩
    have : suf = [] := by cases suf with
      | nil => rfl
      | cons _ _ => cases hd
    subst this
    simp [keepOps]
    rw [List.append_nil] at e
    subst e
    exact rt _ _ (hQ _ (by rw [List.take_of_length_le (by rw [List.length_map, depths_len]; exact Nat.le_refl _)]))
end VS
namespace VS
open PySem PySem.Spec PyProof.Rows L2 SX
local macro_rules | `(tactic| walk_at "mono") => `(tactic| repeat' (with_reducible first
  | exact mO_nil | apply mO_sl | apply mO_ex | exact mB_none | apply mB_some
  | exact vNext_mono | apply vSeq_mono | apply vAsg_mono | apply vPure_mono | exact vC_mono | exact vVar_mono | exact vMv_mono | apply vCmpT_mono | apply vCmpIx_mono | apply vIfS_mono | apply vRet_mono | apply vDrop_mono | apply vCall_mono
  | apply vFz_mono | apply vAsgT_mono | apply gSubD_mono | exact gN_mono | apply gT_mono | apply gsCons_mono | exact gsNil_mono | apply vAnd_mono | apply vOr_mono | apply vNot_mono | apply vTru_mono | apply vTup_mono | apply vLst_mono
  | apply vFor_mono | apply vWhile_mono | apply vPar_mono | apply vLc_mono | apply vDc_mono | exact vYes_mono | apply vMth_mono | apply vMthI_mono | apply vSl_mono | apply vAug_mono | apply vTest_mono | apply vChain_mono | apply vIf_mono | apply vAndV_mono | apply vOrV_mono | apply vNotV_mono | apply vDisp_mono
  | apply vBool_mono | apply vIsB_mono | exact vNewD_mono | exact vBreak_mono | exact vCont_mono | exact vNever_mono | exact vRetN_mono | exact CDr_mono | exact CPu_mono | apply arrC_mono))
/-! ## dicts by numbers -/
theorem hasK_mapN {js : List Nat} {j : Nat} : hasK (js.map fun j : Nat => (Sum.inl (j : Int) : Key)) (.inl (j : Int)) = decide (j ∈ js) := by
  induction js with
  | nil => rfl
  | cons y ks ih =>
    rw [List.map_cons, hasK_cons, ih]
    rw [Bool.eq_iff_iff]
    simp
    exact ⟨fun q => q.imp (fun z => by omega) id, fun q => q.imp (fun z => by omega) id⟩
theorem getK_mapN {js : List Nat} {f : Nat → D} {j : Nat} (h : j ∈ js) : getK ((js.map fun j : Nat => (Sum.inl (j : Int) : Key)).zip (js.map f)) (.inl (j : Int)) = some (f j) := by
  induction js with
  | nil => cases h
  | cons y ks ih =>
    simp only [List.map_cons, List.zip_cons_cons, getK_cons]
    by_cases e : y = j
    · subst e; simp
    · rw [if_neg (by simp; omega)]
      exact ih ((List.mem_cons.mp h).resolve_left fun z => e z.symm)
theorem getK_someN {js : List Nat} {f : Nat → D} {j : Nat} : (getK ((js.map fun j : Nat => (Sum.inl (j : Int) : Key)).zip (js.map f)) (.inl (j : Int))).isSome = decide (j ∈ js) := by
  by_cases h : j ∈ js
  · rw [getK_mapN h]; simp [h]
  · simp only [h, decide_false]
    induction js with
    | nil => rfl
    | cons y ks ih =>
      simp only [List.map_cons, List.zip_cons_cons, getK_cons]
      rw [if_neg (by simp; intro e; exact h (by simp; omega))]
      exact ih fun z => h (List.mem_cons_of_mem _ z)
@[simp] theorem in_dKi {f : Bool → Bool} {x : Int} {ks : List Key} {ds : List D} : bfIn f [.int x, .nd (.dK ks) ds] = some (.fz (.bl (f (getK (ks.zip ds) (.inl x)).isSome))) := rfl
theorem find_strs {x : Str} : ∀ {l : List Str}, x ∈ l → findEq (.str x) (l.map .str) = some (l.idxOf x)
  | [], h => by cases h
  | y :: l, h => by
    by_cases e : y = x
    · subst e
      simp [findEq, PyData.eqv]
    · have hm := (List.mem_cons.mp h).resolve_left fun z => e z.symm
      have hb : PyData.eqv (.str y) (.str x) = false := by simpa [PyData.eqv] using e
      rw [List.idxOf_cons, show (y == x) = false from by simpa using e]
      simp [findEq, hb, find_strs hm]
theorem index_strs {o : O} {l : List Str} {x : Str} (h : o.view = .nd .lst (l.map .str)) (hl : ∀ y ∈ l, PyData.strOk y = true) (hx : x ∈ l) : bfIndex [o, .fz (.str x)] = some (.fz (.int (l.idxOf x : Nat))) := by
  have e1 : shPD (.str x) = some (.str x) := by
    simp [shPD, toPD, SeqAt.shaped, PyData.canLay0, hl x hx, PyData.depth]
  simp [bfIndex, h, sh_strs hl, e1, find_strs hx]
/-! ## this law's own depths -/
def F_ldepths (ds : List D) (R : O → Prop) : Prop := ∃ xs : List Str, ds = [.nd .lst (xs.map .str)] ∧ (∀ x ∈ xs, PyData.strOk x = true) ∧ xs.length ≤ 100000 ∧ R = fun o => o = .own .lst ((depths xs).map fun n => .fz (.int (n : Nat)))
abbrev C__law_depths := CPu F_ldepths
def T__law_depths : DS := (vSeq (vAsgT (gT 3 (gsCons (gN 1) (gsCons (gN 2) (gsCons (gN 3) gsNil)))) (vTup [Opd.ex vNewD, Opd.ex (vLst [Opd.ex (vFz (vPure [Opd.ex (vC (D.int 1))] (bfD bfNeg)))]), Opd.ex (vC (D.int 0))])) (vSeq (vWhile (vCmpT [Opd.sl 2, Opd.ex (vLst [])] bfNe) (vSeq (vPar [3, 4] [Opd.ex (vPure [Opd.sl 3, Opd.ex (vC (D.int 1))] (bfD bfAdd)), Opd.ex (vLst [])]) (vSeq (vFor [Opd.ex (vVar 2)] itAny (gN 5) (vSeq (vFor [Opd.ex (vFz (vSl (Opd.sl 0) (some (Opd.ex (vPure [Opd.sl 5, Opd.ex (vC (D.int 1))] (bfD bfAdd)))) none))] itAny (gN 6) (vSeq (vAsg 7 (vPure [Opd.ex (vPure [Opd.sl 5, Opd.ex (vC (D.int 1))] (bfD bfAdd)), Opd.ex (vMth (methOf (("index" : Str))) (Opd.ex (vSl (Opd.sl 0) (some (Opd.ex (vPure [Opd.sl 5, Opd.ex (vC (D.int 1))] (bfD bfAdd)))) none)) [Opd.ex (vVar 6)])] (bfD bfAdd))) (vSeq (vIfS (vCmpT [Opd.sl 7, Opd.sl 1] (bfD (bfIn fun x => !x))) (vSeq (vAsgT (gSubD 1 (Opd.sl 7)) (vVar 3)) (vSeq (vDrop (vMth (methOf (("append" : Str))) (Opd.sl 4) [Opd.ex (vVar 7)])) vNext)) vNext) vNext))) vNext)) (vSeq (vAsg 2 (vVar 4)) vNext)))) (vSeq (vRet (vLc [5] [Opd.ex (vPure [Opd.sl 0] (bfD bfLen))] itRng1 (gN 5) vYes (vFz (vPure [Opd.sl 1, Opd.sl 5] (bfD bfIx))))) vNext)))
def fdO (D' : Nat → Nat) (js : List Nat) : O := .own (.dK (js.map fun j : Nat => .inl (j : Int))) (js.map fun j => .fz (.int (D' j : Nat)))
/-- a jump from node p to event j -/
def edge (xs : List Str) (p j : Nat) : Prop := p ≤ j ∧ ∃ x, xs[j]? = some x ∧ x ∉ (xs.take j).drop p
/-- within a round -/
structure Rnd (xs : List Str) (m : Nat) (js ls : List Nat) : Prop where
  nd : js.Nodup
  lt : ∀ j ∈ js, j < xs.length ∧ VS.nd (depths xs) (j + 1) ≤ m + 1
  old : ∀ j, j < xs.length → VS.nd (depths xs) (j + 1) ≤ m → j ∈ js
  new : ∀ j, j ∈ ls ↔ j ∈ js ∧ VS.nd (depths xs) (j + 1) = m + 1
  len : ls.length ≤ js.length
theorem Rnd.small {xs : List Str} {m : Nat} {js ls : List Nat} (h : Rnd xs m js ls) : js.length ≤ xs.length := by
  have := nodup_le (m := List.range xs.length) h.nd fun j hj => List.mem_range.mpr (h.lt j hj).1
  simpa using this
theorem Rnd.add {xs : List Str} {m : Nat} {js ls : List Nat} (h : Rnd xs m js ls) {p j : Nat} (hp : VS.nd (depths xs) p = m) (he : edge xs p j) (hj : j ∉ js) : VS.nd (depths xs) (j + 1) = m + 1 ∧ Rnd xs m (js ++ [j]) (ls ++ [j]) := by
  obtain ⟨h1, x, h2, h3⟩ := he
  have hlt := (List.getElem?_eq_some_iff.mp h2).1
  have hle := jump_le h1 h2 h3
  have hgt : ¬ VS.nd (depths xs) (j + 1) ≤ m := fun q => hj (h.old j hlt q)
  have e : VS.nd (depths xs) (j + 1) = m + 1 := by omega
  refine ⟨e, ?_, ?_, fun i hi q => by simp [h.old i hi q], fun i => ?_, by simp; exact h.len⟩
  · rw [List.nodup_append]
    exact ⟨h.nd, by simp, fun a ha b hb => by simp at hb; subst hb; exact fun e => hj (e ▸ ha)⟩
  · intro i hi
    rcases List.mem_append.mp hi with q | q
    · exact h.lt i q
    · simp at q; subst q; exact ⟨hlt, by omega⟩
  · simp only [List.mem_append, List.mem_singleton, h.new i]
    constructor
    · rintro (⟨q1, q2⟩ | rfl)
      · exact ⟨.inl q1, q2⟩
      · exact ⟨.inr rfl, e⟩
    · rintro ⟨q1 | q1, q2⟩
      · exact .inl ⟨q1, q2⟩
      · exact .inr q1
theorem depths_range {xs : List Str} : (List.range xs.length).map (fun j => VS.nd (depths xs) (j + 1)) = depths xs := by
  apply List.ext_getElem
  · simp [depths_len]
  · intro i h1 h2
    simp [VS.nd, List.getD_eq_getElem?_getD, List.getElem?_eq_getElem h2]
theorem none_deeper {xs : List Str} {m : Nat} (h : ∀ p, p ≤ xs.length → VS.nd (depths xs) p = m → False) : ∀ j, j < xs.length → VS.nd (depths xs) (j + 1) ≤ m := by
  have key : ∀ p, p ≤ xs.length → VS.nd (depths xs) p ≤ m := by
    intro p
    induction p using Nat.strongRecOn with
    | _ p ih =>
      intro hp
      cases p with
      | zero => exact Nat.zero_le _
      | succ j =>
        obtain ⟨q, z1, _, z3⟩ := jump_ex (l := xs) (j := j) (x := xs[j]) (List.getElem?_eq_getElem (by omega))
        have h1 := ih q (by omega) (by omega)
        by_cases e : VS.nd (depths xs) q = m
        · exact (h q (by omega) e).elim
        · omega
  exact fun j hj => key (j + 1) hj
theorem k_ldepths : Keeps 8 1 [1, 2, 3, 4, 5, 6, 7] T__law_depths C__law_depths := by
  refine .of (fun E os Q Z ⟨ds, R, e, ⟨xs, e1, hok, hl, e2⟩, hQ⟩ rt nx ex => ?_) rfl
  subst e e1 e2
  refine seqc (fun c => c = [.fz (.nd .lst (xs.map .str)), fdO (fun j => VS.nd (depths xs) (j + 1)) [], .own .lst [.fz (.int (-1))], .fz (.int 0), .bad, .bad, .bad, .bad]) (by walk_at "mono") (fun J hJ => ?_) ?_
  · simp [startC, mkT, vNewD]
    exact .inl (hJ _ rfl)
  rintro c rfl
  refine seqc (fun c => ∃ (js : List Nat) (x2 x3 x4 x5 x6 x7 : O), c = [.fz (.nd .lst (xs.map .str)), fdO (fun j => VS.nd (depths xs) (j + 1)) js, x2, x3, x4, x5, x6, x7] ∧ ∀ j, j < xs.length → j ∈ js) (by walk_at "mono") (fun J hJ => ?_) ?_
  · refine whilec (by walk_at "mono") (fun k c => ∃ (js ps : List Nat) (o2 x4 x5 x6 x7 : O) (m : Nat), c = [.fz (.nd .lst (xs.map .str)), fdO (fun j => VS.nd (depths xs) (j + 1)) js, o2, .fz (.int (m : Nat)), x4, x5, x6, x7] ∧ isBad o2 = false ∧ o2.view = .nd .lst ((ps.map fun p : Nat => (p : Int) - 1).map .int) ∧
        js.Nodup ∧ (∀ j, j ∈ js ↔ j < xs.length ∧ VS.nd (depths xs) (j + 1) ≤ m) ∧ (∀ p, p ∈ ps ↔ p ≤ xs.length ∧ VS.nd (depths xs) p = m) ∧ k = xs.length + 1 - m) (xs.length + 1)
      ⟨[], [0], _, _, _, _, _, 0, rfl, rfl, rfl, by simp, ?_, ?_, by simp⟩ ?_
    · intro j
      simp
      intro hj
      have := depth_pos hj
      omega
    · intro p
      simp
      constructor
      · rintro rfl; exact ⟨Nat.zero_le _, rfl⟩
      · rintro ⟨h1, h2⟩
        cases p with
        | zero => rfl
        | succ p => have := depth_pos (l := xs) (j := p) (by omega); omega
    rintro K k c hK ⟨js, ps, o2, x4, x5, x6, x7, m, rfl, hb2, hv2, hnd, hjs, hps, rfl⟩
    simp [hb2, bfNe, eqN_ints (m := []) hv2 (b := .own .lst []) rfl]
    refine brW_of (fun h => ?_) (fun h => ?_)
    · simp at h
      refine seqc (fun c => c = [.fz (.nd .lst (xs.map .str)), fdO (fun j => VS.nd (depths xs) (j + 1)) js, o2, .fz (.int (m + 1 : Nat)), .own .lst [], x5, x6, x7]) (by walk_at "mono") (fun J hJ => ?_) ?_
      · simp
        exact hJ _ rfl
      rintro c rfl
      have hmn : m ≤ xs.length := by
        cases ps with
        | nil => exact absurd rfl h
        | cons p ps =>
          obtain ⟨h1, h2⟩ := (hps p).mp (by simp)
          have := depth_le (l := xs) p h1
          omega
      refine seqc (fun c => ∃ (js ls : List Nat) (x2 x5 x6 x7 : O), c = [.fz (.nd .lst (xs.map .str)), fdO (fun j => VS.nd (depths xs) (j + 1)) js, x2, .fz (.int (m + 1 : Nat)), .own .lst (ls.map fun j : Nat => .fz (.int (j : Int))), x5, x6, x7] ∧ Rnd xs m js ls ∧ ∀ p ∈ ps, ∀ j, edge xs p j → j ∈ js) (by walk_at "mono") (fun J hJ => ?_) ?_
      · simp [hb2, hv2]
        generalize O.fz (D.nd Tag.lst (List.map (D.int ∘ fun p : Nat => (p : Int) - 1) ps)) = H2
        refine forc (by walk_at "mono") (by walk_at "mono") (fun ds c => ∃ (pre suf js ls : List Nat) (x5 x6 x7 : O), ps = pre ++ suf ∧ ds = suf.map (fun p : Nat => .int ((p : Int) - 1)) ∧ c = [.fz (.nd .lst (xs.map .str)), fdO (fun j => VS.nd (depths xs) (j + 1)) js, H2, .fz (.int (m + 1 : Nat)), .own .lst (ls.map fun j : Nat => .fz (.int (j : Int))), x5, x6, x7] ∧ Rnd xs m js ls ∧ ∀ p ∈ pre, ∀ j, edge xs p j → j ∈ js)
          ⟨[], ps, js, [], x5, x6, x7, rfl, by simp, by simp, ?_, by simp⟩ ?_ ?_
        · refine ⟨hnd, fun j hj => ?_, fun j h1 h2 => (hjs j).mpr ⟨h1, h2⟩, fun j => ?_, by simp⟩
          · have := (hjs j).mp hj
            exact ⟨this.1, by omega⟩
          · simp
            intro hj
            have := (hjs j).mp hj
            omega
        · rintro K d ds c hK ⟨pre, suf, js, ls, x5, x6, x7, e, hd, rfl, hr, hall⟩
          cases suf with
          | nil => cases hd
          | cons p suf =>
            cases hd
            obtain ⟨hp1, hp2⟩ := (hps p).mp (by rw [e]; simp)
            simp [keepOps]
            refine forc (by walk_at "mono") (by walk_at "mono") (fun ds c => ∃ (pn sn : List Str) (js ls : List Nat) (x6 x7 : O), xs.drop p = pn ++ sn ∧ ds = sn.map .str ∧ c = [.fz (.nd .lst (xs.map .str)), fdO (fun j => VS.nd (depths xs) (j + 1)) js, H2, .fz (.int (m + 1 : Nat)), .own .lst (ls.map fun j : Nat => .fz (.int (j : Int))), .fz (.int ((p : Int) - 1)), x6, x7] ∧ Rnd xs m js ls ∧ (∀ p ∈ pre, ∀ j, edge xs p j → j ∈ js) ∧ ∀ j, edge xs p j → (∃ x ∈ pn, xs[j]? = some x) → j ∈ js)
              ⟨[], xs.drop p, js, ls, x6, x7, rfl, (by
                simp
                rw [← List.map_drop, ← List.map_drop, O.views_eq, List.map_map]
                rfl), by simp, hr, hall, by simp⟩ ?_ ?_
            · rintro K d ds c hK ⟨pn, sn, js, ls, x6, x7, e', hd, rfl, hr, hall, hpn⟩
              cases sn with
              | nil => cases hd
              | cons x sn =>
                cases hd
                have hx : x ∈ xs.drop p := by rw [e']; simp
                have hix := index_strs (o := .own .lst (List.drop p (List.map (O.fz ∘ D.str) xs))) (l := xs.drop p) (x := x) (by
                  show D.nd .lst (O.views _) = _
                  rw [← List.map_drop, O.views_eq, List.map_map]
                  rfl) (fun y hy => hok y (List.mem_of_mem_drop hy)) hx
                obtain ⟨f1, f2, f3⟩ := first_jump hx
                obtain ⟨j, hj⟩ : ∃ j, j = p + (xs.drop p).idxOf x := ⟨_, rfl⟩
                have ej : (p : Int) + ((xs.drop p).idxOf x : Nat) = (j : Int) := by omega
                rw [← hj] at f2 f3
                have hedge : edge xs p j := ⟨by omega, x, f2, f3⟩
                have nxt : ∀ js' ls' o7, Rnd xs m js' ls' → (∀ i ∈ js, i ∈ js') → j ∈ js' → K [.fz (.nd .lst (xs.map .str)), fdO (fun j => VS.nd (depths xs) (j + 1)) js', H2, .fz (.int (m + 1 : Nat)), .own .lst (ls'.map fun j : Nat => .fz (.int (j : Int))), .fz (.int ((p : Int) - 1)), .fz (.str x), o7] := by
                  intro js' ls' o7 hr' hsub hj'
                  refine hK _ ⟨pn ++ [x], sn, js', ls', .fz (.str x), o7, by rw [e']; simp, rfl, rfl, hr', fun q hq i hi => hsub i (hall q hq i hi), ?_⟩
                  rintro i hi ⟨y, hy, hxy⟩
                  rcases List.mem_append.mp hy with z | z
                  · exact hsub i (hpn i hi ⟨y, z, hxy⟩)
                  · simp at z
                    subst z
                    obtain ⟨z1, y', z2, z3⟩ := hi
                    rw [hxy] at z2
                    cases z2
                    have := (idx_first z1 hxy z3).1
                    have : i = j := by omega
                    rw [this]
                    exact hj'
                simp [keepOps, hix, ej, fdO, getK_someN]
                refine brS_of (fun h => ?_) (fun h => ?_)
                · simp at h
                  obtain ⟨hD, hr'⟩ := hr.add hp2 hedge h
                  have hsm := hr.small
                  simp [hasK_mapN, h]
                  rw [if_pos (show js.length < 16777216 by omega)]
                  simp
                  rw [append_of (by simp; have := hr.len; omega)]
                  simp
                  have := nxt _ _ (.fz (.int j)) hr' (fun i hi => by simp [hi]) (by simp)
                  simpa [fdO, hD] using this
                · simp at h
                  simp
                  have := nxt _ _ (.fz (.int j)) hr (fun i hi => hi) h
                  simpa [fdO] using this
            · rintro c ⟨pn, sn, js, ls, x6, x7, e', hd, rfl, hr, hall, hpn⟩
              have : sn = [] := by cases sn with
                | nil => rfl
                | cons _ _ => cases hd
              subst this
              rw [List.append_nil] at e'
              simp [keepOps]
              refine hK _ ⟨pre ++ [p], suf, js, ls, _, x6, x7, by rw [e]; simp, rfl, rfl, hr, ?_⟩
              intro q hq j hj
              rcases List.mem_append.mp hq with z | z
              · exact hall q z j hj
              · simp at z
                subst z
                obtain ⟨z1, x, z2, z3⟩ := hj
                refine hpn j ⟨z1, x, z2, z3⟩ ⟨x, ?_, z2⟩
                rw [← e']
                exact (idx_first z1 z2 z3).2
        · rintro c ⟨pre, suf, js, ls, x5, x6, x7, e, hd, rfl, hr, hall⟩
          have : suf = [] := by cases suf with
            | nil => rfl
            | cons _ _ => cases hd
          subst this
          rw [List.append_nil] at e
          subst e
          exact ⟨by simp [keepOps], hJ _ ⟨js, ls, _, x5, x6, x7, rfl, hr, hall⟩⟩
      rintro c ⟨js, ls, x2, x5, x6, x7, rfl, hr, hall⟩
      simp
      refine hK (xs.length + 1 - (m + 1)) _ (by omega) ⟨js, ls.map (· + 1), .fz (.nd .lst (ls.map fun j : Nat => .int (j : Int))), _, _, _, _, m + 1, rfl, rfl, by simp [Function.comp_def], hr.nd, fun j => ?_, fun p => ?_, rfl⟩
      · constructor
        · exact fun q => hr.lt j q
        · rintro ⟨q1, q2⟩
          by_cases z : VS.nd (depths xs) (j + 1) ≤ m
          · exact hr.old j q1 z
          · obtain ⟨p, z1, z2, z3⟩ := jump_ex (l := xs) (j := j) (x := xs[j]) (List.getElem?_eq_getElem q1)
            exact hall p ((hps p).mpr ⟨by omega, by omega⟩) j ⟨z1, _, List.getElem?_eq_getElem q1, z2⟩
      · simp only [List.mem_map]
        constructor
        · rintro ⟨j, hj, rfl⟩
          obtain ⟨q1, q2⟩ := (hr.new j).mp hj
          exact ⟨by have := (hr.lt j q1).1; omega, q2⟩
        · rintro ⟨q1, q2⟩
          cases p with
          | zero => simp [VS.nd] at q2
          | succ j =>
            refine ⟨j, (hr.new j).mpr ⟨?_, q2⟩, rfl⟩
            obtain ⟨p, z1, z2, z3⟩ := jump_ex (l := xs) (j := j) (x := xs[j]) (List.getElem?_eq_getElem (by omega))
            exact hall p ((hps p).mpr ⟨by omega, by omega⟩) j ⟨z1, _, List.getElem?_eq_getElem (by omega), z2⟩
    · simp at h
      refine hJ _ ⟨js, _, _, _, _, _, _, rfl, fun j hj => (hjs j).mpr ⟨hj, ?_⟩⟩
      subst h
      exact none_deeper (fun p hp e => by simpa using (hps p).mpr ⟨hp, e⟩) j hj
  rintro c ⟨js, x2, x3, x4, x5, x6, x7, rfl, hjs⟩
  simp [rng1n (show xs.length < 4611686018427387904 by omega)]
  refine lc_map (by walk_at "mono") (by walk_at "mono") (fun d => match d with
    | .int i => .fz (.int (VS.nd (depths xs) (i.toNat + 1) : Nat))
    | d => .fz d) (by simp [keepOps]) (by simp [rngD]; omega) ?_ ?_
  · intro d hd
    obtain ⟨j, hj, rfl⟩ := List.mem_map.mp hd
    simp at hj
    simp [fdO, getK_mapN (hjs j hj)]
  · refine rt _ _ (hQ _ ?_)
    have e := congrArg (fun l : List Nat => O.own .lst (l.map fun n => .fz (.int (n : Nat)))) (depths_range (xs := xs))
    refine Eq.trans ?_ e
    unfold rngD
    rw [List.map_map]
    show O.own .lst _ = O.own .lst (List.map _ (List.map _ _))
    rw [List.map_map]
    congr 1
    refine List.map_congr_left fun j hj => ?_
    simp
end VS
namespace VS
open PySem PySem.Spec PyProof.Rows L2 SX
local macro_rules | `(tactic| walk_at "mono") => `(tactic| repeat' (with_reducible first
  | exact mO_nil | apply mO_sl | apply mO_ex | exact mB_none | apply mB_some
  | exact vNext_mono | apply vSeq_mono | apply vAsg_mono | apply vPure_mono | exact vC_mono | exact vVar_mono | exact vMv_mono | apply vCmpT_mono | apply vCmpIx_mono | apply vIfS_mono | apply vRet_mono | apply vDrop_mono | apply vCall_mono
  | apply vFz_mono | apply vAsgT_mono | apply gSubD_mono | exact gN_mono | apply gT_mono | apply gsCons_mono | exact gsNil_mono | apply vAnd_mono | apply vOr_mono | apply vNot_mono | apply vTru_mono | apply vTup_mono | apply vLst_mono
  | apply vFor_mono | apply vWhile_mono | apply vPar_mono | apply vLc_mono | apply vDc_mono | exact vYes_mono | apply vMth_mono | apply vMthI_mono | apply vSl_mono | apply vAug_mono | apply vTest_mono | apply vChain_mono | apply vIf_mono | apply vAndV_mono | apply vOrV_mono | apply vNotV_mono | apply vDisp_mono
  | apply vBool_mono | apply vIsB_mono | exact vNewD_mono | exact vBreak_mono | exact vCont_mono | exact vNever_mono | exact vRetN_mono | exact CDr_mono | exact CPu_mono | apply arrC_mono))
theorem word_nm {x : Str} : word x ↔ isNm x = true := by
  have h : ∀ c : Nat, c ∈ ("abcdefghijklmnopqrstuvwxyz" : Str).cps.toList ↔ 97 ≤ c ∧ c ≤ 122 := by
    intro c
    have e : ("abcdefghijklmnopqrstuvwxyz" : Str).cps.toList = (List.range 26).map (· + 97) := by decide +kernel
    rw [e]
    simp
    constructor
    · rintro ⟨a, h1, h2⟩; omega
    · intro h; exact ⟨c - 97, by omega, by omega⟩
  unfold word isNm
  simp only [Bool.and_eq_true, decide_eq_true_eq, List.all_eq_true, h]
  exact ⟨fun ⟨a, b, c⟩ => ⟨⟨a, b⟩, c⟩, fun ⟨⟨a, b⟩, c⟩ => ⟨a, b, c⟩⟩
/-! ## front and back -/
def F_front (ds : List D) (R : O → Prop) : Prop := ∃ d xs, ds = [d] ∧ Seq d xs ∧ (∀ x ∈ xs, word x) ∧ xs.length ≤ 1000000 ∧ R = fun o => o = .own .lst ((depths xs).map fun n => .fz (.int (n : Nat)))
abbrev C_front_depths := CPu F_front
def T_front_depths : DS := (vSeq (vDrop (vCall C_need_log [] [Opd.ex (vVar 0)])) (vSeq (vRet (vCall C_depths_of [] [Opd.ex (vVar 0)])) vNext))
theorem k_front_depths : Keeps 1 1 [] T_front_depths C_front_depths := by
  refine .of (fun E os Q Z ⟨ds, R, e, ⟨d, xs, e1, hs, hw, hl, e2⟩, hQ⟩ rt nx ex => ?_) rfl
  subst e e1 e2
  simp [T_front_depths, startC, hs.nb]
  refine pure_of (ds := [d]) rfl ⟨d, xs, rfl, hs, fun x hx => word_nm.mp (hw x hx), rfl⟩ fun r hr => ?_
  simp [hs.nb]
  refine pure_of (ds := [d]) rfl ⟨d, xs, rfl, hs, fun x hx => word_ok (hw x hx), hl, rfl⟩ fun r hr => ?_
  subst hr
  simp
  exact rt _ _ (hQ _ rfl)
def F_back (ds : List D) (R : O → Prop) : Prop := ∃ d xs, ds = [d] ∧ Seq d xs ∧ (∀ x ∈ xs, word x) ∧ xs.length ≤ 1000000 ∧ R = fun o => o = .own .lst ((depths xs.reverse).reverse.map fun n => .fz (.int (n : Nat)))
abbrev C_back_depths := CPu F_back
def T_back_depths : DS := (vSeq (vDrop (vCall C_need_log [] [Opd.ex (vVar 0)])) (vSeq (vRet (vPure [Opd.ex (vCall C_depths_of [] [Opd.ex (vFz (vPure [Opd.sl 0] (bfD bfRev)))])] (bfD bfRev))) vNext))
theorem Seq.rev {d : D} {xs : List Str} (h : Seq d xs) : ∃ o, bfRev [d] = some o ∧ Seq o.view xs.reverse := by
  cases h with
  | lst => exact ⟨_, rfl, by
      have e : (O.own .lst ((xs.map D.str).reverse.map O.fz)).view = .nd .lst (xs.reverse.map D.str) := by rw [view_own, views_fzs, List.map_reverse]
      rw [e]
      exact .lst⟩
  | tup => exact ⟨_, rfl, by
      have e : (O.fz (.nd .tup (xs.map D.str).reverse)).view = .nd .tup (xs.reverse.map D.str) := by rw [view_fz, List.map_reverse]
      rw [e]
      exact .tup⟩
theorem k_back_depths : Keeps 1 1 [] T_back_depths C_back_depths := by
  refine .of (fun E os Q Z ⟨ds, R, e, ⟨d, xs, e1, hs, hw, hl, e2⟩, hQ⟩ rt nx ex => ?_) rfl
  subst e e1 e2
  obtain ⟨o, hr1, hr2⟩ := hs.rev
  simp [T_back_depths, startC, hs.nb]
  refine pure_of (ds := [d]) rfl ⟨d, xs, rfl, hs, fun x hx => word_nm.mp (hw x hx), rfl⟩ fun r hr => ?_
  simp [hs.nb, hr1]
  refine pure_of (ds := [o.view]) rfl ⟨_, xs.reverse, rfl, hr2, fun x hx => word_ok (hw x (by simpa using hx)), by simpa using hl, rfl⟩ fun r hr => ?_
  subst hr
  simp
  refine rt _ _ (hQ _ ?_)
  simp [Function.comp_def]
/-! ## names of two letters -/
def F_crowd (ds : List D) (b : Nat) (R : O → Prop) : Prop := ∃ m : Nat, ds = [.int m] ∧ m ≤ 600 ∧ b = 1 ∧ R = fun o => ∃ ys : List Str, o = .own .lst (ys.map fun y => .fz (.str y)) ∧ ys.length = m ∧ ∀ y ∈ ys, word y
abbrev C__law_crowd := CDr F_crowd
def T__law_crowd : DS := (vSeq (vAsgT (gT 2 (gsCons (gN 2) (gsCons (gN 3) gsNil))) (vTup [Opd.ex (vC (D.str (("abcdefghijklmnopqrstuvwxyz" : Str)))), Opd.ex (vCall C__law_take [] [Opd.sl 0, Opd.ex (vC (D.int 26))])])) (vSeq (vRet (vLc [4] [Opd.sl 1] itRng1 (gN 4) vYes (vFz (vPure [Opd.ex (vPure [Opd.sl 2, Opd.ex (vPure [Opd.ex (vPure [Opd.ex (vPure [Opd.sl 3, Opd.sl 4] (bfD bfAdd))] (bfD bfInt)), Opd.ex (vC (D.int 26))] (bfD (bfII modC fun i j => D.int (i.fmod j))))] (bfD bfIx)), Opd.ex (vPure [Opd.sl 2, Opd.ex (vPure [Opd.sl 4, Opd.ex (vC (D.int 26))] (bfD (bfII divC fun i j => D.int (i.fdiv j))))] (bfD bfIx))] (bfD bfAdd))))) vNext))
def lt (i : Nat) : Nat := ("abcdefghijklmnopqrstuvwxyz" : Str).cps.toList.getD i 0
theorem lt_in {i : Nat} (h : i < 26) : 97 ≤ lt i ∧ lt i ≤ 122 := by
  have h1 : i < ("abcdefghijklmnopqrstuvwxyz" : Str).cps.toList.length := by rw [lett_26]; exact h
  unfold lt
  rw [List.getD_eq_getElem?_getD, List.getElem?_eq_getElem h1]
  exact lett_in _ (List.getElem_mem h1)
theorem lett_at {i : Nat} (h : i < 26) : bfIx [.str "abcdefghijklmnopqrstuvwxyz", .int (i : Nat)] = some (.fz (.str (S [lt i]))) := by
  have h1 : i < ("abcdefghijklmnopqrstuvwxyz" : Str).cps.toList.length := by rw [lett_26]; exact h
  rw [ix_str (Nat.le_trans lett_len (by decide))]
  unfold atI ixN
  rw [if_pos (by omega), if_pos (by rw [lett_26]; omega)]
  simp only [Int.toNat_natCast, Option.bind_some]
  unfold lt
  rw [List.getD_eq_getElem?_getD, List.getElem?_eq_getElem h1]
  rfl
def two (i j : Nat) : Str := S [lt ((i + j) % 26), lt (j / 26)]
theorem two_word {i j : Nat} (h : j < 600) : word (two i j) := by
  refine ⟨by rw [two, S_len]; simp, by rw [two, S_len]; simp, ?_⟩
  intro c hc
  simp [two] at hc
  have h1 := lt_in (i := (i + j) % 26) (by omega)
  have h2 := lt_in (i := j / 26) (by omega)
  rcases hc with rfl | rfl
  · exact h1
  · exact h2
theorem k_crowd : Keeps 5 2 [2, 3] T__law_crowd C__law_crowd := by
  refine .of (fun E os Q Z ⟨s, ds, n, b, R, e, ⟨m, e1, h1, e2, e3⟩, hk, hQ⟩ rt nx ex => ?_) rfl
  subst e e1 e2 e3
  refine seqc (fun c => ∃ (s : Dr) (i : Nat), c = [s.O, .fz (.int m), .fz (.str "abcdefghijklmnopqrstuvwxyz"), .fz (.int (i : Nat)), .bad] ∧ s.K n ∧ i < 26) (by walk_at "mono") (fun J hJ => ?_) ?_
  · simp [startC]
    refine take_of (n := n) hk (by omega) (by omega) fun s' r k' r1 r2 => ?_
    obtain ⟨i, rfl⟩ : ∃ i : Nat, r = i := ⟨r.toNat, by omega⟩
    simp [mkT]
    exact hJ _ ⟨s', i, rfl, k', by omega⟩
  rintro c ⟨s, i, rfl, hk, hi⟩
  simp [rng1n (show m < 4611686018427387904 by omega)]
  refine lc_map (by walk_at "mono") (by walk_at "mono") (fun d => match d with
    | .int j => .fz (.str (two i j.toNat))
    | d => .fz d) (by simp [keepOps]) (by simp [rngD]; omega) ?_ ?_
  · intro d hd
    obtain ⟨j, hj, rfl⟩ := List.mem_map.mp hd
    simp at hj
    have e1 : ((i : Int) + (j : Int)).fmod 26 = (((i + j) % 26 : Nat) : Int) := by
      rw [Int.fmod_eq_emod_of_nonneg _ (by decide)]
      omega
    have e2 : (j : Int).fdiv 26 = ((j / 26 : Nat) : Int) := by
      rw [Int.fdiv_eq_ediv_of_nonneg _ (by decide)]
      omega
    have l1 := lett_at (i := (i + j) % 26) (by omega)
    have l2 := lett_at (i := j / 26) (by omega)
    rw [← e1] at l1
    rw [← e2] at l2
    simp [l1, l2]
    rw [cat_str (by simp [S_len])]
    simp [two, S_cat]
  · refine rt _ _ (hQ s _ hk ⟨(List.range m).map (two i), ?_, by simp, ?_⟩)
    · unfold rngD
      rw [List.map_map, List.map_map]
      congr 1
      refine List.map_congr_left fun j hj => ?_
      simp
    · intro y hy
      obtain ⟨j, hj, rfl⟩ := List.mem_map.mp hy
      simp at hj
      exact two_word (by omega)
theorem crowd_of {s : Dr} {m n : Nat} {ops : List Opd} {c : Cf} {E : XP} {Q : DK} (hk : s.K (n + 1)) (h1 : m ≤ 600)
    (h : ∀ (s' : Dr) (ys : List Str), s'.K n → ys.length = m → (∀ y ∈ ys, word y) → Q (.own .lst (ys.map fun y => .fz (.str y))) (putOps ops c [s'.O, .fz (.int m)])) : goC C__law_crowd [s.O, .fz (.int m)] ops c E Q :=
  goC_of ⟨s, [.int m], n, _, _, rfl, ⟨m, rfl, h1, rfl, rfl⟩, hk, fun s' _ k' ⟨ys, e, r1, r2⟩ => by subst e; exact h s' ys k' r1 r2⟩
/-! ## the logs of k04 -/
def F_long4 (ds : List D) (b : Nat) (R : O → Prop) : Prop := ds = [] ∧ b = 1000 ∧ R = fun o => ∃ ys : List Str, o.view = .nd .lst (ys.map .str) ∧ isBad o = false ∧ ys.length ≤ 200 ∧ ∀ y ∈ ys, word y
abbrev C__law_long4 := CDr F_long4
def T__law_long4 : DS := (vSeq (vPar [1, 2] [Opd.ex (vCall C__law_names [] [Opd.sl 0, Opd.ex (vFz (vPure [Opd.ex (vC (D.int 1)), Opd.ex (vCall C__law_take [] [Opd.sl 0, Opd.ex (vC (D.int 5))])] (bfD bfAdd)))]), Opd.ex (vCall C__law_take [] [Opd.sl 0, Opd.ex (vC (D.int 5))])]) (vSeq (vIfS (vCmpT [Opd.sl 2, Opd.ex (vC (D.int 4))] bfEq) (vSeq (vRet (vCall C__law_log [] [Opd.sl 0, Opd.ex (vFz (vCall C__law_crowd [] [Opd.sl 0, Opd.ex (vC (D.int 60))])), Opd.ex (vC (D.int 40))])) vNext) vNext) (vSeq (vIfS (vCmpT [Opd.sl 2, Opd.ex (vC (D.int 0))] bfEq) (vSeq (vAsg 3 (vLst [])) (vSeq (vFor [Opd.ex (vVar 1)] itAny (gN 4) (vSeq (vAsg 3 (vPure [Opd.sl 3, Opd.ex (vPure [Opd.ex (vLst [Opd.ex (vVar 4)]), Opd.ex (vCall C__law_take [] [Opd.sl 0, Opd.ex (vC (D.int 9))])] (bfD bfMul))] (bfD bfAdd))) vNext)) (vSeq (vRet (vMv 3)) vNext))) vNext) (vSeq (vAsg 5 (vCall C__law_log [] [Opd.sl 0, Opd.ex (vVar 1), Opd.ex (vC (D.int 40))])) (vSeq (vRet (vIf (vCmpT [Opd.sl 2, Opd.ex (vC (D.int 1))] (bfD bfGt)) (vVar 5) (vSl (Opd.ex (vPure [Opd.sl 5, Opd.ex (vC (D.int 4))] (bfD bfMul))) none (some (Opd.ex (vC (D.int 40))))))) vNext)))))
theorem rep_lst {a : List D} {k : Nat} (h : a.length * k ≤ 16777216) (hk : k < 1000000000) : bfMul [.nd .lst a, .int (k : Int)] = some (.own .lst ((List.replicate k a).flatten.map .fz)) := by
  have h1 : smallB 9223372036854775807 (k : Int) = true := by rw [smallB_iff]; omega
  have h2 : bfRep [.nd .lst a, .int (k : Int)] = some (.own .lst ((List.replicate k a).flatten.map .fz)) := by
    unfold bfRep
    exact if_pos ⟨h1, h⟩
  unfold bfMul orB
  rw [h2]
  rfl
theorem k_long4 : Keeps 6 1 [1, 2, 3, 4, 5] T__law_long4 C__law_long4 := by
  refine .of (fun E os Q Z ⟨s, ds, n, b, R, e, ⟨e1, e2, e3⟩, hk, hQ⟩ rt nx ex => ?_) rfl
  subst e e1 e2 e3
  refine seqc (fun c => ∃ (s : Dr) (xs : List Str) (w : Nat), c = [s.O, .own .lst (xs.map fun y => .fz (.str y)), .fz (.int w), .bad, .bad, .bad] ∧ s.K (n + 900) ∧ xs ≠ [] ∧ xs.length ≤ 5 ∧ ∀ x ∈ xs, word x) (by walk_at "mono") (fun J hJ => ?_) ?_
  · simp [startC]
    refine take_of (n := n + 999) hk (by omega) (by omega) fun s' r k' r1 r2 => ?_
    obtain ⟨i, rfl⟩ : ∃ i : Nat, r = i := ⟨r.toNat, by omega⟩
    obtain ⟨m, hm⟩ : ∃ m : Nat, (1 : Int) + (i : Int) = m := ⟨1 + i, by omega⟩
    simp [hm]
    refine names_of (n := n + 930) (k'.le (by omega)) (by omega) fun s' xs k' h1 h2 h3 => ?_
    simp
    refine take_of (n := n + 929) k' (by omega) (by omega) fun s' r k' r1 r2 => ?_
    obtain ⟨w, rfl⟩ : ∃ i : Nat, r = i := ⟨r.toNat, by omega⟩
    simp
    exact hJ _ ⟨s', xs, w, rfl, k'.le (by omega), by intro e; subst e; simp at h1; omega, by omega, h3⟩
  rintro c ⟨s, xs, w, rfl, hk, hne, hl, hw⟩
  refine seqc (fun c => c = [s.O, .own .lst (xs.map fun y => .fz (.str y)), .fz (.int w), .bad, .bad, .bad]) (by walk_at "mono") (fun J hJ => ?_) ?_
  · simp
    refine brS_of (fun h => ?_) (fun h => ?_)
    · simp
      refine crowd_of (m := 60) (n := n + 899) hk (by omega) fun s' ys k' h1 h2 => ?_
      simp
      refine log_of (xs := ys) (m := 40) (n := n) (k'.le (by omega)) (.inl (by intro e; subst e; simp at h1)) (fun x hx => word_ok (h2 x hx)) (by omega) (by omega) fun s' zs k' z1 z2 => ?_
      simp
      exact rt _ _ (hQ s' _ k' ⟨zs, by simp, rfl, by omega, fun y hy => h2 y (z2 y hy)⟩)
    · try simp
      exact hJ _ rfl
  rintro c rfl
  refine seqc (fun c => c = [s.O, .own .lst (xs.map fun y => .fz (.str y)), .fz (.int w), .bad, .bad, .bad]) (by walk_at "mono") (fun J hJ => ?_) ?_
  · simp
    refine brS_of (fun h => ?_) (fun h => ?_)
    · simp
      refine forc (by walk_at "mono") (by walk_at "mono") (fun ds c => ∃ (s : Dr) (suf ys : List Str) (x4 : O), ds = suf.map .str ∧ c = [s.O, .fz (.nd .lst (xs.map .str)), .fz (.int w), .own .lst (ys.map fun y => .fz (.str y)), x4, .bad] ∧ s.K (n + 100 + suf.length) ∧ (∀ x ∈ suf, word x) ∧ suf.length ≤ 5 ∧ ys.length + 8 * suf.length ≤ 40 ∧ ∀ y ∈ ys, word y) ⟨s, xs, [], .bad, rfl, rfl, hk.le (by omega), hw, hl, by simp; omega, by simp⟩ ?_ ?_
      · rintro K d ds c hK ⟨s, suf, ys, x4, hd, rfl, hk, hs, hl5, hl8, hy⟩
        cases suf with
        | nil => cases hd
        | cons x suf =>
          cases hd
          simp at hl8 hl5
          simp [keepOps]
          refine take_of (n := n + 100 + suf.length) (hk.le (by simp; omega)) (by omega) (by omega) fun s' r k' r1 r2 => ?_
          obtain ⟨k, rfl⟩ : ∃ i : Nat, r = i := ⟨r.toNat, by omega⟩
          simp
          rw [rep_lst (by simp; omega) (by omega)]
          simp
          rw [if_pos (by omega)]
          simp
          refine hK _ ⟨s', suf, ys ++ List.replicate k x, .fz (.str x), rfl, by simp [Function.comp_def], k', fun z hz => hs z (by simp [hz]), by omega, by simp; omega, ?_⟩
          intro y hy'
          rcases List.mem_append.mp hy' with q | q
          · exact hy y q
          · rw [List.eq_of_mem_replicate q]; exact hs x (by simp)
      · rintro c ⟨s, suf, ys, x4, hd, rfl, hk, hs, hl5, hl8, hy⟩
        simp [keepOps]
        exact rt _ _ (hQ s _ (hk.le (by omega)) ⟨ys, by simp, rfl, by omega, hy⟩)
    · try simp
      exact hJ _ rfl
  rintro c rfl
  simp
  refine log_of (xs := xs) (m := 40) (n := n) (hk.le (by omega)) (.inl hne) (fun x hx => word_ok (hw x hx)) (by omega) (by omega) fun s' ys k' z1 z2 => ?_
  simp
  refine brE_of (fun h => ?_) (fun h => ?_)
  · simp
    exact rt _ _ (hQ s' _ k' ⟨ys, rfl, rfl, by omega, fun y hy => hw y (z2 y hy)⟩)
  · simp
    rw [show (4 : Int) = ((4 : Nat) : Int) from rfl, rep_lst (by simp; omega) (by omega)]
    rw [show (40 : Int) = ((40 : Nat) : Int) from rfl]
    simp
    refine rt _ _ (hQ s' _ k' ⟨(List.replicate 4 ys).flatten.take 40, ?_, rfl, by simp; omega, fun y hy => ?_⟩)
    · have e : (O.tip ∘ O.fz ∘ D.str) = D.str := rfl
      rw [e, show (some 40 : Option Int) = some ((40 : Nat) : Int) from rfl, cut_to, view_own, views_fzs]
      simp [List.replicate_succ]
    · have := List.mem_of_mem_take hy
      simp at this
      exact hw y (z2 y this)
theorem long4_of {s : Dr} {n : Nat} {ops : List Opd} {c : Cf} {E : XP} {Q : DK} (hk : s.K (n + 1000))
    (h : ∀ (s' : Dr) (o : O) (ys : List Str), s'.K n → o.view = .nd .lst (ys.map .str) → isBad o = false → ys.length ≤ 200 → (∀ y ∈ ys, word y) → Q o (putOps ops c [s'.O])) : goC C__law_long4 [s.O] ops c E Q :=
  goC_of ⟨s, [], n, _, _, rfl, ⟨rfl, rfl, rfl⟩, hk, fun s' o k' ⟨ys, r1, r2, r3, r4⟩ => h s' o ys k' r1 r2 r3 r4⟩
theorem pure_arr {F : List D → (O → Prop) → Prop} {d : D} {R : O → Prop} {ops : List Opd} {c : Cf} {E : XP} {Q : DK} (hF : F [d] R) (h : ∀ r, R r → Q r (putOps ops c [.fz d])) : goC (arrC [0] (CPu F)) [.fz d] ops c E Q := goC_of ⟨[d], R, rfl, hF, h⟩
end VS
namespace VS
open PySem PySem.Spec PyProof.Rows L2 SX
local macro_rules | `(tactic| walk_at "mono") => `(tactic| repeat' (with_reducible first
  | exact mO_nil | apply mO_sl | apply mO_ex | exact mB_none | apply mB_some
  | exact vNext_mono | apply vSeq_mono | apply vAsg_mono | apply vPure_mono | exact vC_mono | exact vVar_mono | exact vMv_mono | apply vCmpT_mono | apply vCmpIx_mono | apply vIfS_mono | apply vRet_mono | apply vDrop_mono | apply vCall_mono
  | apply vFz_mono | apply vAsgT_mono | apply gSubD_mono | exact gN_mono | apply gT_mono | apply gsCons_mono | exact gsNil_mono | apply vAnd_mono | apply vOr_mono | apply vNot_mono | apply vTru_mono | apply vTup_mono | apply vLst_mono
  | apply vFor_mono | apply vWhile_mono | apply vPar_mono | apply vLc_mono | apply vDc_mono | exact vYes_mono | apply vMth_mono | apply vMthI_mono | apply vSl_mono | apply vAug_mono | apply vTest_mono | apply vChain_mono | apply vIf_mono | apply vAndV_mono | apply vOrV_mono | apply vNotV_mono | apply vDisp_mono
  | apply vBool_mono | apply vIsB_mono | exact vNewD_mono | exact vBreak_mono | exact vCont_mono | exact vNever_mono | exact vRetN_mono | exact CDr_mono | exact CPu_mono | apply arrC_mono
  | apply vLockE_mono | apply vDispT_mono | apply vTupS_mono | apply vLstS_mono | exact mL_nil | apply mL_cons))
theorem good_strs {l : List Str} (h : ∀ x ∈ l, PyData.strOk x = true) : good (.nd .lst (l.map .str)) = true := by
  show goods _ = true
  rw [goods_iff]
  intro d hd
  obtain ⟨x, hx, rfl⟩ := List.mem_map.mp hd
  exact h x hx
theorem good_ints {l : List Int} (h : ∀ x ∈ l, -1000000000 < x ∧ x < 1000000000) : good (.nd .lst (l.map .int)) = true := by
  show goods _ = true
  rw [goods_iff]
  intro d hd
  obtain ⟨x, hx, rfl⟩ := List.mem_map.mp hd
  have := h x hx
  simp [good, this]
theorem bulk_strs {l : List Str} {k : Nat} (h : ∀ x ∈ l, x.length ≤ k) : PyData.bulkAll (l.map .str) ≤ (k + 1) * l.length := by
  induction l with
  | nil => simp [PyData.bulkAll]
  | cons x l ih =>
    have := ih fun y hy => h y (by simp [hy])
    have h1 := h x (by simp)
    have h2 : x.cps.size = x.length := rfl
    simp only [List.map_cons, PyData.bulkAll, PyData.bulk, List.length_cons]
    rw [Nat.mul_succ]
    omega
theorem bulk_ints {l : List Int} : PyData.bulkAll (l.map .int) = l.length := by
  induction l with
  | nil => rfl
  | cons x l ih =>
    simp only [List.map_cons, PyData.bulkAll, PyData.bulk, List.length_cons, ih]
    omega
theorem depth_ints {l : List Int} : PyData.depthAll (l.map .int) = 0 := depthAll_flat fun x hx => by
  obtain ⟨z, _, rfl⟩ := List.mem_map.mp hx
  rfl
theorem depth_strs {l : List Str} : PyData.depthAll (l.map .str) = 0 := depthAll_flat fun x hx => by
  obtain ⟨z, _, rfl⟩ := List.mem_map.mp hx
  rfl
theorem repr_strs {o : O} {l : List Str} (e : o.view = .nd .lst (l.map .str)) (h : ∀ x ∈ l, word x) (hl : l.length ≤ 100000) : bfRepr [o] = some (.fz (.str (rpr (.nd .lst (l.map .str))))) := by
  have := repr_good (o := o) (by rw [e]; exact good_strs fun x hx => word_ok (h x hx)) (by rw [e]; rfl) (by rw [e]; simp [pd, PyData.depth, pds_strs, depth_strs]) (by
    rw [e]
    have := bulk_strs (l := l) (k := 6) fun x hx => (h x hx).2.1
    simp [pd, PyData.bulk, pds_strs]
    omega)
  rw [e] at this
  exact this
theorem repr_2ints {a b : List Int} (ha : ∀ x ∈ a, -1000000000 < x ∧ x < 1000000000) (hb : ∀ x ∈ b, -1000000000 < x ∧ x < 1000000000) (hl : a.length ≤ 100000) (hl2 : b.length ≤ 100000) :
    bfRepr [.own .lst [.fz (.nd .lst (a.map .int)), .fz (.nd .lst (b.map .int))]] = some (.fz (.str (rpr (.nd .lst [.nd .lst (a.map .int), .nd .lst (b.map .int)])))) := by
  refine repr_good (o := .own .lst [.fz (.nd .lst (a.map .int)), .fz (.nd .lst (b.map .int))]) ?_ rfl ?_ ?_
  · show goods _ = true
    simp [goods, good_ints ha, good_ints hb]
  · simp [pd, pds, PyData.depth, PyData.depthAll, pds_ints, depth_ints]
  · simp [pd, pds, PyData.bulk, PyData.bulkAll, pds_ints, bulk_ints]
    omega
def rp2 (a b : List Nat) : Str := rpr (.nd .lst [.nd .lst (a.map fun n : Nat => .int (n : Int)), .nd .lst (b.map fun n : Nat => .int (n : Int))])
theorem repr_2nats {a b : List Nat} (ha : ∀ n ∈ a, n < 1000000000) (hb : ∀ n ∈ b, n < 1000000000) (hl : a.length ≤ 100000) (hl2 : b.length ≤ 100000) :
    bfRepr [.own .lst [.fz (.nd .lst (a.map fun n : Nat => .int (n : Int))), .fz (.nd .lst (b.map fun n : Nat => .int (n : Int)))]] = some (.fz (.str (rp2 a b))) := by
  have := repr_2ints (a := a.map fun n : Nat => (n : Int)) (b := b.map fun n : Nat => (n : Int)) (fun x hx => by
    obtain ⟨n, hn, rfl⟩ := List.mem_map.mp hx
    have := ha n hn
    omega) (fun x hx => by
    obtain ⟨n, hn, rfl⟩ := List.mem_map.mp hx
    have := hb n hn
    omega) (by simpa using hl) (by simpa using hl2)
  rw [List.map_map, List.map_map] at this
  exact this
def F_law (ds : List D) (R : O → Prop) : Prop := ∃ (o : Obj) (ns : List Int), ds = [.nd (.scr o) (ns.map .int)] ∧ ns.length ≤ 63 ∧ R = fun r => r = .fz (.bl true)
abbrev C_law := CPu F_law
theorem law_c : LawC 63 C_law := fun o ns hl => ⟨_, _, rfl, ⟨o, ns, rfl, hl, rfl⟩, fun r hr => hr⟩
end VS
namespace VS
open PySem
/-! ## rows that occur: plain law -/
section
variable {α : Type} [DecidableEq α]
/-- the first place of x from p on -/
def pb (xs : List α) (x : α) (p : Nat) : Option Nat := if x ∈ xs.drop p then some (p + (xs.drop p).idxOf x) else none
/-- behind the row's first occurring from p on -/
def ei (xs : List α) : Nat → List α → Option Nat
  | p, [] => some p
  | p, x :: r => (pb xs x p).bind fun j => ei xs (j + 1) r
/-- what is left of a row when events have come -/
def strip : List α → List α → List α
  | [], l => l
  | e :: es, [] => strip es []
  | e :: es, x :: r => if x = e then strip es r else strip es (x :: r)
theorem strip_nil : ∀ es : List α, strip es [] = []
  | [] => rfl
  | _ :: es => strip_nil es
theorem strip_not {x : α} {r : List α} : ∀ {es : List α}, x ∉ es → strip es (x :: r) = x :: r
  | [], _ => rfl
  | e :: es, h => by
    rw [List.mem_cons, not_or] at h
    rw [strip, if_neg h.1, strip_not h.2]
theorem strip_mem {x : α} {r : List α} : ∀ {es : List α}, x ∈ es → strip es (x :: r) = strip (es.drop (es.idxOf x + 1)) r
  | [], h => by cases h
  | e :: es, h => by
    by_cases z : x = e
    · subst z
      simp [strip]
    · have hm := (List.mem_cons.mp h).resolve_left z
      rw [strip, if_neg z, strip_mem hm, List.idxOf_cons, show (e == x) = false from by simpa using fun q => z q.symm]
      simp
theorem ei_le {xs : List α} : ∀ {row : List α} {p q : Nat}, ei xs p row = some q → p ≤ q ∧ (row = [] ∨ q ≤ xs.length)
  | [], p, q, h => by cases h; exact ⟨Nat.le_refl _, .inl rfl⟩
  | x :: r, p, q, h => by
    obtain ⟨j, h1, h2⟩ := Option.bind_eq_some_iff.mp h
    unfold pb at h1
    split at h1
    · rename_i hx
      cases h1
      have := List.idxOf_lt_length_of_mem hx
      simp at this
      obtain ⟨h3, h4⟩ := ei_le h2
      refine ⟨by omega, .inr ?_⟩
      rcases h4 with h4 | h4
      · subst h4; cases h2; omega
      · exact h4
    · cases h1
theorem ei_strip {xs : List α} : ∀ {row : List α} {p : Nat}, (∀ q, ei xs p row = some q → ∀ m, strip ((xs.drop p).take m) row = [] ↔ q - p ≤ m) ∧ (ei xs p row = none → ∀ m, strip ((xs.drop p).take m) row ≠ [])
  | [], p => ⟨fun q h m => by cases h; simp [strip_nil], fun h => by cases h⟩
  | x :: r, p => by
    by_cases hx : x ∈ xs.drop p
    · have e : ei xs p (x :: r) = ei xs (p + (xs.drop p).idxOf x + 1) r := by simp [ei, pb, hx]
      have ih := ei_strip (xs := xs) (row := r) (p := p + (xs.drop p).idxOf x + 1)
      have low : ∀ m, m ≤ (xs.drop p).idxOf x → strip ((xs.drop p).take m) (x :: r) = x :: r := fun m hm => by
        refine strip_not fun hq => ?_
        obtain ⟨i, hi, e⟩ := List.getElem_of_mem hq
        simp at hi e
        have q := List.not_of_lt_findIdx (p := (· == x)) (xs := xs.drop p) (i := i) (by simp only [List.idxOf] at hm; omega)
        simp at q
        exact q (by simpa using e)
      have high : ∀ m, (xs.drop p).idxOf x < m → strip ((xs.drop p).take m) (x :: r) = strip ((xs.drop (p + (xs.drop p).idxOf x + 1)).take (m - ((xs.drop p).idxOf x + 1))) r := fun m hm => by
        have hl := List.idxOf_lt_length_of_mem hx
        have hx2 : x ∈ (xs.drop p).take m := by
          have : ((xs.drop p).take m)[(xs.drop p).idxOf x]? = some x := by
            rw [List.getElem?_take_of_lt hm, List.getElem?_eq_getElem hl, List.getElem_idxOf hl]
          exact List.mem_of_getElem? this
        have hidx : ((xs.drop p).take m).idxOf x = (xs.drop p).idxOf x := by
          have e1 := List.take_append_drop m (xs.drop p)
          have e2 : (((xs.drop p).take m) ++ ((xs.drop p).drop m)).idxOf x = ((xs.drop p).take m).idxOf x := by
            rw [List.idxOf_append, if_pos hx2]
          rw [e1] at e2
          exact e2.symm
        rw [strip_mem hx2, hidx, List.drop_take, List.drop_drop]
        congr 2
      rw [e]
      refine ⟨fun q hq m => ?_, fun hq m => ?_⟩
      · have hle := (ei_le hq).1
        by_cases hm : m ≤ (xs.drop p).idxOf x
        · rw [low m hm]
          have : ¬ q - p ≤ m := by omega
          simp [this]
        · rw [high m (by omega), ih.1 q hq]
          constructor <;> intro z <;> omega
      · by_cases hm : m ≤ (xs.drop p).idxOf x
        · rw [low m hm]; simp
        · rw [high m (by omega)]
          exact ih.2 hq _
    · have e : ei xs p (x :: r) = none := by simp [ei, pb, hx]
      refine ⟨fun q hq => (by rw [e] at hq; cases hq), fun _ m => ?_⟩
      rw [strip_not fun h => hx (List.mem_of_mem_take h)]
      simp
/-- the law's own end -/
def le1 (xs row : List α) : Option Nat := (List.range (xs.length + 1)).find? fun m => decide (strip (xs.take m) row = [])
theorem le1_ei {xs row : List α} : le1 xs row = ei xs 0 row := by
  have h := ei_strip (xs := xs) (row := row) (p := 0)
  simp only [List.drop_zero] at h
  unfold le1
  cases e : ei xs 0 row with
  | none =>
    rw [List.find?_eq_none]
    intro m hm
    simpa using h.2 e m
  | some q =>
    have hq : q ≤ xs.length := by
      rcases (ei_le e).2 with z | z
      · subst z; cases e; omega
      · exact z
    rw [List.find?_range_eq_some]
    refine ⟨by simpa using (h.1 q e q).mpr (by omega), by simp; omega, fun j hj => ?_⟩
    have : strip (xs.take j) row ≠ [] := fun z => by
      have := (h.1 q e j).mp z
      omega
    simpa using this
end
end VS
namespace VS
open PySem PySem.Spec PyProof.Rows L2 SX
local macro_rules | `(tactic| walk_at "mono") => `(tactic| repeat' (with_reducible first
  | exact mO_nil | apply mO_sl | apply mO_ex | exact mB_none | apply mB_some
  | exact vNext_mono | apply vSeq_mono | apply vAsg_mono | apply vPure_mono | exact vC_mono | exact vVar_mono | exact vMv_mono | apply vCmpT_mono | apply vCmpIx_mono | apply vIfS_mono | apply vRet_mono | apply vDrop_mono | apply vCall_mono
  | apply vFz_mono | apply vAsgT_mono | apply gSubD_mono | exact gN_mono | apply gT_mono | apply gsCons_mono | exact gsNil_mono | apply vAnd_mono | apply vOr_mono | apply vNot_mono | apply vTru_mono | apply vTup_mono | apply vLst_mono
  | apply vFor_mono | apply vWhile_mono | apply vPar_mono | apply vLc_mono | apply vDc_mono | exact vYes_mono | apply vMth_mono | apply vMthI_mono | apply vSl_mono | apply vAug_mono | apply vTest_mono | apply vChain_mono | apply vIf_mono | apply vAndV_mono | apply vOrV_mono | apply vNotV_mono | apply vDisp_mono
  | apply vBool_mono | apply vIsB_mono | exact vNewD_mono | exact vBreak_mono | exact vCont_mono | exact vNever_mono | exact vRetN_mono | exact CDr_mono | exact CPu_mono | apply arrC_mono))
/-! ## is_name of any value -/
/-- values that a law hands on -/
inductive AnyV : D → Prop
  | non : AnyV .non
  | bl {b} : AnyV (.bl b)
  | int {i} : AnyV (.int i)
  | str {x : Str} : x.length ≤ 1000000 → AnyV (.str x)
  | lst {ds} : AnyV (.nd .lst ds)
  | tup {ds} : AnyV (.nd .tup ds)
  | dic {ks ds} : AnyV (.nd (.dK ks) ds)
def isNmD : D → Bool
  | .str x => isNm x
  | _ => false
theorem AnyV.nb {d : D} (h : AnyV d) : isBad (.fz d) = false := by cases h <;> rfl
def F_is_nameV (ds : List D) (R : O → Prop) : Prop := ∃ d, ds = [d] ∧ AnyV d ∧ R = fun o => o = .fz (.bl (isNmD d))
abbrev C_is_nameV := CPu F_is_nameV
theorem AnyV.isi {kitT : Value → Value → Option Bool} {clsT : Addr → Bool} {d : D} (h : AnyV d) : bfIsi kitT clsT [d, .val (.ty "str")] = some (.fz (.bl (match d with | .str _ => true | _ => false))) := by
  cases h <;> rfl
theorem k_is_nameV {kitT : Value → Value → Option Bool} {clsT : Addr → Bool} : Keeps 2 1 [] (T_is_name kitT clsT) C_is_nameV := by
  refine .of (fun E os Q Z ⟨ds, R, e, ⟨d, e1, h1, e2⟩, hQ⟩ rt nx ex => ?_) rfl
  subst e e1 e2
  have key : (∃ x, d = .str x ∧ x.length ≤ 1000000) ∨ (bfIsi kitT clsT [d, .val (.ty "str")] = some (.fz (.bl false)) ∧ isNmD d = false) := by
    cases h1 with
    | str h => exact .inl ⟨_, rfl, h⟩
    | _ => exact .inr ⟨rfl, rfl⟩
  rcases key with ⟨x, rfl, hx⟩ | ⟨hi, hn⟩
  · have := k_is_name (kitT := kitT) (clsT := clsT) E [.fz (.str x)] Q rfl ⟨[.str x], _, rfl, ⟨x, rfl, hx, rfl⟩, fun r hr => hQ r hr⟩
    exact T_is_name_mono (fnEnds 1 [] [.fz (.str x)] E Q) Z _ (fun c q => nx c q) (fun o c q => rt o c q) (fun _ z => z.elim) (fun _ z => z.elim) (fun nm fs c z => ex nm fs c z) this.2
  · simp [T_is_name, startC, hi, h1.nb]
    exact rt _ _ (hQ _ (by rw [hn]))
def T_first_wrongV : DS := (vSeq (vFor [Opd.ex (vVar 0)] itEnum (gT 2 (gsCons (gN 1) (gsCons (gN 2) gsNil))) (vSeq (vIfS (vNot (vTru (Opd.ex (vCall C_is_nameV [] [Opd.ex (vVar 2)])))) (vSeq (vRet (vMv 1)) vNext) vNext) vNext)) (vSeq (vRet (vC D.non)) vNext))
theorem k_first_wrongV : Keeps 3 1 [1, 2] T_first_wrongV C_first_wrong := by
  refine .of (fun E os Q Z ⟨ds, R, e, ⟨d, xs, e1, hs, hl, e2⟩, hQ⟩ rt nx ex => ?_) rfl
  subst e e1 e2
  simp [T_first_wrongV, startC, hs.nb, hs.enum]
  refine forn (by walk_at "mono") (by walk_at "mono") (fun i c => ∃ x1 x2, c = [.fz d, x1, x2] ∧ ∀ j y, j < i → xs[j]? = some y → isNm y = true) ⟨_, _, rfl, by simp⟩ ?_ ?_
  · rintro K i it c hK hi ⟨x1, x2, rfl, hj⟩
    obtain ⟨e, h1, h2⟩ := enumD_at hi
    obtain ⟨x, hx, rfl⟩ := List.mem_map.mp (List.mem_of_getElem? h1)
    rw [List.getElem?_map] at h1
    obtain ⟨x', h3, h4⟩ := Option.map_eq_some_iff.mp h1
    cases h4
    subst h2
    simp [keepOps]
    refine pure_of (ds := [.str x]) rfl ⟨.str x, rfl, .str (hl x hx), rfl⟩ fun r hr => ?_
    subst hr
    simp [isNmD]
    refine brS_of (fun h => ?_) (fun h => ?_)
    · simp at h
      simp
      refine rt _ _ (hQ _ ?_)
      have e : xs.findIdx? (fun x => !isNm x) = some i := by
        rw [List.findIdx?_eq_some_iff_getElem]
        obtain ⟨q1, q2⟩ := List.getElem?_eq_some_iff.mp h3
        refine ⟨q1, by rw [q2, h]; rfl, fun j hji => ?_⟩
        have := hj j (xs[j]'(by omega)) hji (List.getElem?_eq_getElem _)
        simp [this]
      rw [e]
    · simp at h
      simp
      refine hK _ ⟨_, _, rfl, fun j y hj' hy => ?_⟩
      by_cases z : j = i
      · subst z
        rw [h3] at hy
        cases hy
        exact h
      · exact hj j y (by omega) hy
  · rintro c ⟨x1, x2, rfl, hj⟩
    simp [keepOps]
    refine rt _ _ (hQ _ ?_)
    have e : xs.findIdx? (fun x => !isNm x) = none := by
      rw [List.findIdx?_eq_none_iff]
      intro x hx
      obtain ⟨j, q1, q2⟩ := List.getElem_of_mem hx
      have := hj j x (by rw [enumD_len]; simpa using q1) (by rw [← q2]; exact List.getElem?_eq_getElem _)
      simp [this]
    rw [e]
def T_need_row (kitT : Value → Value → Option Bool) (clsT : Addr → Bool) : DS := (vSeq (vIfS (vNot (vTru (Opd.ex (vPure [Opd.sl 0, Opd.ex (vTup [Opd.ex (vC (D.val (V.ty "list"))), Opd.ex (vC (D.val (V.ty "tuple")))])] (bfD (bfIsi kitT clsT)))))) (vSeq vNever vNext) vNext) (vSeq (vAsg 1 (vCall C_first_wrong [] [Opd.ex (vVar 0)])) (vSeq (vIfS (vCmpT [Opd.sl 1, Opd.ex (vC D.non)] (bfD (bfIsN fun x => !x))) (vSeq vNever vNext) vNext) vNext)))
abbrev C_need_row := C_need_log
theorem k_need_row {kitT : Value → Value → Option Bool} {clsT : Addr → Bool} : Keeps 2 1 [1] (T_need_row kitT clsT) C_need_row := k_need_log
/-! ## rows that occur -/
/-- an index or None -/
def optI : Option Nat → D
  | none => .non
  | some j => .int (j : Nat)
def F_place (ds : List D) (R : O → Prop) : Prop := ∃ d xs x p, ds = [d, .str x, .int ((p : Nat) - 1)] ∧ Seq d xs ∧ PyData.strOk x = true ∧ (∀ y ∈ xs, PyData.strOk y = true) ∧ xs.length ≤ 1000000 ∧ p ≤ xs.length ∧ R = fun o => o = .fz (optI (pb xs x p))
abbrev C_place_behind := CPu F_place
def T_place_behind : DS := (vSeq (vFor [Opd.ex (vPure [Opd.sl 2, Opd.ex (vC (D.int 1))] (bfD bfAdd)), Opd.ex (vPure [Opd.sl 0] (bfD bfLen))] itRng2 (gN 3) (vSeq (vIfS (vCmpT [Opd.ex (vPure [Opd.sl 0, Opd.sl 3] (bfD bfIx)), Opd.sl 1] bfEq) (vSeq (vRet (vMv 3)) vNext) vNext) vNext)) (vSeq (vRet (vC D.non)) vNext))
theorem Seq.ix {d : D} {xs : List Str} (h : Seq d xs) {i : Nat} (hi : i < xs.length) : bfIx [d, .int (i : Nat)] = some (.fz (.str xs[i])) := by
  cases h with
  | lst => rw [ix_lst, atI_of (by simpa using hi)]; simp
  | tup => rw [ix_tup, atI_of (by simpa using hi)]; simp
theorem Seq.len {d : D} {xs : List Str} (h : Seq d xs) : bfLen [d] = some (.fz (.int (xs.length : Nat))) := by
  cases h <;> simp
theorem rng2n {i j : Nat} (h1 : i < 4611686018427387904) (h2 : j < 4611686018427387904) : itRng2 [.fz (.int i), .fz (.int j)] = some (rngD i (j - i) 1) := by
  have e1 : smallI (i : Int) = true := by unfold smallI; rw [smallB_iff]; omega
  have e2 : smallI (j : Int) = true := by unfold smallI; rw [smallB_iff]; omega
  have e3 : ((j : Int) - (i : Int)).toNat = j - i := by omega
  simp [itRng2, e1, e2, e3]
theorem k_place : Keeps 4 3 [3] T_place_behind C_place_behind := by
  refine .of (fun E os Q Z ⟨ds, R, e, ⟨d, xs, x, p, e1, hs, hx, hxs, hl, hp, e2⟩, hQ⟩ rt nx ex => ?_) rfl
  subst e e1 e2
  simp [T_place_behind, startC, hs.nb, hs.len, rng2n (show p < 4611686018427387904 by omega) (show xs.length < 4611686018427387904 by omega)]
  refine forn (by walk_at "mono") (by walk_at "mono") (fun i c => ∃ x3, c = [.fz d, .fz (.str x), .fz (.int ((p : Nat) - 1)), x3] ∧ x ∉ (xs.drop p).take i) ⟨_, rfl, by simp⟩ ?_ ?_
  · rintro K i it c hK hi ⟨x3, rfl, hn⟩
    have hi1 : i < xs.length - p := by
      have := (List.getElem?_eq_some_iff.mp hi).1
      simpa [rngD] using this
    have hit : it = .int ((p + i : Nat) : Int) := by
      unfold rngD at hi
      rw [List.getElem?_map, List.getElem?_range hi1] at hi
      simp at hi
      rw [← hi]
      congr 1
    subst hit
    have hg : (xs.drop p)[i]? = some xs[p + i] := by rw [List.getElem?_drop, List.getElem?_eq_getElem (by omega)]
    simp [keepOps, hs.nb, -Int.natCast_add]
    rw [hs.ix (show p + i < xs.length by omega)]
    simp
    refine brS_of (fun h => ?_) (fun h => ?_)
    · simp at h
      simp
      refine rt _ _ (hQ _ ?_)
      have hm : x ∈ xs.drop p := by rw [← h]; exact List.mem_of_getElem? hg
      have := idx_first (l := xs) (p := p) (j := p + i) (x := x) (by omega) (by rw [List.getElem?_eq_getElem (by omega), h]) (by rw [List.drop_take, Nat.add_sub_cancel_left]; exact hn)
      simp [pb, hm, this.1, optI]
    · simp at h
      simp
      refine hK _ ⟨_, rfl, ?_⟩
      rw [List.take_add_one, hg]
      simp
      exact ⟨hn, fun z => h z.symm⟩
  · rintro c ⟨x3, rfl, hn⟩
    simp [keepOps]
    refine rt _ _ (hQ _ ?_)
    have : x ∉ xs.drop p := by
      rw [show (rngD (p : Int) (xs.length - p) 1).length = xs.length - p by simp [rngD], List.take_of_length_le (by simp)] at hn
      exact hn
    simp [pb, this, optI]
/-- where a row has first occurred -/
def endI (xs row : List Str) : D := match ei xs 0 row with
  | none => .non
  | some q => .int ((q : Nat) - 1)
def F_end_in (ds : List D) (R : O → Prop) : Prop := ∃ rd row ld xs, ds = [rd, ld] ∧ Seq rd row ∧ Seq ld xs ∧ (∀ y ∈ row, PyData.strOk y = true) ∧ (∀ y ∈ xs, PyData.strOk y = true) ∧ xs.length ≤ 1000000 ∧ R = fun o => o = .fz (endI xs row)
abbrev C_end_in := CPu F_end_in
def T_end_in : DS := (vSeq (vAsg 2 (vPure [Opd.ex (vC (D.int 1))] (bfD bfNeg))) (vSeq (vFor [Opd.ex (vVar 0)] itAny (gN 3) (vSeq (vAsg 2 (vCall C_place_behind [] [Opd.ex (vVar 1), Opd.ex (vVar 3), Opd.ex (vVar 2)])) (vSeq (vIfS (vCmpT [Opd.sl 2, Opd.ex (vC D.non)] (bfD (bfIsN fun a => a))) (vSeq (vRet (vC D.non)) vNext) vNext) vNext))) (vSeq (vRet (vMv 2)) vNext)))
theorem pb_lt {xs : List Str} {x : Str} {p j : Nat} (h : pb xs x p = some j) : j < xs.length := by
  unfold pb at h
  split at h
  · rename_i hx
    cases h
    have := List.idxOf_lt_length_of_mem hx
    simp at this
    omega
  · cases h
theorem k_end_in : Keeps 4 2 [2, 3] T_end_in C_end_in := by
  refine .of (fun E os Q Z ⟨ds, R, e, ⟨rd, row, ld, xs, e1, hr, hs, hro, hxo, hl, e2⟩, hQ⟩ rt nx ex => ?_) rfl
  subst e e1 e2
  simp [T_end_in, startC, hr.nb, hr.it]
  refine forc (by walk_at "mono") (by walk_at "mono") (fun ds c => ∃ (suf : List Str) (p : Nat) (x3 : O), ds = suf.map .str ∧ c = [.fz rd, .fz ld, .fz (.int ((p : Nat) - 1)), x3] ∧ ei xs p suf = ei xs 0 row ∧ p ≤ xs.length ∧ ∀ y ∈ suf, PyData.strOk y = true) ⟨row, 0, .bad, rfl, rfl, rfl, Nat.zero_le _, hro⟩ ?_ ?_
  · rintro K d ds c hK ⟨suf, p, x3, hd, rfl, he, hp, hok⟩
    cases suf with
    | nil => cases hd
    | cons x suf =>
      cases hd
      simp [keepOps, hs.nb]
      refine pure_of (ds := [ld, .str x, .int ((p : Nat) - 1)]) rfl ⟨ld, xs, x, p, rfl, hs, hok x (by simp), hxo, hl, hp, rfl⟩ fun r hr' => ?_
      subst hr'
      cases hpb : pb xs x p with
      | none =>
        have hn : bfIsN (fun a => a) [.non, .non] = some (.fz (.bl true)) := rfl
        simp [optI, hn]
        refine rt _ _ (hQ _ ?_)
        rw [show ei xs p (x :: suf) = none by simp [ei, hpb]] at he
        simp [endI, ← he]
      | some j =>
        have hn : bfIsN (fun a => a) [.int (j : Nat), .non] = some (.fz (.bl false)) := rfl
        simp [optI, hn]
        refine hK _ ⟨suf, j + 1, .fz (.str x), rfl, by simp, ?_, pb_lt hpb, fun y hy => hok y (by simp [hy])⟩
        rw [← he]
        simp [ei, hpb]
  · rintro c ⟨suf, p, x3, hd, rfl, he, hp, hok⟩
    have : suf = [] := by cases suf with
      | nil => rfl
      | cons _ _ => cases hd
    subst this
    simp [keepOps]
    refine rt _ _ (hQ _ ?_)
    rw [show ei xs p [] = some p from rfl] at he
    simp [endI, ← he]
def F_first_end (ds : List D) (R : O → Prop) : Prop := ∃ rd row ld xs, ds = [rd, ld] ∧ Seq rd row ∧ Seq ld xs ∧ (∀ y ∈ row, word y) ∧ (∀ y ∈ xs, word y) ∧ xs.length ≤ 1000000 ∧ R = fun o => o = .fz (endI xs row)
abbrev C_first_end := CPu F_first_end
def T_first_end : DS := (vSeq (vDrop (vCall C_need_row [] [Opd.ex (vVar 0)])) (vSeq (vDrop (vCall C_need_log [] [Opd.ex (vVar 1)])) (vSeq (vRet (vCall C_end_in [] [Opd.ex (vVar 0), Opd.ex (vVar 1)])) vNext)))
theorem k_first_end : Keeps 2 2 [] T_first_end C_first_end := by
  refine .of (fun E os Q Z ⟨ds, R, e, ⟨rd, row, ld, xs, e1, hr, hs, hrw, hxw, hl, e2⟩, hQ⟩ rt nx ex => ?_) rfl
  subst e e1 e2
  simp [T_first_end, startC, hr.nb]
  refine pure_of (ds := [rd]) rfl ⟨rd, row, rfl, hr, fun x hx => word_nm.mp (hrw x hx), rfl⟩ fun r hr' => ?_
  simp [hs.nb]
  refine pure_of (ds := [ld]) rfl ⟨ld, xs, rfl, hs, fun x hx => word_nm.mp (hxw x hx), rfl⟩ fun r hr' => ?_
  simp [hr.nb, hs.nb]
  refine pure_of (ds := [rd, ld]) rfl ⟨rd, row, ld, xs, rfl, hr, hs, fun x hx => word_ok (hrw x hx), fun x hx => word_ok (hxw x hx), hl, rfl⟩ fun r hr' => ?_
  subst hr'
  simp
  exact rt _ _ (hQ _ rfl)
def F_occurs (ds : List D) (R : O → Prop) : Prop := ∃ rd row ld xs, ds = [rd, ld] ∧ Seq rd row ∧ Seq ld xs ∧ (∀ y ∈ row, word y) ∧ (∀ y ∈ xs, word y) ∧ xs.length ≤ 1000000 ∧ R = fun o => o = .fz (.bl (ei xs 0 row).isSome)
abbrev C_occurs := CPu F_occurs
def T_occurs : DS := (vSeq (vRet (vPure [Opd.ex (vCall C_first_end [] [Opd.ex (vVar 0), Opd.ex (vVar 1)]), Opd.ex (vC D.non)] (bfD (bfIsN fun x => !x)))) vNext)
theorem isN_end {xs row : List Str} : bfIsN (fun x => !x) [endI xs row, .non] = some (.fz (.bl (ei xs 0 row).isSome)) := by
  unfold endI
  cases ei xs 0 row <;> rfl
theorem k_occurs : Keeps 2 2 [] T_occurs C_occurs := by
  refine .of (fun E os Q Z ⟨ds, R, e, ⟨rd, row, ld, xs, e1, hr, hs, hrw, hxw, hl, e2⟩, hQ⟩ rt nx ex => ?_) rfl
  subst e e1 e2
  simp [T_occurs, startC, hr.nb, hs.nb]
  refine pure_of (ds := [rd, ld]) rfl ⟨rd, row, ld, xs, rfl, hr, hs, hrw, hxw, hl, rfl⟩ fun r hr' => ?_
  subst hr'
  simp [isN_end]
  exact rt _ _ (hQ _ rfl)
/-! ## this law's own end of a row -/
def F_lend (ds : List D) (R : O → Prop) : Prop := ∃ row xs : List Str, ds = [.nd .lst (row.map .str), .nd .lst (xs.map .str)] ∧ (∀ y ∈ row, PyData.strOk y = true) ∧ (∀ y ∈ xs, PyData.strOk y = true) ∧ row.length ≤ 1000000 ∧ xs.length ≤ 1000000 ∧ R = fun o => o = .fz (endI xs row)
abbrev C__law_end := CPu F_lend
def T__law_end : DS := (vSeq (vFor [Opd.ex (vPure [Opd.ex (vPure [Opd.sl 1] (bfD bfLen)), Opd.ex (vC (D.int 1))] (bfD bfAdd))] itRng1 (gN 2) (vSeq (vAsg 3 (vPure [Opd.sl 0] (bfD bfList))) (vSeq (vFor [Opd.ex (vFz (vSl (Opd.sl 1) none (some (Opd.sl 2))))] itAny (gN 4) (vSeq (vIfS (vAnd (vCmpT [Opd.sl 3, Opd.ex (vLst [])] bfNe) (vCmpT [Opd.ex (vPure [Opd.sl 3, Opd.ex (vC (D.int 0))] (bfD bfIx)), Opd.sl 4] bfEq)) (vSeq (vAsg 3 (vSl (Opd.sl 3) (some (Opd.ex (vC (D.int 1)))) none)) vNext) vNext) vNext)) (vSeq (vIfS (vCmpT [Opd.sl 3, Opd.ex (vLst [])] bfEq) (vSeq (vRet (vPure [Opd.sl 2, Opd.ex (vC (D.int 1))] (bfD (bfII tt2 fun i j => D.int (i - j))))) vNext) vNext) vNext)))) (vSeq (vRet (vC D.non)) vNext))
theorem strip_sub {α : Type} [DecidableEq α] : ∀ {es l : List α}, ∀ y ∈ strip es l, y ∈ l
  | [], l, y, h => h
  | e :: es, [], y, h => by rw [strip, strip_nil] at h; exact h
  | e :: es, x :: r, y, h => by
    rw [strip] at h
    split at h
    · exact List.mem_cons_of_mem _ (strip_sub y h)
    · exact strip_sub y h
theorem k_lend : Keeps 5 2 [2, 3, 4] T__law_end C__law_end := by
  refine .of (fun E os Q Z ⟨ds, R, e, ⟨row, xs, e1, hro, hxo, hl1, hl, e2⟩, hQ⟩ rt nx ex => ?_) rfl
  subst e e1 e2
  obtain ⟨n, hn⟩ : ∃ n : Nat, (xs.length : Int) + 1 = n := ⟨xs.length + 1, by omega⟩
  simp [T__law_end, startC, hn, rng1n (show n < 4611686018427387904 by omega)]
  refine forn (by walk_at "mono") (by walk_at "mono") (fun i c => ∃ x2 x3 x4, c = [.fz (.nd .lst (row.map .str)), .fz (.nd .lst (xs.map .str)), x2, x3, x4] ∧ ∀ m, m < i → strip (xs.take m) row ≠ []) ⟨_, _, _, rfl, by simp⟩ ?_ ?_
  · rintro K i d c hK hi ⟨x2, x3, x4, rfl, hlow⟩
    have hi1 : i < n := by
      have := (List.getElem?_eq_some_iff.mp hi).1
      simpa [rngD] using this
    have hd : d = .int (i : Nat) := by
      unfold rngD at hi
      rw [List.getElem?_map, List.getElem?_range hi1] at hi
      simp at hi
      exact hi.symm
    subst hd
    refine ⟨by simp [keepOps], ?_⟩
    rw [g_n]
    refine seqc (fun c => c = [.fz (.nd .lst (row.map .str)), .fz (.nd .lst (xs.map .str)), .fz (.int (i : Nat)), .own .lst (row.map fun x => .fz (.str x)), x4]) (by walk_at "mono") (fun J hJ => ?_) ?_
    · have hb : bfList [.nd .lst (row.map .str)] = some (.own .lst ((row.map D.str).map .fz)) := rfl
      simp [hb]
      have := hJ _ rfl
      simpa [Function.comp_def] using this
    rintro c rfl
    refine seqc (fun c => ∃ x4, c = [.fz (.nd .lst (row.map .str)), .fz (.nd .lst (xs.map .str)), .fz (.int (i : Nat)), .own .lst ((strip (xs.take i) row).map fun x => .fz (.str x)), x4]) (by walk_at "mono") (fun J hJ => ?_) ?_
    · simp
      refine forc (by walk_at "mono") (by walk_at "mono") (fun ds c => ∃ (suf l : List Str) (x4 : O), ds = suf.map .str ∧ c = [.fz (.nd .lst (row.map .str)), .fz (.nd .lst (xs.map .str)), .fz (.int (i : Nat)), .own .lst (l.map fun x => .fz (.str x)), x4] ∧ strip suf l = strip (xs.take i) row ∧ (∀ y ∈ l, PyData.strOk y = true) ∧ l.length ≤ 1000000) ⟨xs.take i, row, x4, ?_, rfl, rfl, hro, hl1⟩ ?_ ?_
      · rw [O.views_eq, ← List.map_take, List.map_map]
        rfl
      · rintro K d ds c hK ⟨suf, l, x4, hd, rfl, he, hok, hl'⟩
        cases suf with
        | nil => cases hd
        | cons e suf =>
          cases hd
          simp [keepOps, ne_strs0 hok]
          cases l with
          | nil =>
            simp
            exact hK _ ⟨suf, [], .fz (.str e), rfl, rfl, he, by simp, by simp⟩
          | cons x r =>
            have h0 : atI (D.str x :: r.map D.str) 0 = some (.str x) := by simp [atI, ixN]
            have h1 : cutD (D.str x :: r.map D.str) (some 1) none = r.map D.str := by
              rw [show (some 1 : Option Int) = some ((1 : Nat) : Int) from rfl, cut_from]
              rfl
            simp [h0]
            refine brS_of (fun h => ?_) (fun h => ?_)
            · simp at h
              simp [h1]
              refine hK _ ⟨suf, r, .fz (.str e), rfl, by simp [Function.comp_def], ?_, fun y hy => hok y (by simp [hy]), by simp at hl'; omega⟩
              rw [← he, strip, if_pos h]
            · simp at h
              simp
              refine hK _ ⟨suf, x :: r, .fz (.str e), rfl, rfl, ?_, hok, hl'⟩
              rw [← he, strip, if_neg h]
      · rintro c ⟨suf, l, x4, hd, rfl, he, hok, hl'⟩
        have : suf = [] := by cases suf with
          | nil => rfl
          | cons _ _ => cases hd
        subst this
        refine ⟨by simp [keepOps], hJ _ ⟨x4, ?_⟩⟩
        rw [← he]
        rfl
    rintro c ⟨x4, rfl⟩
    have hsub : ∀ y ∈ strip (xs.take i) row, PyData.strOk y = true := fun y hy => hro y (strip_sub y hy)
    have eq0 : bfEq [.own .lst ((strip (xs.take i) row).map fun x => .fz (.str x)), .own .lst []] = some (.fz (.bl (decide (strip (xs.take i) row = [])))) := eq_own.trans (eqN_strs (f := id) (m := []) (by simp) rfl hsub (by simp))
    simp [eq0]
    refine brS_of (fun h => ?_) (fun h => ?_)
    · simp at h
      simp
      refine rt _ _ (hQ _ ?_)
      have : le1 xs row = some i := by
        unfold le1
        rw [List.find?_range_eq_some]
        exact ⟨by simpa using h, by simp; omega, fun j hj => by simpa using hlow j hj⟩
      rw [le1_ei] at this
      simp [endI, this]
    · simp at h
      simp
      refine hK _ ⟨_, _, _, rfl, fun m hm => ?_⟩
      by_cases z : m = i
      · subst z; exact h
      · exact hlow m (by omega)
  · rintro c ⟨x2, x3, x4, rfl, hlow⟩
    simp [keepOps]
    refine rt _ _ (hQ _ ?_)
    have : le1 xs row = none := by
      unfold le1
      rw [List.find?_eq_none]
      intro m hm
      simp at hm
      simpa using hlow m (by simp [rngD]; omega)
    rw [le1_ei] at this
    simp [endI, this]
end VS
namespace VS
section
variable {α : Type} [DecidableEq α]
/-! ## stretches that have all names (plain) -/
/-- the ends, at: where one is, miss: what is lacking -/
def endsM (ns : List α) : Nat → List α → List α → List Nat
  | _, _, [] => []
  | a, miss, x :: xs => if miss.filter (fun y => !decide (y = x)) = [] then (a + 1) :: endsM ns (a + 1) ns xs else endsM ns (a + 1) (miss.filter fun y => !decide (y = x)) xs
def endsL (ns xs : List α) : List Nat := endsM ns 0 ns xs
def cntM (ns : List α) : List α → List α → Nat
  | _, [] => 0
  | miss, x :: xs => if miss.filter (fun y => !decide (y = x)) = [] then 1 + cntM ns ns xs else cntM ns (miss.filter fun y => !decide (y = x)) xs
theorem endsM_len {ns : List α} : ∀ {a : Nat} {miss xs : List α}, (endsM ns a miss xs).length = cntM ns miss xs
  | _, _, [] => rfl
  | a, miss, x :: xs => by
    unfold endsM cntM
    split
    · rw [List.length_cons, endsM_len, Nat.add_comm]
    · exact endsM_len
def cntL (ns xs : List α) : Nat := cntM ns ns xs
theorem endsL_len {ns xs : List α} : (endsL ns xs).length = cntL ns xs := endsM_len
theorem filt_nil {miss : List α} {x : α} (h : miss.filter (fun y => !decide (y = x)) = []) : ∀ y ∈ miss, y = x := fun y hy => by
  rw [List.filter_eq_nil_iff] at h
  simpa using h y hy
/-- rows short enough occur -/
theorem cnt_occ {ns : List α} : ∀ {xs miss : List α}, (∀ y ∈ miss, y ∈ ns) →
    (∀ r : List α, (∀ y ∈ r, y ∈ ns) → r.length + 1 ≤ cntM ns miss xs → r.Sublist xs) ∧
    (∀ h t, (∀ y ∈ h :: t, y ∈ ns) → h ∈ miss → (h :: t).length ≤ cntM ns miss xs → (h :: t).Sublist xs)
  | [], miss, hm => ⟨fun r _ hl => by simp [cntM] at hl, fun h t _ _ hl => by simp [cntM] at hl⟩
  | x :: xs, miss, hm => by
    by_cases e : miss.filter (fun y => !decide (y = x)) = []
    · have c : cntM ns miss (x :: xs) = 1 + cntM ns ns xs := by rw [cntM, if_pos e]
      have ih := cnt_occ (ns := ns) (xs := xs) (miss := ns) (fun _ h => h)
      have key : ∀ r : List α, (∀ y ∈ r, y ∈ ns) → r.length ≤ cntM ns ns xs → r.Sublist xs := fun r hr hl => by
        cases r with
        | nil => exact List.nil_sublist _
        | cons h t => exact ih.2 h t hr (hr h (by simp)) hl
      refine ⟨fun r hr hl => (key r hr (by omega)).trans (List.sublist_cons_self _ _), fun h t hr hh hl => ?_⟩
      have := filt_nil e h hh
      subst this
      refine List.Sublist.cons_cons _ (key t (fun y hy => hr y (by simp [hy])) ?_)
      simp at hl
      omega
    · have c : cntM ns miss (x :: xs) = cntM ns (miss.filter fun y => !decide (y = x)) xs := by rw [cntM, if_neg e]
      have ih := cnt_occ (ns := ns) (xs := xs) (miss := miss.filter fun y => !decide (y = x)) (fun y h => hm y ((List.mem_filter.mp h).1))
      refine ⟨fun r hr hl => (ih.1 r hr (by omega)).trans (List.sublist_cons_self _ _), fun h t hr hh hl => ?_⟩
      by_cases z : h = x
      · subst z
        exact List.Sublist.cons_cons _ (ih.1 t (fun y hy => hr y (by simp [hy])) (by simp at hl; omega))
      · exact (ih.2 h t hr (by simp [hh, z]) (by omega)).trans (List.sublist_cons_self _ _)
theorem cnt_full {ns xs r : List α} (hr : ∀ y ∈ r, y ∈ ns) (hl : r.length ≤ cntL ns xs) : r.Sublist xs := by
  cases r with
  | nil => exact List.nil_sublist _
  | cons h t => exact (cnt_occ (fun _ h => h)).2 h t hr (hr h (by simp)) hl
/-- a row that is one longer lacks -/
theorem cnt_lack {ns : List α} (hn : ns ≠ []) : ∀ {xs miss : List α}, miss ≠ [] → (∀ y ∈ miss, y ∈ ns) → ∃ h t, h ∈ miss ∧ (∀ y ∈ h :: t, y ∈ ns) ∧ (h :: t).length = cntM ns miss xs + 1 ∧ ¬ (h :: t).Sublist xs
  | [], miss, h0, hm => by
    cases miss with
    | nil => exact absurd rfl h0
    | cons m ms => exact ⟨m, [], by simp, by simpa using hm m (by simp), rfl, by simp⟩
  | x :: xs, miss, h0, hm => by
    by_cases e : miss.filter (fun y => !decide (y = x)) = []
    · have c : cntM ns miss (x :: xs) = 1 + cntM ns ns xs := by rw [cntM, if_pos e]
      obtain ⟨h, t, h1, h2, h3, h4⟩ := cnt_lack hn (xs := xs) (miss := ns) hn (fun _ h => h)
      have hx : x ∈ miss := by
        cases miss with
        | nil => exact absurd rfl h0
        | cons m ms =>
          have := filt_nil e m (by simp)
          subst this
          simp
      refine ⟨x, h :: t, hx, fun y hy => (List.mem_cons.mp hy).elim (fun z => z ▸ hm x hx) (h2 y), by rw [List.length_cons, h3, c]; omega, fun q => h4 ?_⟩
      exact List.cons_sublist_cons.mp q
    · have c : cntM ns miss (x :: xs) = cntM ns (miss.filter fun y => !decide (y = x)) xs := by rw [cntM, if_neg e]
      obtain ⟨h, t, h1, h2, h3, h4⟩ := cnt_lack hn (xs := xs) (miss := miss.filter fun y => !decide (y = x)) e (fun y h => hm y ((List.mem_filter.mp h).1))
      have hx : h ≠ x := by simpa using (List.mem_filter.mp h1).2
      refine ⟨h, t, (List.mem_filter.mp h1).1, h2, by omega, fun q => h4 ?_⟩
      cases q with
      | cons _ q => exact q
      | cons_cons _ q => exact absurd rfl hx
theorem cnt_not {ns xs : List α} (hn : ns ≠ []) : ∃ r : List α, (∀ y ∈ r, y ∈ ns) ∧ r.length = cntL ns xs + 1 ∧ ¬ r.Sublist xs := by
  obtain ⟨h, t, _, h2, h3, h4⟩ := cnt_lack hn (xs := xs) hn (fun _ h => h)
  exact ⟨_, h2, h3, h4⟩
/-- as many events as the stretches have at least -/
theorem cnt_mul {ns : List α} (hd : ns.Nodup) : ∀ {xs miss : List α}, miss.Nodup → (cntM ns miss xs - 1) * ns.length + (if cntM ns miss xs = 0 then 0 else miss.length) ≤ xs.length
  | [], miss, _ => by simp [cntM]
  | x :: xs, miss, hm => by
    have hf : miss.length ≤ (miss.filter fun y => !decide (y = x)).length + 1 := by
      have : ∀ l : List α, l.Nodup → l.length ≤ (l.filter fun y => !decide (y = x)).length + 1 := by
        intro l
        induction l with
        | nil => simp
        | cons y l ih =>
          intro h
          obtain ⟨h1, h2⟩ := List.nodup_cons.mp h
          by_cases z : y = x
          · subst z
            have : l.filter (fun z => !decide (z = y)) = l := List.filter_eq_self.mpr fun z hz => by
              simp
              rintro rfl
              exact h1 hz
            rw [List.filter_cons_of_neg (by simp), this]
            simp
          · rw [List.filter_cons_of_pos (by simp [z])]
            have := ih h2
            simp
            omega
      exact this _ hm
    by_cases e : miss.filter (fun y => !decide (y = x)) = []
    · have c : cntM ns miss (x :: xs) = 1 + cntM ns ns xs := by rw [cntM, if_pos e]
      have ih := cnt_mul hd (xs := xs) hd
      rw [e] at hf
      rw [c, if_neg (by omega), Nat.add_sub_cancel_left]
      simp at hf
      simp
      generalize cntM ns ns xs = n at ih ⊢
      cases n with
      | zero => simp; omega
      | succ n =>
        simp at ih
        rw [Nat.add_mul]
        simp
        omega
    · have c : cntM ns miss (x :: xs) = cntM ns (miss.filter fun y => !decide (y = x)) xs := by rw [cntM, if_neg e]
      have ih := cnt_mul hd (xs := xs) (miss := miss.filter fun y => !decide (y = x)) (hm.sublist List.filter_sublist)
      rw [c]
      simp
      split at ih
      · rename_i z; rw [if_pos z]; omega
      · rename_i z; rw [if_neg z]; omega
theorem cnt_le {ns xs : List α} (hd : ns.Nodup) : cntL ns xs * ns.length ≤ xs.length := by
  have := cnt_mul hd (xs := xs) hd
  unfold cntL
  split at this
  · rename_i z; rw [z]; omega
  · rename_i z
    obtain ⟨n, e⟩ : ∃ n, cntM ns ns xs = n + 1 := ⟨cntM ns ns xs - 1, by omega⟩
    rw [e] at this ⊢
    rw [Nat.add_mul]
    simpa using this
theorem nd_len : ∀ {l m : List α}, l.Nodup → (∀ y ∈ l, y ∈ m) → l.length ≤ m.length
  | [], m, _, _ => by simp
  | y :: l, m, h, hs => by
    obtain ⟨h1, h2⟩ := List.nodup_cons.mp h
    have hy : y ∈ m := hs y (by simp)
    have := nd_len (l := l) (m := m.erase y) h2 fun z hz => by
      rw [List.mem_erase_of_ne (by rintro rfl; exact h1 hz)]
      exact hs z (by simp [hz])
    rw [List.length_erase_of_mem hy] at this
    have := List.length_pos_of_mem hy
    simp
    omega
theorem nd_all {l m : List α} (h : l.Nodup) (hs : ∀ y ∈ l, y ∈ m) (hl : l.length = m.length) : ∀ y ∈ m, y ∈ l := fun y hy => by
  by_cases z : y ∈ l
  · exact z
  · have := nd_len (l := y :: l) (m := m) (List.nodup_cons.mpr ⟨z, h⟩) (fun w hw => (List.mem_cons.mp hw).elim (fun e => e ▸ hy) (hs w))
    simp at this
    omega
/-! what has been seen instead of what is lacking -/
def endsS (ns : List α) : Nat → List α → List α → List Nat
  | _, _, [] => []
  | a, seen, x :: xs =>
    let s' := if x ∈ ns then (if x ∈ seen then seen else seen ++ [x]) else seen
    if s'.length = ns.length then (a + 1) :: endsS ns (a + 1) [] xs else endsS ns (a + 1) s' xs
theorem endsS_eq {ns : List α} (hd : ns.Nodup) (hn : ns ≠ []) : ∀ {a : Nat} {seen miss xs : List α}, seen.Nodup → (∀ y ∈ seen, y ∈ ns) → miss = ns.filter (fun y => decide (y ∉ seen)) → endsS ns a seen xs = endsM ns a miss xs
  | _, _, _, [], _, _, _ => rfl
  | a, seen, miss, x :: xs, h1, h2, h3 => by
    subst h3
    have e1 : ∀ s' : List α, s' = (if x ∈ ns then (if x ∈ seen then seen else seen ++ [x]) else seen) → s'.Nodup ∧ (∀ y ∈ s', y ∈ ns) ∧ (ns.filter (fun y => decide (y ∉ seen))).filter (fun y => !decide (y = x)) = ns.filter (fun y => decide (y ∉ s')) := by
      intro s' e
      subst e
      split
      · rename_i hx
        split
        · rename_i hs
          refine ⟨h1, h2, ?_⟩
          rw [List.filter_filter]
          refine List.filter_congr fun y _ => ?_
          by_cases z : y = x
          · subst z; simp [hs]
          · simp [z]
        · rename_i hs
          refine ⟨?_, ?_, ?_⟩
          · rw [List.nodup_append]
            exact ⟨h1, by simp, fun b hb c hc => by simp at hc; subst hc; exact fun z => hs (z ▸ hb)⟩
          · intro y hy
            rcases List.mem_append.mp hy with q | q
            · exact h2 y q
            · simp at q; subst q; exact hx
          · rw [List.filter_filter]
            refine List.filter_congr fun y _ => ?_
            by_cases z : y = x
            · subst z; simp
            · simp [z]
      · rename_i hx
        refine ⟨h1, h2, ?_⟩
        rw [List.filter_filter]
        refine List.filter_congr fun y hy => ?_
        have : y ≠ x := fun z => hx (z ▸ hy)
        simp [this]
    have e2 : ∀ s' : List α, s'.Nodup → (∀ y ∈ s', y ∈ ns) → (s'.length = ns.length ↔ ns.filter (fun y => decide (y ∉ s')) = []) := by
      intro s' q1 q2
      rw [List.filter_eq_nil_iff]
      simp
      constructor
      · intro hl
        exact nd_all q1 q2 hl
      · intro q3
        have a1 := nd_len q1 q2
        have a2 := nd_len hd q3
        omega
    rw [endsS, endsM]
    generalize hs : (if x ∈ ns then (if x ∈ seen then seen else seen ++ [x]) else seen) = s'
    obtain ⟨q1, q2, q3⟩ := e1 s' hs.symm
    rw [q3]
    by_cases z : s'.length = ns.length
    · rw [if_pos z, if_pos ((e2 s' q1 q2).mp z)]
      rw [endsS_eq hd hn (seen := []) (miss := ns) (by simp) (by simp) (List.filter_eq_self.mpr (by simp)).symm]
    · rw [if_neg z, if_neg (fun w => z ((e2 s' q1 q2).mpr w))]
      exact endsS_eq hd hn q1 q2 rfl
theorem endsS_L {ns xs : List α} (hd : ns.Nodup) (hn : ns ≠ []) : endsS ns 0 [] xs = endsL ns xs := endsS_eq hd hn (by simp) (by simp) (List.filter_eq_self.mpr (by simp)).symm
/-- names in another order: the same ends -/
theorem endsM_perm {ns ms : List α} (p : ns.Perm ms) : ∀ {a : Nat} {m m' xs : List α}, m.Perm m' → endsM ns a m xs = endsM ms a m' xs
  | _, _, _, [], _ => rfl
  | a, m, m', x :: xs, q => by
    have qf := q.filter (fun y => !decide (y = x))
    rw [endsM, endsM]
    by_cases z : m.filter (fun y => !decide (y = x)) = []
    · rw [if_pos z, if_pos (by rw [z] at qf; exact qf.symm.eq_nil), endsM_perm p p]
    · rw [if_neg z, if_neg (fun w => z (by rw [w] at qf; exact qf.eq_nil)), endsM_perm p qf]
theorem endsL_perm {ns ms xs : List α} (p : ns.Perm ms) : endsL ns xs = endsL ms xs := endsM_perm p p
/-- all rows of so many names -/
def everyL (ns : List α) : Nat → List (List α)
  | 0 => [[]]
  | n + 1 => (everyL ns n).flatMap fun r => ns.map fun y => r ++ [y]
theorem everyL_len {ns : List α} : ∀ {n : Nat}, (everyL ns n).length = ns.length ^ n
  | 0 => rfl
  | n + 1 => by
    rw [everyL, List.length_flatMap]
    simp [everyL_len, Nat.pow_succ, List.map_const', List.sum_replicate_nat]
theorem mem_everyL {ns : List α} : ∀ {n : Nat} {r : List α}, r ∈ everyL ns n ↔ r.length = n ∧ ∀ y ∈ r, y ∈ ns
  | 0, r => by
    simp [everyL, List.length_eq_zero_iff]
    intro h
    subst h
    simp
  | n + 1, r => by
    rw [everyL, List.mem_flatMap]
    constructor
    · rintro ⟨r', h1, h2⟩
      obtain ⟨y, hy, rfl⟩ := List.mem_map.mp h2
      obtain ⟨q1, q2⟩ := mem_everyL.mp h1
      refine ⟨by simp [q1], fun z hz => ?_⟩
      rcases List.mem_append.mp hz with w | w
      · exact q2 z w
      · simp at w; subst w; exact hy
    · rintro ⟨h1, h2⟩
      obtain ⟨r', y, rfl⟩ : ∃ r' y, r = r' ++ [y] := by
        rcases List.eq_nil_or_concat r with e | ⟨a, b, e⟩
        · subst e; cases h1
        · exact ⟨a, b, by simpa using e⟩
      exact ⟨r', mem_everyL.mpr ⟨by simpa using h1, fun z hz => h2 z (by simp [hz])⟩, List.mem_map.mpr ⟨y, h2 y (by simp), rfl⟩⟩
/-- whether each row of n names occurs -/
def fullL (ns xs : List α) (n : Nat) : Bool := (everyL ns n).all fun r => decide (r.Sublist xs)
theorem fullL_cnt {ns xs : List α} : fullL ns xs (cntL ns xs) = true := by
  unfold fullL
  rw [List.all_eq_true]
  intro r hr
  obtain ⟨h1, h2⟩ := mem_everyL.mp hr
  simpa using cnt_full h2 (by omega)
theorem fullL_not {ns xs : List α} (hn : ns ≠ []) : fullL ns xs (cntL ns xs + 1) = false := by
  obtain ⟨r, h1, h2, h3⟩ := cnt_not (xs := xs) hn
  unfold fullL
  rw [List.all_eq_false]
  exact ⟨r, mem_everyL.mpr ⟨h2, h1⟩, by simpa using h3⟩
end
end VS
namespace VS
open PySem PySem.Spec PyProof.Rows L2 SX
local macro_rules | `(tactic| walk_at "mono") => `(tactic| repeat' (with_reducible first
  | exact mO_nil | apply mO_sl | apply mO_ex | exact mB_none | apply mB_some
  | exact vNext_mono | apply vSeq_mono | apply vAsg_mono | apply vPure_mono | exact vC_mono | exact vVar_mono | exact vMv_mono | apply vCmpT_mono | apply vCmpIx_mono | apply vIfS_mono | apply vRet_mono | apply vDrop_mono | apply vCall_mono
  | apply vFz_mono | apply vAsgT_mono | apply gSubD_mono | exact gN_mono | apply gT_mono | apply gsCons_mono | exact gsNil_mono | apply vAnd_mono | apply vOr_mono | apply vNot_mono | apply vTru_mono | apply vTup_mono | apply vLst_mono
  | apply vFor_mono | apply vWhile_mono | apply vPar_mono | apply vLc_mono | apply vDc_mono | exact vYes_mono | apply vMth_mono | apply vMthI_mono | apply vSl_mono | apply vAug_mono | apply vTest_mono | apply vChain_mono | apply vIf_mono | apply vAndV_mono | apply vOrV_mono | apply vNotV_mono | apply vDisp_mono
  | apply vBool_mono | apply vIsB_mono | exact vNewD_mono | exact vBreak_mono | exact vCont_mono | exact vNever_mono | exact vRetN_mono | exact CDr_mono | exact CPu_mono | apply arrC_mono
  | apply vLockE_mono | apply vDispT_mono | apply vTupS_mono | apply vLstS_mono | exact mL_nil | apply mL_cons))
/-! ## lists of texts, cut and joined -/
theorem cut_strs_to {xs : List Str} {k : Nat} : cutR (.nd .lst (xs.map .str)) none (some (k : Int)) = some (.own .lst ((xs.take k).map fun y => .fz (.str y))) := by
  simp [List.map_take, Function.comp_def]
theorem cut_strs_from {xs : List Str} {k : Nat} : cutR (.nd .lst (xs.map .str)) (some (k : Int)) none = some (.own .lst ((xs.drop k).map fun y => .fz (.str y))) := by
  simp [List.map_drop, Function.comp_def]
theorem cut_strs_mid {xs : List Str} {i j : Nat} (h : i ≤ xs.length) : cutR (.nd .lst (xs.map .str)) (some (i : Int)) (some (j : Int)) = some (.own .lst (((xs.drop i).take (j - i)).map fun y => .fz (.str y))) := by
  rw [cut_lst, cut_mid (by simpa using h)]
  simp [List.map_drop, List.map_take, Function.comp_def]
theorem cat_strs {a b : List Str} (h : a.length + b.length ≤ 16777216) : bfAdd [.nd .lst (a.map .str), .nd .lst (b.map .str)] = some (.own .lst ((a ++ b).map fun y => .fz (.str y))) := by
  rw [cat_lst, if_pos (by simpa using h)]
  simp [Function.comp_def]
theorem cat_str1 {a : List Str} {y : Str} (h : a.length + 1 ≤ 16777216) : bfAdd [.nd .lst (a.map .str), .nd .lst [.str y]] = some (.own .lst ((a ++ [y]).map fun y => .fz (.str y))) := cat_strs (b := [y]) h
theorem ix_strs {xs : List Str} {i : Nat} (h : i < xs.length) : bfIx [.nd .lst (xs.map .str), .int (i : Nat)] = some (.fz (.str xs[i])) := by
  rw [ix_lst, atI_of (by simpa using h)]
  simp
theorem rev_strs {xs : List Str} : bfRev [.nd .lst (xs.map .str)] = some (.own .lst (xs.reverse.map fun y => .fz (.str y))) := by
  rw [rev_lst]
  simp [← List.map_reverse, Function.comp_def]
/-! ## names, full logs -/
theorem eqFl_strs {x : Str} : ∀ l : List Str, ((l.map D.str).any fun y => eqFl y (.str x)) = decide (x ∈ l)
  | [] => rfl
  | y :: l => by
    rw [List.map_cons, List.any_cons, eqFl_strs l]
    simp only [eqFl, List.mem_cons]
    rw [Bool.eq_iff_iff]
    simp
    exact ⟨fun q => q.imp Eq.symm id, fun q => q.imp Eq.symm id⟩
theorem flat_strs {l : List Str} : (l.map D.str).all flatD = true := by
  rw [List.all_eq_true]
  intro d hd
  obtain ⟨x, _, rfl⟩ := List.mem_map.mp hd
  rfl
theorem in_strsT {f : Bool → Bool} {x : Str} {l : List Str} : bfIn f [.str x, .nd .tup (l.map .str)] = some (.fz (.bl (f (decide (x ∈ l))))) := by
  simp only [bfIn, flat_strs]
  rw [eqFl_strs]
  rfl
theorem Seq.in {f : Bool → Bool} {x : Str} {d : D} {xs : List Str} (h : Seq d xs) (hx : PyData.strOk x = true) (h1 : ∀ y ∈ xs, PyData.strOk y = true) : bfIn f [.str x, d] = some (.fz (.bl (f (decide (x ∈ xs))))) := by
  cases h with
  | lst => exact in_strs hx h1
  | tup => exact in_strsT
theorem Seq.cut_to {d : D} {xs : List Str} (h : Seq d xs) (k : Nat) : ∃ o d', cutR d none (some (k : Int)) = some o ∧ o.sh = d' ∧ o.view = d' ∧ isBad o = false ∧ Seq d' (xs.take k) := by
  cases h with
  | lst => exact ⟨.own .lst ((xs.take k).map fun x => .fz (.str x)), .nd .lst ((xs.take k).map .str), by simp [List.map_take, Function.comp_def], by simp, by rw [O.view, views_fstrs], rfl, .lst⟩
  | tup => exact ⟨.fz (.nd .tup ((xs.take k).map .str)), .nd .tup ((xs.take k).map .str), by simp [List.map_take], rfl, rfl, rfl, .tup⟩
theorem isNm_ok {x : Str} (h : isNm x = true) : PyData.strOk x = true := word_ok (word_nm.mpr h)
theorem Seq.isi {d : D} {xs : List Str} (h : Seq d xs) {kitT : Value → Value → Option Bool} {clsT : Addr → Bool} : bfIsi kitT clsT [d, .nd .tup [.val (.ty "list"), .val (.ty "tuple")]] = some (.fz (.bl true)) := by cases h <;> rfl
/-- different names -/
def F_need_different (ds : List D) (R : O → Prop) : Prop := ∃ d xs, ds = [d] ∧ Seq d xs ∧ (∀ x ∈ xs, isNm x = true) ∧ xs.Nodup ∧ R = fun o => o = .fz .non
abbrev C_need_different := CPu F_need_different
def T_need_different (kitT : Value → Value → Option Bool) (clsT : Addr → Bool) : DS := (vSeq (vIfS (vNot (vTru (Opd.ex (vPure [Opd.sl 0, Opd.ex (vTup [Opd.ex (vC (D.val (V.ty "list"))), Opd.ex (vC (D.val (V.ty "tuple")))])] (bfD (bfIsi kitT clsT)))))) (vSeq vNever vNext) vNext) (vSeq (vFor [Opd.ex (vVar 0)] itEnum (gT 2 (gsCons (gN 1) (gsCons (gN 2) gsNil))) (vSeq (vIfS (vOr (vNot (vTru (Opd.ex (vCall C_is_nameV [] [Opd.ex (vVar 2)])))) (vCmpT [Opd.sl 2, Opd.ex (vSl (Opd.sl 0) none (some (Opd.sl 1)))] (bfD (bfIn fun a => a)))) (vSeq vNever vNext) vNext) vNext)) vNext))
theorem k_need_different {kitT : Value → Value → Option Bool} {clsT : Addr → Bool} : Keeps 3 1 [1, 2] (T_need_different kitT clsT) C_need_different := by
  refine .of (fun E os Q Z ⟨ds, R, e, ⟨d, xs, e1, hs, hn, hd, e2⟩, hQ⟩ rt nx ex => ?_) rfl
  subst e e1 e2
  simp [T_need_different, startC, hs.nb, mkT, hs.isi, hs.enum]
  refine forn (by walk_at "mono") (by walk_at "mono") (fun i c => ∃ x1 x2, c = [.fz d, x1, x2]) ⟨_, _, rfl⟩ ?_ ?_
  · rintro K i it c hK hi ⟨x1, x2, rfl⟩
    obtain ⟨e, h1, h2⟩ := enumD_at hi
    obtain ⟨x, hx, rfl⟩ := List.mem_map.mp (List.mem_of_getElem? h1)
    rw [List.getElem?_map] at h1
    obtain ⟨x', h3, h4⟩ := Option.map_eq_some_iff.mp h1
    cases h4
    subst h2
    obtain ⟨o, d', c1, c2, c3, c4, c5⟩ := hs.cut_to i
    have hnot : x ∉ xs.take i := by
      intro q
      obtain ⟨j, hj, e⟩ := List.getElem_of_mem q
      simp at hj
      rw [List.getElem_take] at e
      obtain ⟨q1, q2⟩ := List.getElem?_eq_some_iff.mp h3
      have := (List.nodup_iff_pairwise_ne.mp hd)
      have := List.pairwise_iff_getElem.mp this j i (by omega) q1 (by omega)
      exact this (e.trans q2.symm)
    simp [keepOps]
    refine pure_of (ds := [.str x]) rfl ⟨.str x, rfl, .str (by have := isNm_len (hn x hx); omega), rfl⟩ fun r hr => ?_
    subst hr
    simp [isNmD, hn x hx, hs.nb, c1, c2, c5.in (f := fun a => a) (isNm_ok (hn x hx)) (fun y hy => isNm_ok (hn y (List.mem_of_mem_take hy))), hnot]
    exact hK _ ⟨_, _, rfl⟩
  · rintro c ⟨x1, x2, rfl⟩
    simp [keepOps]
    exact nx _ (hQ _ rfl)
def F_need_names (ds : List D) (R : O → Prop) : Prop := ∃ d xs, ds = [d, .int 4] ∧ Seq d xs ∧ (∀ x ∈ xs, isNm x = true) ∧ xs.Nodup ∧ xs ≠ [] ∧ xs.length ≤ 4 ∧ R = fun o => o = .fz .non
abbrev C_need_names := CPu F_need_names
def T_need_names (kitT : Value → Value → Option Bool) (clsT : Addr → Bool) : DS := (vSeq (vIfS (vOr (vNot (vTru (Opd.ex (vPure [Opd.sl 0, Opd.ex (vTup [Opd.ex (vC (D.val (V.ty "list"))), Opd.ex (vC (D.val (V.ty "tuple")))])] (bfD (bfIsi kitT clsT)))))) (vCmpT [Opd.ex (vPure [Opd.sl 0] (bfD bfLen)), Opd.ex (vC (D.int 0))] bfEq)) (vSeq vNever vNext) vNext) (vSeq (vDrop (vCall C_need_different [] [Opd.ex (vFz (vSl (Opd.sl 0) none (some (Opd.sl 1))))])) (vSeq (vIfS (vCmpT [Opd.ex (vPure [Opd.sl 0] (bfD bfLen)), Opd.sl 1] (bfD bfGt)) (vSeq vNever vNext) vNext) vNext)))
theorem k_need_names {kitT : Value → Value → Option Bool} {clsT : Addr → Bool} : Keeps 2 2 [] (T_need_names kitT clsT) C_need_names := by
  refine .of (fun E os Q Z ⟨ds, R, e, ⟨d, xs, e1, hs, hn, hd, h0, hl, e2⟩, hQ⟩ rt nx ex => ?_) rfl
  subst e e1 e2
  obtain ⟨o, d', c1, c2, c3, c4, c5⟩ := hs.cut_to 4
  rw [List.take_of_length_le hl] at c5
  have h0' : ¬ (xs.length : Int) = 0 := by have := List.length_pos_iff.mpr h0; omega
  have c1' : cutR d none (some (4 : Int)) = some o := c1
  simp [T_need_names, startC, hs.nb, mkT, hs.isi, hs.len, c1', h0, c3, c4]
  refine pure_of (ds := [d']) rfl ⟨d', xs, rfl, c5, hn, hd, rfl⟩ fun r hr => ?_
  subst hr
  have h4 : ¬ (4 : Int) < (xs.length : Int) := by omega
  simp [hs.nb, hs.len, h4]
  exact nx _ (hQ _ rfl)
/-! ## stretches -/
theorem eq_strs0 {l : List Str} (h : ∀ x ∈ l, PyData.strOk x = true) : bfEq [.own .lst (l.map fun z => .fz (.str z)), .own .lst []] = some (.fz (.bl (decide (l = [])))) := eq_own.trans (eqN_strs (f := id) (m := []) (by simp) rfl h (by simp))
def F_stretch_ends (ds : List D) (R : O → Prop) : Prop := ∃ d xs dn ns, ds = [d, dn] ∧ Seq d xs ∧ Seq dn ns ∧ (∀ x ∈ xs, PyData.strOk x = true) ∧ (∀ x ∈ ns, PyData.strOk x = true) ∧ xs.length ≤ 1000000 ∧ ns.length ≤ 1000 ∧ R = fun o => o = .own .lst ((endsL ns xs).map fun n : Nat => .fz (.int (n : Int)))
abbrev C_stretch_ends := CPu F_stretch_ends
def T_stretch_ends : DS := (vSeq (vPar [2, 3] [Opd.ex (vLst []), Opd.ex (vPure [Opd.sl 1] (bfD bfList))]) (vSeq (vFor [Opd.ex (vVar 0)] itEnum (gT 2 (gsCons (gN 4) (gsCons (gN 5) gsNil))) (vSeq (vAsg 3 (vLc [6] [Opd.ex (vVar 3)] itAny (gN 6) (vCmpT [Opd.sl 6, Opd.sl 5] bfNe) (vVar 6))) (vSeq (vIfS (vCmpT [Opd.sl 3, Opd.ex (vLst [])] bfEq) (vSeq (vDrop (vMth (methOf (("append" : Str))) (Opd.sl 2) [Opd.ex (vFz (vPure [Opd.sl 4, Opd.ex (vC (D.int 1))] (bfD bfAdd)))])) (vSeq (vAsg 3 (vPure [Opd.sl 1] (bfD bfList))) vNext)) vNext) vNext))) (vSeq (vRet (vMv 2)) vNext)))
theorem Seq.list {d : D} {xs : List Str} (h : Seq d xs) : bfList [d] = some (.own .lst (xs.map fun x => .fz (.str x))) := by
  cases h <;> simp [bfList, Function.comp_def]
def notS (x : Str) : D → Bool
  | .str y => !decide (y = x)
  | _ => true
theorem filt_notS {x : Str} : ∀ {l : List Str}, (l.map D.str).filter (notS x) = (l.filter fun y => !decide (y = x)).map .str
  | [] => rfl
  | y :: l => by
    simp only [List.map_cons, List.filter_cons, filt_notS (l := l), notS]
    split <;> rfl
theorem endsM_le {α : Type} [DecidableEq α] {ns : List α} : ∀ {a : Nat} {m xs : List α}, (endsM ns a m xs).length ≤ xs.length
  | _, _, [] => by simp [endsM]
  | a, m, x :: xs => by
    rw [endsM]
    split
    · have := endsM_le (ns := ns) (a := a + 1) (m := ns) (xs := xs)
      simp
      omega
    · have := endsM_le (ns := ns) (a := a + 1) (m := m.filter fun y => !decide (y = x)) (xs := xs)
      simp
      omega
theorem k_stretch_ends : Keeps 7 2 [2, 3, 4, 5] T_stretch_ends C_stretch_ends := by
  refine .of (fun E os Q Z ⟨ds, R, e, ⟨d, xs, dn, ns, e1, hs, hsn, hx, hn, hl, hnl, e2⟩, hQ⟩ rt nx ex => ?_) rfl
  subst e e1 e2
  simp [T_stretch_ends, startC, hs.nb, hsn.nb, hs.enum, hsn.list]
  refine forn (by walk_at "mono") (by walk_at "mono") (fun i c => ∃ (pre : List Nat) (miss : List Str) (x4 x5 : O), c = [.fz d, .fz dn, .own .lst (pre.map fun n : Nat => .fz (.int (n : Int))), .own .lst (miss.map fun x => .fz (.str x)), x4, x5, .bad] ∧ (∀ y ∈ miss, y ∈ ns) ∧ miss.length ≤ ns.length ∧ pre.length ≤ i ∧ endsL ns xs = pre ++ endsM ns i miss (xs.drop i)) ⟨[], ns, .bad, .bad, rfl, by simp, Nat.le_refl _, by simp, by simp [endsL]⟩ ?_ ?_
  · rintro K i it c hK hi ⟨pre, miss, x4, x5, rfl, hm, hml, hp, he⟩
    obtain ⟨e, h1, h2⟩ := enumD_at hi
    obtain ⟨x, hxx, rfl⟩ := List.mem_map.mp (List.mem_of_getElem? h1)
    rw [List.getElem?_map] at h1
    obtain ⟨x', h3, h4⟩ := Option.map_eq_some_iff.mp h1
    cases h4
    subst h2
    obtain ⟨q1, q2⟩ := List.getElem?_eq_some_iff.mp h3
    simp [keepOps]
    refine lc_filter (by walk_at "mono") (by walk_at "mono") (by walk_at "mono") (notS x) .fz (by simp [keepOps]) (by simp; omega) ?_ ?_
    · intro d' hd'
      obtain ⟨y, hy, rfl⟩ := List.mem_map.mp hd'
      simp [notS]
    · rw [filt_notS]
      obtain ⟨m', hm'⟩ : ∃ m', m' = miss.filter fun y => !decide (y = x) := ⟨_, rfl⟩
      rw [← hm']
      have hsub : ∀ y ∈ m', y ∈ ns := fun y hy => hm y (by rw [hm'] at hy; exact (List.mem_filter.mp hy).1)
      have hlen : m'.length ≤ miss.length := by rw [hm']; exact List.length_filter_le ..
      rw [List.drop_eq_getElem_cons q1, q2, endsM, ← hm'] at he
      rw [List.map_map]
      simp [eq_strs0 (l := m') (fun y hy => hn y (hsub y hy)), Function.comp_def]
      refine brS_of (fun h => ?_) (fun h => ?_)
      · simp at h
        subst h
        simp at he
        simp [append_of (show (pre.map fun n : Nat => O.fz (D.int n)).length < sizeLine by simp; omega), hsn.list, hsn.nb]
        show K _
        refine hK _ ⟨pre ++ [i + 1], ns, .fz (.int (i : Nat)), .fz (.str x), by simp, fun _ h => h, Nat.le_refl _, by simp; omega, by rw [he]; simp⟩
      · simp at h
        rw [if_neg h] at he
        simp
        exact hK _ ⟨pre, m', _, _, rfl, hsub, by omega, by omega, he⟩
  · rintro c ⟨pre, miss, x4, x5, rfl, hm, hml, hp, he⟩
    have : (enumD 0 (xs.map D.str)).length = xs.length := by simp [enumD_len]
    rw [this, List.drop_length, endsM, List.append_nil] at he
    simp [keepOps]
    exact rt _ _ (hQ _ (by rw [he]))
def F_fullness (ds : List D) (R : O → Prop) : Prop := ∃ d xs dn ns, ds = [d, dn] ∧ Seq d xs ∧ Seq dn ns ∧ (∀ x ∈ xs, isNm x = true) ∧ (∀ x ∈ ns, isNm x = true) ∧ ns.Nodup ∧ ns ≠ [] ∧ ns.length ≤ 4 ∧ xs.length ≤ 1000000 ∧ R = fun o => o = .fz (.int (cntL ns xs : Nat))
abbrev C_fullness := CPu F_fullness
def T_fullness : DS := (vSeq (vDrop (vCall C_need_log [] [Opd.ex (vVar 0)])) (vSeq (vDrop (vCall C_need_names [D.int 4] [Opd.ex (vVar 1)])) (vSeq (vRet (vPure [Opd.ex (vCall C_stretch_ends [] [Opd.ex (vVar 0), Opd.ex (vVar 1)])] (bfD bfLen))) vNext)))
theorem k_fullness : Keeps 2 2 [] T_fullness C_fullness := by
  refine .of (fun E os Q Z ⟨ds, R, e, ⟨d, xs, dn, ns, e1, hs, hsn, hx, hn, hd, h0, hnl, hl, e2⟩, hQ⟩ rt nx ex => ?_) rfl
  subst e e1 e2
  simp [T_fullness, startC, hs.nb, hsn.nb]
  refine pure_of (ds := [d]) rfl ⟨d, xs, rfl, hs, hx, rfl⟩ fun r hr => ?_
  subst hr
  simp [hs.nb, hsn.nb]
  refine pure_of (ds := [dn, .int 4]) rfl ⟨dn, ns, rfl, hsn, hn, hd, h0, hnl, rfl⟩ fun r hr => ?_
  subst hr
  simp [hs.nb, hsn.nb]
  refine pure_of (ds := [d, dn]) rfl ⟨d, xs, dn, ns, rfl, hs, hsn, fun x h => isNm_ok (hx x h), fun x h => isNm_ok (hn x h), hl, by omega, rfl⟩ fun r hr => ?_
  subst hr
  simp [endsL_len]
  exact rt _ _ (hQ _ rfl)
def F_stretches (ds : List D) (R : O → Prop) : Prop := ∃ d xs dn ns, ds = [d, dn] ∧ Seq d xs ∧ Seq dn ns ∧ (∀ x ∈ xs, isNm x = true) ∧ (∀ x ∈ ns, isNm x = true) ∧ ns.Nodup ∧ ns ≠ [] ∧ ns.length ≤ 4 ∧ xs.length ≤ 1000000 ∧ R = fun o => o = .own .lst ((endsL ns xs).map fun n : Nat => .fz (.int (n : Int)))
abbrev C_stretches := CPu F_stretches
def T_stretches : DS := (vSeq (vDrop (vCall C_need_log [] [Opd.ex (vVar 0)])) (vSeq (vDrop (vCall C_need_names [D.int 4] [Opd.ex (vVar 1)])) (vSeq (vRet (vCall C_stretch_ends [] [Opd.ex (vVar 0), Opd.ex (vVar 1)])) vNext)))
theorem k_stretches : Keeps 2 2 [] T_stretches C_stretches := by
  refine .of (fun E os Q Z ⟨ds, R, e, ⟨d, xs, dn, ns, e1, hs, hsn, hx, hn, hd, h0, hnl, hl, e2⟩, hQ⟩ rt nx ex => ?_) rfl
  subst e e1 e2
  simp [T_stretches, startC, hs.nb, hsn.nb]
  refine pure_of (ds := [d]) rfl ⟨d, xs, rfl, hs, hx, rfl⟩ fun r hr => ?_
  subst hr
  simp [hs.nb, hsn.nb]
  refine pure_of (ds := [dn, .int 4]) rfl ⟨dn, ns, rfl, hsn, hn, hd, h0, hnl, rfl⟩ fun r hr => ?_
  subst hr
  simp [hs.nb, hsn.nb]
  refine pure_of (ds := [d, dn]) rfl ⟨d, xs, dn, ns, rfl, hs, hsn, fun x h => isNm_ok (hx x h), fun x h => isNm_ok (hn x h), hl, by omega, rfl⟩ fun r hr => ?_
  subst hr
  exact rt _ _ (hQ _ rfl)
theorem repr_nats {o : O} {l : List Nat} (e : o.view = .nd .lst (l.map fun n : Nat => .int (n : Int))) (h : ∀ n ∈ l, n < 1000000000) (hl : l.length ≤ 100000) : bfRepr [o] = some (.fz (.str (rpr (.nd .lst (l.map fun n : Nat => .int (n : Int)))))) := by
  have e1 : (l.map fun n : Nat => D.int (n : Int)) = (l.map fun n : Nat => (n : Int)).map .int := by rw [List.map_map]; rfl
  have := repr_good (o := o) (by
    rw [e, e1]
    exact good_ints fun x hx => by
      obtain ⟨n, hn, rfl⟩ := List.mem_map.mp hx
      have := h n hn
      omega) (by rw [e]; rfl) (by rw [e, e1]; simp only [pd, PyData.depth, pds_ints, depth_ints]; omega) (by
    rw [e, e1]
    simp only [pd, PyData.bulk, pds_ints, bulk_ints, List.length_map]
    omega)
  rw [e] at this
  exact this
theorem eqN_nats {f : Bool → Bool} {a b : O} {l m : List Nat} (ha : a.view = .nd .lst (l.map fun n : Nat => .int (n : Int))) (hb : b.view = .nd .lst (m.map fun n : Nat => .int (n : Int))) : bfEqN f [a, b] = some (.fz (.bl (f (decide (l = m))))) := by
  have e1 : ∀ l : List Nat, (l.map fun n : Nat => D.int (n : Int)) = (l.map fun n : Nat => (n : Int)).map .int := fun l => by rw [List.map_map]; rfl
  rw [eqN_ints (l := l.map fun n : Nat => (n : Int)) (m := m.map fun n : Nat => (n : Int)) (by rw [ha, e1]) (by rw [hb, e1])]
  have : ((l.map fun n : Nat => (n : Int)) = m.map fun n : Nat => (n : Int)) = (l = m) := propext (List.map_inj_right fun x y h => Int.ofNat_inj.mp h)
  simp only [this]
theorem repr_nat {n : Nat} (h : n < 1000000000) : bfRepr [.fz (.int (n : Nat))] = some (.fz (.str (toString (n : Int)))) := by
  have : ((n : Int)).natAbs.log2 < 1920 := by
    rcases Nat.eq_zero_or_pos n with z | z
    · rw [z]; decide
    · have := (Nat.log2_lt (n := n) (k := 30) (by omega)).mpr (by omega)
      show n.log2 < 1920
      omega
  have e : bfRepr [.fz (.int (n : Nat))] = if ((n : Int)).natAbs.log2 < 1920 then some (.fz (.str (toString (n : Int)))) else none := rfl
  rw [e, if_pos this]
/-- a value by two ways -/
theorem brE_cut {b : Bool} {t u : DE} {E : XP} {c : Cf} {Q : DK} (I : DK) (mt : Mono t) (mu : Mono u) (h1 : ∀ J : DK, (∀ o c, I o c → J o c) → b = true → t E c J) (h2 : ∀ J : DK, (∀ o c, I o c → J o c) → b = false → u E c J) (h : ∀ o c, I o c → Q o c) : brE b t u E c Q := by
  cases b with
  | true => exact mt _ _ _ _ _ (fun _ _ _ z => z) h (h1 I (fun _ _ z => z) rfl)
  | false => exact mu _ _ _ _ _ (fun _ _ _ z => z) h (h2 I (fun _ _ z => z) rfl)
/-- a test by two ways -/
theorem brT_cut {b v : Bool} {t : DT} {E : XP} {c : Cf} {Q : Bool → Cf → Prop} (I : Bool → Cf → Prop) (mt : MonoT t) (h1 : ∀ J : Bool → Cf → Prop, (∀ b c, I b c → J b c) → b = v → t E c J) (h2 : b = !v → I b c) (h : ∀ b c, I b c → Q b c) : brT b v t E c Q :=
  brT_of (fun e => mt _ _ _ _ _ (fun _ _ _ z => z) h (h1 I (fun _ _ z => z) e)) (fun e => h _ _ (h2 e))
theorem rng0 {n : Nat} : rngD 0 n 1 = (List.range n).map fun i : Nat => D.int (i : Int) := by
  unfold rngD
  refine List.map_congr_left fun i _ => ?_
  rw [Int.zero_add, Int.mul_one]
end VS
namespace VS
open PySem PySem.Spec PyProof.Rows L2 SX
local macro_rules | `(tactic| walk_at "mono") => `(tactic| repeat' (with_reducible first
  | exact mO_nil | apply mO_sl | apply mO_ex | exact mB_none | apply mB_some
  | exact vNext_mono | apply vSeq_mono | apply vAsg_mono | apply vPure_mono | exact vC_mono | exact vVar_mono | exact vMv_mono | apply vCmpT_mono | apply vCmpIx_mono | apply vIfS_mono | apply vRet_mono | apply vDrop_mono | apply vCall_mono
  | apply vFz_mono | apply vAsgT_mono | apply gSubD_mono | exact gN_mono | apply gT_mono | apply gsCons_mono | exact gsNil_mono | apply vAnd_mono | apply vOr_mono | apply vNot_mono | apply vTru_mono | apply vTup_mono | apply vLst_mono
  | apply vFor_mono | apply vWhile_mono | apply vPar_mono | apply vLc_mono | apply vDc_mono | exact vYes_mono | apply vMth_mono | apply vMthI_mono | apply vSl_mono | apply vAug_mono | apply vTest_mono | apply vChain_mono | apply vIf_mono | apply vAndV_mono | apply vOrV_mono | apply vNotV_mono | apply vDisp_mono
  | apply vBool_mono | apply vIsB_mono | exact vNewD_mono | exact vBreak_mono | exact vCont_mono | exact vNever_mono | exact vRetN_mono | exact CDr_mono | exact CPu_mono | apply arrC_mono
  | apply vLockE_mono | apply vDispT_mono | apply vTupS_mono | apply vLstS_mono | exact mL_nil | apply mL_cons))
/-! ## a law's own words about absent rows -/
def occG : List Str → List Str → Bool
  | [], _ => true
  | _ :: _, [] => false
  | r :: rs, x :: xs => if r = x then occG rs xs else occG (r :: rs) xs
theorem occG_iff : ∀ {row xs : List Str}, occG row xs = true ↔ row.Sublist xs
  | [], xs => by simp [occG]
  | r :: rs, [] => by simp [occG]
  | r :: rs, x :: xs => by
    rw [occG]
    split
    · rename_i e
      subst e
      rw [occG_iff, List.cons_sublist_cons]
    · rename_i e
      rw [occG_iff]
      exact ⟨fun q => q.trans (List.sublist_cons_self _ _), fun q => by
        cases q with
        | cons _ q => exact q
        | cons_cons _ q => exact absurd rfl e⟩
def F__law_occurs (ds : List D) (R : O → Prop) : Prop := ∃ rd row ld xs, ds = [rd, ld] ∧ Seq rd row ∧ Seq ld xs ∧ R = fun o => o = .fz (.bl (occG row xs))
abbrev C__law_occurs := CPu F__law_occurs
def T__law_occurs : DS := (vSeq (vAsg 2 (vC (D.int 0))) (vSeq (vFor [Opd.ex (vVar 1)] itAny (gN 3) (vSeq (vIfS (vAnd (vCmpT [Opd.sl 2, Opd.ex (vPure [Opd.sl 0] (bfD bfLen))] (bfD bfLt)) (vCmpT [Opd.ex (vPure [Opd.sl 0, Opd.sl 2] (bfD bfIx)), Opd.sl 3] bfEq)) (vSeq (vAsg 2 (vPure [Opd.sl 2, Opd.ex (vC (D.int 1))] (bfD bfAdd))) vNext) vNext) vNext)) (vSeq (vRet (vPure [Opd.sl 2, Opd.ex (vPure [Opd.sl 0] (bfD bfLen))] bfEq)) vNext)))
theorem k_loccurs : Keeps 4 2 [2, 3] T__law_occurs C__law_occurs := by
  refine .of (fun E os Q Z ⟨ds, R, e, ⟨rd, row, ld, xs, e1, hr, hl, e2⟩, hQ⟩ rt nx ex => ?_) rfl
  subst e e1 e2
  simp [T__law_occurs, startC, hr.nb, hl.nb, hl.it]
  refine forc (by walk_at "mono") (by walk_at "mono") (fun ds c => ∃ (suf : List Str) (a : Nat) (x3 : O), ds = suf.map .str ∧ c = [.fz rd, .fz ld, .fz (.int (a : Nat)), x3] ∧ a ≤ row.length ∧ occG (row.drop a) suf = occG row xs) ⟨xs, 0, .bad, rfl, rfl, by simp, by simp⟩ ?_ ?_
  · rintro K d' ds c hK ⟨suf, a, x3, hd, rfl, ha, he⟩
    cases suf with
    | nil => cases hd
    | cons x suf =>
      cases hd
      simp [keepOps, hr.nb, hr.len]
      by_cases h : a < row.length
      · simp [h, hr.ix h, hr.nb]
        rw [List.drop_eq_getElem_cons h, occG] at he
        refine brS_of (fun q => ?_) (fun q => ?_)
        · simp at q
          rw [if_pos q] at he
          simp
          show K _
          refine hK _ ⟨suf, a + 1, .fz (.str x), rfl, by simp, by omega, he⟩
        · simp at q
          rw [if_neg q, ← List.drop_eq_getElem_cons h] at he
          simp
          exact hK _ ⟨suf, a, _, rfl, rfl, ha, he⟩
      · simp [h]
        have e0 : row.drop a = [] := List.drop_eq_nil_iff.mpr (by omega)
        rw [e0] at he
        exact hK _ ⟨suf, a, _, rfl, rfl, ha, by rw [e0, ← he]; cases suf <;> rfl⟩
  · rintro c ⟨suf, a, x3, hd, rfl, ha, he⟩
    have : suf = [] := by cases suf with
      | nil => rfl
      | cons _ _ => cases hd
    subst this
    simp [keepOps, hr.nb, hr.len]
    refine rt _ _ (hQ _ ?_)
    rw [← he]
    by_cases h : a < row.length
    · rw [List.drop_eq_getElem_cons h, occG]
      have : ¬ ((a : Int) = (row.length : Int)) := by omega
      simp
      omega
    · rw [List.drop_eq_nil_iff.mpr (by omega), occG]
      simp
      omega
/-! ends, by what has been seen -/
def F__law_ends (ds : List D) (R : O → Prop) : Prop := ∃ d xs dn ns, ds = [d, dn] ∧ Seq d xs ∧ Seq dn ns ∧ (∀ x ∈ xs, PyData.strOk x = true) ∧ (∀ x ∈ ns, PyData.strOk x = true) ∧ ns.Nodup ∧ ns ≠ [] ∧ xs.length ≤ 1000000 ∧ R = fun o => o = .own .lst ((endsL ns xs).map fun n : Nat => .fz (.int (n : Int)))
abbrev C__law_ends := CPu F__law_ends
def T__law_ends : DS := (vSeq (vPar [2, 3] [Opd.ex (vLst []), Opd.ex vNewD]) (vSeq (vFor [Opd.ex (vVar 0)] itEnum (gT 2 (gsCons (gN 4) (gsCons (gN 5) gsNil))) (vSeq (vIfS (vCmpT [Opd.sl 5, Opd.sl 1] (bfD (bfIn fun a => a))) (vSeq (vAsgT (gSubD 3 (Opd.sl 5)) (vC (D.bl true))) vNext) vNext) (vSeq (vIfS (vCmpT [Opd.ex (vPure [Opd.sl 3] (bfD bfLen)), Opd.ex (vPure [Opd.sl 1] (bfD bfLen))] bfEq) (vSeq (vDrop (vMth (methOf (("append" : Str))) (Opd.sl 2) [Opd.ex (vFz (vPure [Opd.sl 4, Opd.ex (vC (D.int 1))] (bfD bfAdd)))])) (vSeq (vAsg 3 vNewD) vNext)) vNext) vNext))) (vSeq (vRet (vMv 2)) vNext)))
/-- the ways meet again -/
theorem brS_cut {b : Bool} {t u : DS} {Z : En} {c : Cf} (I : Cf → Prop) (mt : MonoS t) (mu : MonoS u) (h1 : ∀ J : Cf → Prop, (∀ c, I c → J c) → b = true → t { Z with nx := J } c) (h2 : ∀ J : Cf → Prop, (∀ c, I c → J c) → b = false → u { Z with nx := J } c) (h : ∀ c, I c → Z.nx c) : brS b t u Z c := by
  cases b with
  | true => exact mt { Z with nx := I } Z c h (fun _ _ z => z) (fun _ z => z) (fun _ z => z) (fun _ _ _ z => z) (h1 I (fun _ z => z) rfl)
  | false => exact mu { Z with nx := I } Z c h (fun _ _ z => z) (fun _ z => z) (fun _ z => z) (fun _ _ _ z => z) (h2 I (fun _ z => z) rfl)
theorem newD_K {E : XP} {c : Cf} {Q : DK} (h : Q (.own (.dK []) []) c) : vNewD E c Q := .inl h
theorem newD_T {E : XP} {c : Cf} {Q : DK} (h : Q (.own (.dT []) []) c) : vNewD E c Q := .inr h
def seenO (s : List Str) : O := .own (.dK (s.map .inr)) (s.map fun _ => .fz (.bl true))
theorem k_lends : Keeps 6 2 [2, 3, 4, 5] T__law_ends C__law_ends := by
  refine .of (fun E os Q Z ⟨ds, R, e, ⟨d, xs, dn, ns, e1, hs, hsn, hx, hn, hd, h0, hl, e2⟩, hQ⟩ rt nx ex => ?_) rfl
  subst e e1 e2
  simp [T__law_ends, startC, hs.nb, hsn.nb, hs.enum]
  refine newD_K ?_
  simp [startC, hs.nb, hsn.nb, hs.enum]
  refine forn (by walk_at "mono") (by walk_at "mono") (fun i c => ∃ (pre : List Nat) (seen : List Str) (x4 x5 : O), c = [.fz d, .fz dn, .own .lst (pre.map fun n : Nat => .fz (.int (n : Int))), seenO seen, x4, x5] ∧ seen.length ≤ i ∧ pre.length ≤ i ∧ endsL ns xs = pre ++ endsS ns i seen (xs.drop i)) ⟨[], [], .bad, .bad, rfl, by simp, by simp, by simp [endsS_L hd h0]⟩ ?_ ?_
  · rintro K i it c hK hi ⟨pre, seen, x4, x5, rfl, hsl, hp, he⟩
    obtain ⟨e, h1, h2⟩ := enumD_at hi
    obtain ⟨x, hxx, rfl⟩ := List.mem_map.mp (List.mem_of_getElem? h1)
    rw [List.getElem?_map] at h1
    obtain ⟨x', h3, h4⟩ := Option.map_eq_some_iff.mp h1
    cases h4
    subst h2
    obtain ⟨q1, q2⟩ := List.getElem?_eq_some_iff.mp h3
    rw [List.drop_eq_getElem_cons q1, q2, endsS] at he
    simp [keepOps, hsn.nb, hsn.in (f := fun a => a) (hx x hxx) hn]
    obtain ⟨s', hs'⟩ : ∃ s', s' = if x ∈ ns then (if x ∈ seen then seen else seen ++ [x]) else seen := ⟨_, rfl⟩
    rw [← hs'] at he
    have hsl' : s'.length ≤ i + 1 := by
      rw [hs']
      split
      · split
        · omega
        · simp; omega
      · omega
    refine brS_cut (fun c => c = [.fz d, .fz dn, .own .lst (pre.map fun n : Nat => .fz (.int (n : Int))), seenO s', .fz (.int (i : Nat)), .fz (.str x)]) (by walk_at "mono") (by walk_at "mono") (fun J hJ h => ?_) (fun J hJ h => ?_) ?_
    · simp at h
      rw [if_pos h] at hs'
      have nbs : isBad (seenO seen) = false := rfl
      simp [seenO]
      have lt : seen.length < 16777216 := by omega
      simp [lt, hasK_map]
      refine hJ _ ?_
      rw [hs']
      split
      · rename_i hx
        simp only [hx, if_true, decide_true, seenO]
        rw [show D.bl true = (O.fz (.bl true)).view from rfl, ]
        rw [setKs_const]
      · rename_i hx
        simp only [hx, decide_false, if_false, Bool.false_eq_true, seenO]
        simp
    · simp at h
      rw [if_neg h] at hs'
      subst hs'
      exact hJ _ rfl
    · rintro c rfl
      simp [seenO, hsn.nb, hsn.len]
      refine brS_of (fun h => ?_) (fun h => ?_)
      · simp at h
        rw [if_pos (by omega)] at he
        simp [append_of (show (pre.map fun n : Nat => O.fz (D.int n)).length < sizeLine by simp; omega)]
        refine newD_K ?_
        simp
        show K _
        refine hK _ ⟨pre ++ [i + 1], [], .fz (.int (i : Nat)), .fz (.str x), by simp [seenO], by simp, by simp; omega, by rw [he]; simp⟩
      · simp at h
        rw [if_neg (by omega)] at he
        simp
        exact hK _ ⟨pre, s', _, _, rfl, hsl', by omega, he⟩
  · rintro c ⟨pre, seen, x4, x5, rfl, hsl, hp, he⟩
    have : (enumD 0 (xs.map D.str)).length = xs.length := by simp [enumD_len]
    rw [this, List.drop_length, endsS, List.append_nil] at he
    simp [keepOps]
    exact rt _ _ (hQ _ (by rw [he]))
/-! all rows of so many names -/
def tupS (r : List Str) : D := .nd .tup (r.map .str)
theorem sort_strs {ns : List Str} (h : ns ≠ []) : bfSort [.nd .lst (ns.map .str)] = some (.own .lst ((srtL leS ns).map fun x => .fz (.str x))) := by
  have e1 : lstOf (.nd .lst (ns.map .str)) = some (ns.map .str) := rfl
  have e2 : intsD (ns.map D.str) = none := by cases ns with
    | nil => exact absurd rfl h
    | cons x l => rfl
  simp [bfSort, e1, e2, strsD_map, Function.comp_def]
theorem sh_rows {l : List (List Str)} : (O.own .lst (l.map fun r => .fz (tupS r))).sh = .nd .lst (l.map tupS) := by rw [sh_own, List.map_map]; rfl
@[simp] theorem cat_tup {a b : List D} : bfAdd [.nd .tup a, .nd .tup b] = if a.length + b.length ≤ 16777216 then some (.fz (.nd .tup (a ++ b))) else none := rfl
def F__law_every (ds : List D) (R : O → Prop) : Prop := ∃ (ns : List Str) (k : Nat), ds = [.nd .lst (ns.map .str), .int (k : Nat)] ∧ ns ≠ [] ∧ k ≤ 1000 ∧ ns.length ^ k ≤ 1000000 ∧ R = fun o => isBad o = false ∧ o.view = .nd .lst ((everyL (srtL leS ns) k).map tupS)
abbrev C__law_every := CPu F__law_every
def T__law_every : DS := (vSeq (vAsg 2 (vLst [Opd.ex (vFz (vTup []))])) (vSeq (vFor [Opd.sl 1] itRng1 (gN 3) (vSeq (vAsg 4 (vLst [])) (vSeq (vFor [Opd.ex (vVar 2)] itAny (gN 5) (vSeq (vAsg 4 (vPure [Opd.sl 4, Opd.ex (vLc [6] [Opd.ex (vFz (vPure [Opd.sl 0] (bfD bfSort)))] itAny (gN 6) vYes (vFz (vPure [Opd.sl 5, Opd.ex (vTup [Opd.ex (vVar 6)])] (bfD bfAdd))))] (bfD bfAdd))) vNext)) (vSeq (vAsg 2 (vVar 4)) vNext)))) (vSeq (vRet (vMv 2)) vNext)))
theorem k_every : Keeps 7 2 [2, 3, 4, 5] T__law_every C__law_every := by
  refine .of (fun E os Q Z ⟨ds, R, e, ⟨ns, k, e1, h0, hk, hp, e2⟩, hQ⟩ rt nx ex => ?_) rfl
  subst e e1 e2
  have hlen : (srtL leS ns).length = ns.length := (srtL_perm leS ns).length_eq
  have hpos : 0 < ns.length := List.length_pos_iff.mpr h0
  have hbound : ∀ j, j ≤ k → ns.length ^ j ≤ 1000000 := fun j hj => Nat.le_trans (Nat.pow_le_pow_right hpos hj) hp
  simp [T__law_every, startC, mkT, rng1n (show k < 4611686018427387904 by omega)]
  refine forn (by walk_at "mono") (by walk_at "mono") (fun i c => ∃ (o x3 x4 x5 : O), c = [.fz (.nd .lst (ns.map .str)), .fz (.int (k : Nat)), o, x3, x4, x5, .bad] ∧ isBad o = false ∧ o.view = .nd .lst ((everyL (srtL leS ns) i).map tupS)) ⟨_, .bad, .bad, .bad, rfl, rfl, rfl⟩ ?_ ?_
  · rintro K i it c hK hi ⟨o, x3, x4, x5, rfl, hb, hv⟩
    have hik : i < k := by
      have := (List.getElem?_eq_some_iff.mp hi).1
      simpa [rngD] using this
    simp [keepOps, hb, hv]
    obtain ⟨L, hL⟩ : ∃ L, L = everyL (srtL leS ns) i := ⟨_, rfl⟩
    have hLl : L.length = ns.length ^ i := by rw [hL, everyL_len, hlen]
    have hLm : ∀ r ∈ L, r.length = i := fun r hr => by rw [hL] at hr; exact (mem_everyL.mp hr).1
    have hb1 := hbound (i + 1) (by omega)
    rw [Nat.pow_succ] at hb1
    rw [← hL]
    have flen : ∀ l : List (List Str), (l.flatMap fun r => (srtL leS ns).map fun y => r ++ [y]).length = l.length * ns.length := fun l => by
      rw [List.length_flatMap]
      simp [hlen, List.map_const', List.sum_replicate_nat]
    refine forc (by walk_at "mono") (by walk_at "mono") (fun ds c => ∃ (pre suf : List (List Str)) (x5 : O), L = pre ++ suf ∧ ds = suf.map tupS ∧ c = [.fz (.nd .lst (ns.map .str)), .fz (.int (k : Nat)), .fz (.nd .lst (L.map tupS)), .fz it, .own .lst ((pre.flatMap fun r => (srtL leS ns).map fun y => r ++ [y]).map fun r => .fz (tupS r)), x5, .bad]) ⟨[], _, _, rfl, rfl, rfl⟩ ?_ ?_
    · rintro K2 d' ds c hK2 ⟨pre, suf, x5, hps, hd, rfl⟩
      cases suf with
      | nil => cases hd
      | cons r suf =>
        cases hd
        have hr : r ∈ L := by rw [hps]; simp
        have hrl := hLm r hr
        simp [keepOps, sort_strs h0]
        refine lc_map (by walk_at "mono") (by walk_at "mono") (fun d => .fz (match d with | .str y => tupS (r ++ [y]) | _ => .bad)) (by simp [keepOps]) (by simp [hlen]; have : 0 < L.length := List.length_pos_of_mem hr; rw [hLl] at this; have := Nat.le_mul_of_pos_left ns.length this; omega) ?_ ?_
        · intro d' hd'
          obtain ⟨y, hy, rfl⟩ := List.mem_map.mp hd'
          simp [tupS, mkT]
          rw [if_pos (by omega)]
          simp
        · have e3 : (List.map (fun d => O.fz (match d with | .str y => tupS (r ++ [y]) | _ => .bad)) ((srtL leS ns).map D.str)) = ((srtL leS ns).map fun y => r ++ [y]).map fun r => .fz (tupS r) := by
            rw [List.map_map, List.map_map]
            rfl
          have hle : (pre.length + 1) * ns.length ≤ 1000000 := by
            refine Nat.le_trans (Nat.mul_le_mul_right _ ?_) (hLl ▸ hb1)
            rw [hps]; simp
          rw [e3]
          have l1 := flen pre
          have l2 : ((srtL leS ns).map fun y => r ++ [y]).length = ns.length := by simp [hlen]
          have hsz : (pre.flatMap fun r => (srtL leS ns).map fun y => r ++ [y]).length + ((srtL leS ns).map fun y => r ++ [y]).length ≤ 16777216 := by
            rw [l1, l2]
            rw [Nat.add_mul] at hle
            omega
          have cat : bfAdd [(O.own .lst ((pre.flatMap fun r => (srtL leS ns).map fun y => r ++ [y]).map fun r => .fz (tupS r))).sh, (O.own .lst (((srtL leS ns).map fun y => r ++ [y]).map fun r => .fz (tupS r))).sh] = some (.own .lst (((pre ++ [r]).flatMap fun r => (srtL leS ns).map fun y => r ++ [y]).map fun r => .fz (tupS r))) := by
            rw [sh_rows, sh_rows, cat_lst, if_pos (by rw [List.length_map, List.length_map]; exact hsz)]
            simp [List.flatMap_append, Function.comp_def]
          change ob (bfAdd [O.sh _, O.sh _]) (fun o => K2 [_, _, _, _, o, _, _])
          rw [cat]
          exact hK2 _ ⟨pre ++ [r], suf, .fz (tupS r), by rw [hps]; simp, rfl, rfl⟩
    · rintro c ⟨pre, suf, x5, hps, hd, rfl⟩
      have : suf = [] := by cases suf with
        | nil => rfl
        | cons _ _ => cases hd
      subst this
      rw [List.append_nil] at hps
      subst hps
      refine ⟨by simp [keepOps], ?_⟩
      show vSeq (vAsg 2 (vVar 4)) vNext _ _
      rw [s_seq, s_asg, s_var]
      refine ob_iff.mpr ⟨_, rfl, rfl, ?_⟩
      refine hK _ ⟨_, _, _, _, rfl, rfl, ?_⟩
      rw [everyL, ← hL, view_fz, view_own, O.views_eq, List.map_map]
      rfl
  · rintro c ⟨o, x3, x4, x5, rfl, hb, hv⟩
    rw [show (rngD 0 k 1).length = k by simp [rngD]] at hv
    simp [keepOps, hb]
    cases o with
    | fz d =>
      simp
      exact rt _ _ (hQ _ ⟨hb, hv⟩)
    | own t os =>
      simp
      exact rt _ _ (hQ _ ⟨hb, hv⟩)
/-! whether all rows of so many names occur -/
def F__law_is_full (ds : List D) (R : O → Prop) : Prop := ∃ (ns xs : List Str) (k : Nat), ds = [.nd .lst (xs.map .str), .nd .lst (ns.map .str), .int (k : Nat)] ∧ ns ≠ [] ∧ (∀ x ∈ ns, PyData.strOk x = true) ∧ k ≤ 1000 ∧ ns.length ^ k ≤ 1000000 ∧ R = fun o => o = .fz (.bl (fullL ns xs k))
abbrev C__law_is_full := CPu F__law_is_full
def T__law_is_full : DS := (vSeq (vRet (vPure [Opd.ex (vLc [3] [Opd.ex (vFz (vCall C__law_every [] [Opd.ex (vVar 1), Opd.ex (vVar 2)]))] itAny (gN 3) (vNot (vTru (Opd.ex (vCall C__law_occurs [] [Opd.ex (vVar 3), Opd.ex (vVar 0)])))) (vVar 3)), Opd.ex (vLst [])] bfEq)) vNext)
theorem eq_lst0 {l : List D} (h : goods l = true) (hd : (pd (.nd .lst l)).depth ≤ 64) : bfEq [.own .lst (l.map .fz), .own .lst []] = some (.fz (.bl (decide (l = [])))) := by
  have e1 : (O.own .lst (l.map .fz)).view = .nd .lst l := by simp
  have e2 := shP_good (d := .nd .lst l) h hd
  have e3 : shPD (.nd .lst []) = some (.list []) := rfl
  rw [eq_own]
  simp only [bfEqN, e1, view_own, views_nil, e2, e3, pd, pds]
  cases l with
  | nil => rfl
  | cons a l => rfl
def unS : D → List Str
  | .nd _ ds => ds.filterMap fun d => match d with
    | .str x => some x
    | _ => none
  | _ => []
theorem unS_tup {r : List Str} : unS (tupS r) = r := by
  show (r.map D.str).filterMap _ = r
  rw [List.filterMap_map]
  exact List.filterMap_some
theorem fullL_perm {ns ms xs : List Str} {k : Nat} (p : ns.Perm ms) : fullL ns xs k = fullL ms xs k := by
  have key : ∀ {ns ms : List Str}, ns.Perm ms → fullL ns xs k = true → fullL ms xs k = true := by
    intro ns ms p h
    unfold fullL at h ⊢
    rw [List.all_eq_true] at h ⊢
    intro r hr
    refine h r (mem_everyL.mpr ?_)
    have := mem_everyL.mp hr
    exact ⟨this.1, fun y hy => p.mem_iff.mpr (this.2 y hy)⟩
  rw [Bool.eq_iff_iff]
  exact ⟨key p, key p.symm⟩
theorem pd_depth_tup {r : List Str} : (pd (tupS r)).depth ≤ 1 := by
  simp [tupS, pd, PyData.depth, pds_strs, depth_strs]
theorem depth_rows {l : List D} {n : Nat} (h : ∀ d ∈ l, (pd d).depth ≤ n) : PyData.depthAll (pds l) ≤ n := by
  induction l with
  | nil => simp [pds, PyData.depthAll]
  | cons d l ih =>
    have h1 := h d (by simp)
    have h2 := ih fun d hd => h d (by simp [hd])
    simp only [pds, PyData.depthAll]
    omega
theorem good_tup {r : List Str} (h : ∀ x ∈ r, PyData.strOk x = true) : good (tupS r) = true := by
  show goods _ = true
  rw [goods_iff]
  intro d hd
  obtain ⟨x, hx, rfl⟩ := List.mem_map.mp hd
  exact h x hx
theorem k_is_full : Keeps 4 3 [] T__law_is_full C__law_is_full := by
  refine .of (fun E os Q Z ⟨ds, R, e, ⟨ns, xs, k, e1, h0, hn, hk, hp, e2⟩, hQ⟩ rt nx ex => ?_) rfl
  subst e e1 e2
  simp [T__law_is_full, startC]
  refine pure_of (ds := [.nd .lst (ns.map .str), .int (k : Nat)]) rfl ⟨ns, k, rfl, h0, hk, hp, rfl⟩ fun r hr => ?_
  obtain ⟨hb, hv⟩ := hr
  obtain ⟨L, hL⟩ : ∃ L, L = everyL (srtL leS ns) k := ⟨_, rfl⟩
  have hlen : (srtL leS ns).length = ns.length := (srtL_perm leS ns).length_eq
  have hLl : L.length = ns.length ^ k := by rw [hL, everyL_len, hlen]
  have hLm : ∀ r ∈ L, ∀ y ∈ r, PyData.strOk y = true := fun r hr y hy => by rw [hL] at hr; exact hn y ((srtL_perm leS ns).mem_iff.mp ((mem_everyL.mp hr).2 y hy))
  rw [← hL] at hv
  simp [hv]
  refine lc_filter (by walk_at "mono") (by walk_at "mono") (by walk_at "mono") (fun d => !occG (unS d) xs) .fz (by simp [keepOps]) (by rw [List.length_map]; omega) ?_ ?_
  · intro d hd
    obtain ⟨r, hr, rfl⟩ := List.mem_map.mp hd
    simp [tupS]
    refine pure_of (ds := [tupS r, .nd .lst (xs.map .str)]) rfl ⟨_, r, _, xs, rfl, .tup, .lst, rfl⟩ fun o ho => ?_
    subst ho
    have := unS_tup (r := r)
    rw [tupS] at this
    simp [this]
  · have hsub : ∀ d ∈ (L.map tupS).filter (fun d => !occG (unS d) xs), ∃ r ∈ L, d = tupS r := fun d hd => by
      obtain ⟨r, hr, e⟩ := List.mem_map.mp (List.mem_filter.mp hd).1
      exact ⟨r, hr, e.symm⟩
    have e3 := eq_lst0 (l := (L.map tupS).filter fun d => !occG (unS d) xs) (by
      rw [goods_iff]
      intro d hd
      obtain ⟨r, hr, rfl⟩ := hsub d hd
      exact good_tup (hLm r hr)) (by
      have := depth_rows (n := 1) (l := (L.map tupS).filter fun d => !occG (unS d) xs) fun d hd => by
        obtain ⟨r, hr, rfl⟩ := hsub d hd
        exact pd_depth_tup
      simp only [pd, PyData.depth]
      omega)
    have e4 : decide ((L.map tupS).filter (fun d => !occG (unS d) xs) = []) = fullL ns xs k := by
      rw [← fullL_perm (srtL_perm leS ns), fullL, ← hL, Bool.eq_iff_iff, decide_eq_true_iff, List.filter_eq_nil_iff, List.all_eq_true]
      constructor
      · intro h r hr
        have := h (tupS r) (List.mem_map.mpr ⟨r, hr, rfl⟩)
        rw [unS_tup] at this
        simp at this
        simpa using occG_iff.mp this
      · intro h d hd
        obtain ⟨r, hr, rfl⟩ := List.mem_map.mp hd
        rw [unS_tup]
        simp
        exact occG_iff.mpr (by simpa using h r hr)
    rw [e4] at e3
    refine ⟨Nat.zero_le _, ob_iff.mpr ⟨_, rfl, ?_⟩⟩
    rw [e3]
    exact rt _ _ (hQ _ rfl)
theorem rep_of {a : List D} {k : Nat} (h : a.length * k ≤ 16777216) (hk : k ≤ 1000000) : bfMul [.nd .lst a, .int (k : Nat)] = some (.own .lst ((List.replicate k a).flatten.map .fz)) := by
  have : bfRep [.nd .lst a, .int (k : Nat)] = some (.own .lst ((List.replicate k a).flatten.map .fz)) := by
    have c : smallB 9223372036854775807 (k : Int) = true ∧ a.length * ((k : Int)).toNat ≤ sizeLine := ⟨by rw [smallB_iff]; omega, by simpa using h⟩
    show (if _ then _ else none) = _
    rw [if_pos c, Int.toNat_natCast]
  unfold bfMul orB
  rw [this]
  rfl
theorem rep_strs {a : List Str} {k : Nat} (h : a.length * k ≤ 16777216) (hk : k ≤ 1000000) : bfMul [.nd .lst (a.map .str), .int (k : Nat)] = some (.own .lst ((List.replicate k a).flatten.map fun y => .fz (.str y))) := by
  rw [rep_of (by simpa using h) hk]
  congr 2
  rw [List.map_flatten, List.map_flatten]
  simp [List.map_replicate, Function.comp_def]
theorem flat_len {a : List Str} {k : Nat} : (List.replicate k a).flatten.length = a.length * k := by
  rw [List.length_flatten, List.map_replicate, List.sum_replicate_nat, Nat.mul_comm]
theorem flat_mem {a : List Str} {k : Nat} {y : Str} (h : y ∈ (List.replicate k a).flatten) : y ∈ a := by
  obtain ⟨l, h1, h2⟩ := List.mem_flatten.mp h
  rw [(List.mem_replicate.mp h1).2] at h2
  exact h2
theorem cut_200 {ds : List D} : cutD ds none (some 200) = ds.take 200 := cut_to (k := 200)
def F__law_long24 (ds : List D) (b : Nat) (R : O → Prop) : Prop := ∃ xs : List Str, ds = [.nd .lst (xs.map .str)] ∧ xs ≠ [] ∧ (∀ x ∈ xs, PyData.strOk x = true) ∧ xs.length < 1000000 ∧ b = 200 ∧ R = fun o => ∃ ys : List Str, o = .own .lst (ys.map fun y => .fz (.str y)) ∧ ys.length ≤ 200 ∧ ∀ y ∈ ys, y ∈ xs
abbrev C__law_long24 := CDr F__law_long24
def T__law_long24 : DS := (vSeq (vAsg 2 (vCall C__law_log [] [Opd.sl 0, Opd.ex (vVar 1), Opd.ex (vFz (vCall C__law_pick [] [Opd.sl 0, Opd.ex (vFz (vLst [Opd.ex (vC (D.int 5)), Opd.ex (vC (D.int 9)), Opd.ex (vC (D.int 30))]))]))])) (vSeq (vAsg 3 (vIf (vCmpT [Opd.sl 2, Opd.ex (vLst [])] bfEq) (vC (D.int 1)) (vPure [Opd.ex (vC (D.int 1)), Opd.ex (vCall C__law_take [] [Opd.sl 0, Opd.ex (vFz (vPure [Opd.ex (vC (D.int 200)), Opd.ex (vPure [Opd.sl 2] (bfD bfLen))] (bfD (bfII divC fun i j => D.int (i.fdiv j)))))])] (bfD bfAdd)))) (vSeq (vRet (vSl (Opd.ex (vPure [Opd.ex (vPure [Opd.sl 2, Opd.sl 3] (bfD bfMul)), Opd.ex (vCall C__law_log [] [Opd.sl 0, Opd.ex (vVar 1), Opd.ex (vC (D.int 9))])] (bfD bfAdd))) none (some (Opd.ex (vC (D.int 200)))))) vNext)))
theorem k_long24 : Keeps 4 2 [2, 3] T__law_long24 C__law_long24 := by
  refine .of (fun E os Q Z ⟨s, ds, n, b, R, e, ⟨xs, e1, h0, h1, h2, e2, e3⟩, hk, hQ⟩ rt nx ex => ?_) rfl
  subst e e1 e2 e3
  refine seqc (fun c => ∃ (s : Dr) (ys : List Str), c = [s.O, .fz (.nd .lst (xs.map .str)), .own .lst (ys.map fun y => .fz (.str y)), .bad] ∧ s.K (n + 100) ∧ ys.length ≤ 30 ∧ ∀ y ∈ ys, y ∈ xs) (by walk_at "mono") (fun J hJ => ?_) ?_
  · simp [T__law_long24, startC]
    refine pick_ints (xs := [5, 9, 30]) (n := n + 199) hk (by simp) (by simp) fun s' m k' hm => ?_
    simp
    obtain ⟨j, rfl, hj⟩ : ∃ j : Nat, m = j ∧ j ≤ 30 := by
      simp at hm
      rcases hm with rfl | rfl | rfl
      · exact ⟨5, rfl, by omega⟩
      · exact ⟨9, rfl, by omega⟩
      · exact ⟨30, rfl, by omega⟩
    refine log_of (n := n + 100) (k'.le (by omega)) (.inl h0) h1 h2 (by omega) fun s2 ys k2 hy1 hy2 => ?_
    simp
    exact hJ _ ⟨s2, ys, rfl, k2, by omega, hy2⟩
  rintro c ⟨s, ys, rfl, hk, hyl, hy⟩
  have hyk : ∀ y ∈ ys, PyData.strOk y = true := fun y q => h1 y (hy y q)
  refine seqc (fun c => ∃ (s : Dr) (t : Nat), c = [s.O, .fz (.nd .lst (xs.map .str)), .own .lst (ys.map fun y => .fz (.str y)), .fz (.int (t : Nat))] ∧ s.K (n + 50) ∧ t ≤ 200) (by walk_at "mono") (fun J hJ => ?_) ?_
  · simp [eq_strs0 hyk]
    refine brE_of (fun h => ?_) (fun h => ?_)
    · simp
      exact hJ _ ⟨s, 1, rfl, hk.le (by omega), by omega⟩
    · simp at h
      have hp := List.length_pos_iff.mpr h
      have e0 : ((ys.length : Nat) : Int) ≠ 0 := by omega
      have e1 : ((ys.length : Nat) : Int).natAbs < 1073741824 := by omega
      obtain ⟨z, hz, hz2⟩ : ∃ z : Nat, (200 : Int).fdiv (ys.length : Nat) = z ∧ 0 < z ∧ z ≤ 200 := by
        refine ⟨200 / ys.length, by rw [Int.fdiv_eq_ediv_of_nonneg _ (by omega)]; rfl, Nat.div_pos (by omega) hp, Nat.div_le_self _ _⟩
      have hdiv : bfII divC (fun i j => D.int (i.fdiv j)) [.int 200, .int (ys.length : Nat)] = some (.fz (.int z)) := by rw [div_of e0 e1, hz]
      simp [hdiv]
      refine take_of (n := n + 99) hk (by omega) (by omega) fun s' r k' r1 r2 => ?_
      obtain ⟨i, rfl⟩ : ∃ i : Nat, r = i := ⟨r.toNat, by omega⟩
      simp
      refine hJ _ ⟨s', 1 + i, by simp, k'.le (by omega), by omega⟩
  rintro c ⟨s, t, rfl, hk, ht⟩
  have hm : ys.length * t ≤ 6000 := Nat.mul_le_mul hyl ht
  obtain ⟨W, hW⟩ : ∃ W, W = (List.replicate t ys).flatten := ⟨_, rfl⟩
  have hWl : W.length ≤ 6000 := by rw [hW, flat_len]; exact hm
  have hWm : ∀ y ∈ W, y ∈ xs := fun y q => hy y (flat_mem (by rw [← hW]; exact q))
  have hr := rep_strs (a := ys) (k := t) (by omega) (by omega)
  rw [← hW] at hr
  simp [hr]
  refine log_of (m := 9) (n := n) (hk.le (by omega)) (.inl h0) h1 h2 (by omega) fun s2 zs k2 hz1 hz2 => ?_
  have hc : ¬ 16777216 < W.length + zs.length := by omega
  have e9 : (O.fz ∘ fun y => D.str y) = fun y => O.fz (.str y) := rfl
  simp [show W.length + zs.length ≤ 16777216 by omega, cut_200]
  refine rt _ _ (hQ s2 _ k2 ⟨(W ++ zs).take 200, ?_, by simp; omega, fun y q => ?_⟩)
  · simp [List.map_take, Function.comp_def]
  · rcases List.mem_append.mp (List.mem_of_mem_take q) with z | z
    · exact hWm y z
    · exact hz2 y z
end VS
namespace VS
section
variable {α : Type} [DecidableEq α]
/-! ## events that can be dropped (plain) -/
theorem strip_sub17 : ∀ {es row : List α}, strip es row = [] ↔ row.Sublist es
  | [], row => by
    cases row with
    | nil => simp [strip]
    | cons x r => simp [strip]
  | e :: es, row => by
    cases row with
    | nil => simp [strip_nil]
    | cons x r =>
      rw [strip]
      split
      · rename_i h
        subst h
        rw [strip_sub17, List.cons_sublist_cons]
      · rename_i h
        rw [strip_sub17]
        exact ⟨fun q => q.trans (List.sublist_cons_self _ _), fun q => by
          cases q with
          | cons _ q => exact q
          | cons_cons _ q => exact absurd rfl h⟩
/-- the first place behind which a row has occurred -/
theorem ei_iff {xs row : List α} {m : Nat} : row.Sublist (xs.take m) ↔ ∃ q, ei xs 0 row = some q ∧ q ≤ m := by
  rw [← strip_sub17]
  have := ei_strip (xs := xs) (row := row) (p := 0)
  cases e : ei xs 0 row with
  | none =>
    have h := this.2 e m
    simp at h ⊢
    exact h
  | some q =>
    have h := this.1 q e m
    simp at h ⊢
    exact h
theorem ei_snoc {xs : List α} {x : α} : ∀ {row : List α} {p q : Nat}, ei xs p row = some q → ei xs p (row ++ [x]) = (pb xs x q).map (· + 1)
  | [], p, q, h => by
    simp [ei] at h
    subst h
    simp [ei]
    cases pb xs x p <;> rfl
  | y :: row, p, q, h => by
    simp only [ei, List.cons_append] at h ⊢
    cases e : pb xs y p with
    | none => rw [e] at h; cases h
    | some j =>
      rw [e] at h
      exact ei_snoc h
/-- a row's last jump leads to at most its depth -/
theorem nd_ei {l : List α} : ∀ {u : List α} {p q : Nat}, ei l p u = some q → nd (depths l) q ≤ nd (depths l) p + u.length
  | [], p, q, h => by simp [ei] at h; subst h; simp
  | x :: u, p, q, h => by
    simp only [ei] at h
    obtain ⟨j, h1, h2⟩ := Option.bind_eq_some_iff.mp h
    unfold pb at h1
    split at h1
    · rename_i hx
      cases h1
      obtain ⟨f1, f2, f3⟩ := first_jump hx
      have := jump_le (by omega) f2 f3
      have := nd_ei h2
      simp
      omega
    · cases h1
/-- a coming depth: u leads to where y is next, behind p -/
def Cm (l : List α) (p : Nat) (y : α) (u : List α) : Prop := u.Sublist (l.take p) ∧ ¬ (u ++ [y]).Sublist (l.take p)
theorem cm_jump {l u : List α} {p : Nat} {y : α} (h : Cm l p y u) : ∃ q, q ≤ p ∧ ei l 0 u = some q ∧ y ∉ (l.take p).drop q := by
  obtain ⟨q, h1, h2⟩ := ei_iff.mp h.1
  refine ⟨q, h2, h1, fun hm => h.2 ?_⟩
  have h3 : u.Sublist (l.take q) := ei_iff.mpr ⟨q, h1, Nat.le_refl _⟩
  have e : l.take p = l.take q ++ (l.take p).drop q := by
    have : (l.take p).take q = l.take q := by rw [List.take_take, Nat.min_eq_left h2]
    rw [← this, List.take_append_drop]
  rw [e]
  exact h3.append (List.singleton_sublist.mpr hm)
theorem cm_of {l u : List α} {p q : Nat} {y : α} (hq : q ≤ p) (h : ei l 0 u = some q) (hn : y ∉ (l.take p).drop q) : Cm l p y u := by
  refine ⟨ei_iff.mpr ⟨q, h, hq⟩, fun hs => ?_⟩
  obtain ⟨q2, h2, h3⟩ := ei_iff.mp hs
  rw [ei_snoc h] at h2
  obtain ⟨j, h4, h5⟩ := Option.map_eq_some_iff.mp h2
  unfold pb at h4
  split at h4
  · rename_i hx
    obtain ⟨f1, f2, f3⟩ := first_jump hx
    cases h4
    refine hn ?_
    have : (l.take p)[q + (l.drop q).idxOf y]? = some y := by rw [List.getElem?_take_of_lt (by omega)]; exact f2
    have h6 := List.mem_of_getElem? (l := (l.take p).drop q) (i := (l.drop q).idxOf y) (a := y) (by rw [List.getElem?_drop]; exact this)
    exact h6
  · cases h4
/-- the depth of event a is what leads there -/
theorem dp_le {l u : List α} {a : Nat} {x : α} (hx : l[a]? = some x) (h : Cm l a x u) : nd (depths l) (a + 1) ≤ u.length + 1 := by
  obtain ⟨q, h1, h2, h3⟩ := cm_jump h
  have := jump_le h1 hx h3
  have h4 := nd_ei h2
  have h0 : nd (depths l) 0 = 0 := rfl
  omega
theorem dp_ex {l : List α} : ∀ (n a : Nat) {x : α}, a < n → l[a]? = some x → ∃ u, Cm l a x u ∧ u.length + 1 = nd (depths l) (a + 1)
  | 0, _, _, h, _ => by omega
  | n + 1, a, x, h, hx => by
    obtain ⟨p, h1, h2, h3⟩ := jump_ex hx
    cases p with
    | zero => exact ⟨[], cm_of (Nat.zero_le _) rfl h2, by rw [h3]; simp [nd]⟩
    | succ p =>
      have hp : p < l.length := by
        have := (List.getElem?_eq_some_iff.mp hx).1
        omega
      obtain ⟨u, c, e⟩ := dp_ex n p (x := l[p]) (by omega) (List.getElem?_eq_getElem hp)
      obtain ⟨q, k1, k2, k3⟩ := cm_jump c
      have hpb : pb l l[p] q = some p := by
        have := idx_first (l := l) (p := q) (j := p) (x := l[p]) k1 (List.getElem?_eq_getElem hp) k3
        unfold pb
        rw [if_pos this.2, this.1]
        congr 1
        omega
      refine ⟨u ++ [l[p]], cm_of (q := p + 1) h1 ?_ h2, by simp; omega⟩
      rw [ei_snoc k2, hpb]
      rfl
theorem take_rev {l : List α} {a : Nat} (h : a < l.length) : l.reverse.take (l.length - 1 - a) = (l.drop (a + 1)).reverse := by
  rw [List.take_reverse]
  congr 2
  omega
/-- the back's view -/
theorem cm_rev {l t : List α} {a : Nat} {x : α} (h : a < l.length) : Cm l.reverse (l.length - 1 - a) x t.reverse ↔ t.Sublist (l.drop (a + 1)) ∧ ¬ (x :: t).Sublist (l.drop (a + 1)) := by
  unfold Cm
  rw [take_rev h, List.reverse_sublist, show t.reverse ++ [x] = (x :: t).reverse by simp, List.reverse_sublist]
/-- all parts of a row that a list has from the front on -/
theorem split_max {A B : List α} : ∀ (r : List α), r.Sublist (A ++ B) → ∃ r1 r2, r = r1 ++ r2 ∧ r1.Sublist A ∧ r2.Sublist B ∧ ∀ x t, r2 = x :: t → ¬ (r1 ++ [x]).Sublist A := by
  induction A with
  | nil => exact fun r h => ⟨[], r, rfl, List.nil_sublist _, h, fun x t _ q => by simp at q⟩
  | cons a A ih =>
    intro r h
    cases r with
    | nil => exact ⟨[], [], rfl, List.nil_sublist _, List.nil_sublist _, fun x t e => by cases e⟩
    | cons y r =>
      by_cases e : y = a
      · subst e
        obtain ⟨r1, r2, h1, h2, h3, h4⟩ := ih r (List.cons_sublist_cons.mp h)
        refine ⟨y :: r1, r2, by rw [h1]; rfl, List.cons_sublist_cons.mpr h2, h3, fun x t e q => h4 x t e (List.cons_sublist_cons.mp q)⟩
      · have h' : (y :: r).Sublist (A ++ B) := by
          cases h with
          | cons _ q => exact q
          | cons_cons _ q => exact absurd rfl e
        obtain ⟨r1, r2, h1, h2, h3, h4⟩ := ih (y :: r) h'
        refine ⟨r1, r2, h1, h2.trans (List.sublist_cons_self _ _), h3, fun x t e2 q => h4 x t e2 ?_⟩
        have hy : (r1 ++ [x]).head? = some y := by
          have : (r1 ++ r2).head? = some y := by rw [← h1]; rfl
          cases r1 with
          | nil => subst e2; simpa using this
          | cons z r1 => simpa using this
        cases hq : r1 ++ [x] with
        | nil => simp at hq
        | cons z zs =>
          rw [hq] at hy q
          simp at hy
          subst hy
          cases q with
          | cons _ q => exact q
          | cons_cons _ q => exact absurd rfl e
/-- the depths of an event from the front and from the back -/
def fd (l : List α) (a : Nat) : Nat := nd (depths l) (a + 1)
def bd (l : List α) (a : Nat) : Nat := nd (depths l.reverse) (l.length - 1 - a + 1)
theorem drop_keeps {l : List α} {a k : Nat} (ha : a < l.length) (h : k + 1 < fd l a + bd l a) {r : List α} (hr : r.Sublist l) (hk : r.length ≤ k) : r.Sublist (l.take a ++ l.drop (a + 1)) := by
  have e : l = l.take a ++ l[a] :: l.drop (a + 1) := by rw [← List.drop_eq_getElem_cons ha, List.take_append_drop]
  rw [e] at hr
  obtain ⟨r1, r2, rfl, h1, h2, h3⟩ := split_max r hr
  by_cases z : r2.Sublist (l.drop (a + 1))
  · exact h1.append z
  · exfalso
    cases r2 with
    | nil => exact z (List.nil_sublist _)
    | cons x t =>
      have hx : x = l[a] ∧ t.Sublist (l.drop (a + 1)) := by
        cases h2 with
        | cons _ q => exact absurd q z
        | cons_cons _ q => exact ⟨rfl, q⟩
      obtain ⟨rfl, ht⟩ := hx
      have f1 := dp_le (u := r1) (List.getElem?_eq_getElem ha) ⟨h1, h3 _ _ rfl⟩
      have hrx : l.reverse[l.length - 1 - a]? = some l[a] := by
        rw [List.getElem?_reverse (by omega)]
        rw [show l.length - 1 - (l.length - 1 - a) = a by omega]
        exact List.getElem?_eq_getElem ha
      have f2 := dp_le (u := t.reverse) hrx ((cm_rev ha).mpr ⟨ht, z⟩)
      simp at f2 hk
      unfold fd bd at h
      omega
theorem drop_loses {l : List α} {a k : Nat} (ha : a < l.length) (h : fd l a + bd l a ≤ k + 1) : ∃ r : List α, r.Sublist l ∧ r.length ≤ k ∧ ¬ r.Sublist (l.take a ++ l.drop (a + 1)) := by
  obtain ⟨u, c, e⟩ := dp_ex (l := l) (a + 1) a (by omega) (List.getElem?_eq_getElem ha)
  have hrx : l.reverse[l.length - 1 - a]? = some l[a] := by
    rw [List.getElem?_reverse (by omega)]
    rw [show l.length - 1 - (l.length - 1 - a) = a by omega]
    exact List.getElem?_eq_getElem ha
  obtain ⟨w, c2, e2⟩ := dp_ex (l := l.reverse) _ _ (Nat.lt_succ_self _) hrx
  have c3 := (cm_rev (t := w.reverse) (x := l[a]) ha).mp (by rw [List.reverse_reverse]; exact c2)
  refine ⟨u ++ l[a] :: w.reverse, ?_, by simp; unfold fd bd at h; omega, fun q => ?_⟩
  · have e : l = l.take a ++ l[a] :: l.drop (a + 1) := by rw [← List.drop_eq_getElem_cons ha, List.take_append_drop]
    have := c.1.append (List.cons_sublist_cons (a := l[a]).mpr c3.1)
    rw [← e] at this
    exact this
  · obtain ⟨r1, r2, h1, h2, h3⟩ := List.sublist_append_iff.mp q
    by_cases z : r1.length ≤ u.length
    · refine c3.2 (List.Sublist.trans ?_ h3)
      have : l[a] :: w.reverse = (u ++ l[a] :: w.reverse).drop u.length := by simp
      rw [this, h1, List.drop_append, List.drop_eq_nil_of_le z, List.nil_append]
      exact List.drop_sublist _ _
    · refine c.2 (List.Sublist.trans ?_ h2)
      have : u ++ [l[a]] = (u ++ l[a] :: w.reverse).take (u.length + 1) := by
        rw [List.take_append, List.take_of_length_le (by omega)]
        simp
      rw [this, h1, List.take_append, show u.length + 1 - r1.length = 0 by omega, List.take_zero, List.append_nil]
      exact List.take_sublist _ _
end
end VS
namespace VS
open PySem PySem.Spec PyProof.Rows L2 SX
local macro_rules | `(tactic| walk_at "mono") => `(tactic| repeat' (with_reducible first
  | exact mO_nil | apply mO_sl | apply mO_ex | exact mB_none | apply mB_some
  | exact vNext_mono | apply vSeq_mono | apply vAsg_mono | apply vPure_mono | exact vC_mono | exact vVar_mono | exact vMv_mono | apply vCmpT_mono | apply vCmpIx_mono | apply vIfS_mono | apply vRet_mono | apply vDrop_mono | apply vCall_mono
  | apply vFz_mono | apply vAsgT_mono | apply gSubD_mono | exact gN_mono | apply gT_mono | apply gsCons_mono | exact gsNil_mono | apply vAnd_mono | apply vOr_mono | apply vNot_mono | apply vTru_mono | apply vTup_mono | apply vLst_mono
  | apply vFor_mono | apply vWhile_mono | apply vPar_mono | apply vLc_mono | apply vDc_mono | exact vYes_mono | apply vMth_mono | apply vMthI_mono | apply vSl_mono | apply vAug_mono | apply vTest_mono | apply vChain_mono | apply vIf_mono | apply vAndV_mono | apply vOrV_mono | apply vNotV_mono | apply vDisp_mono
  | apply vBool_mono | apply vIsB_mono | exact vNewD_mono | exact vBreak_mono | exact vCont_mono | exact vNever_mono | exact vRetN_mono | exact CDr_mono | exact CPu_mono | apply arrC_mono
  | apply vLockE_mono | apply vDispT_mono | apply vTupS_mono | apply vLstS_mono | exact mL_nil | apply mL_cons))
/-! ## numbers k; events that can be dropped -/
def isIntD : D → Bool
  | .int _ => true
  | _ => false
def isBlD : D → Bool
  | .bl _ => true
  | _ => false
def F_is_number (ds : List D) (R : O → Prop) : Prop := ∃ d, ds = [d] ∧ AnyV d ∧ R = fun o => o = .fz (.bl (isIntD d))
abbrev C_is_number := CPu F_is_number
def T_is_number (kitT : Value → Value → Option Bool) (clsT : Addr → Bool) : DS := (vSeq (vRet (vAndV (vPure [Opd.sl 0, Opd.ex (vC (D.val (V.ty "int")))] (bfD (bfIsi kitT clsT))) (vNotV (vPure [Opd.sl 0, Opd.ex (vC (D.val (V.ty "bool")))] (bfD (bfIsi kitT clsT)))))) vNext)
theorem k_is_number {kitT : Value → Value → Option Bool} {clsT : Addr → Bool} : Keeps 1 1 [] (T_is_number kitT clsT) C_is_number := by
  refine .of (fun E os Q Z ⟨ds, R, e, ⟨d, e1, h1, e2⟩, hQ⟩ rt nx ex => ?_) rfl
  subst e e1 e2
  have key : bfIsi kitT clsT [d, .val (.ty "int")] = some (.fz (.bl (isIntD d || isBlD d))) ∧ bfIsi kitT clsT [d, .val (.ty "bool")] = some (.fz (.bl (isBlD d))) ∧ (isIntD d = true → isBlD d = false) := by
    cases h1 <;> exact ⟨rfl, rfl, fun h => by first | rfl | cases h⟩
  obtain ⟨k1, k2, k3⟩ := key
  simp [T_is_number, startC, k1, k2, h1.nb]
  cases hi : isIntD d with
  | true =>
    simp [h1.nb, k2, k3 hi]
    exact rt _ _ (hQ _ (by rw [hi]))
  | false =>
    cases hb : isBlD d with
    | true =>
      simp [h1.nb, k2, hb]
      exact rt _ _ (hQ _ (by rw [hi]))
    | false =>
      simp
      exact rt _ _ (hQ _ (by rw [hi]))
/-- a right k -/
def F_need_k (ds : List D) (R : O → Prop) : Prop := ∃ k : Nat, ds = [.int (k : Nat)] ∧ k ≤ 6 ∧ R = fun o => o = .fz .non
abbrev C_need_k := CPu F_need_k
def T_need_k : DS := (vSeq (vIfS (vOr (vNot (vTru (Opd.ex (vCall C_is_number [] [Opd.ex (vVar 0)])))) (vNot (vTest (vChain (Opd.ex (vC (D.int 0))) (Opd.sl 0) (Opd.ex (vC (D.int 6))) (bfD bfLe) (bfD bfLe))))) (vSeq vNever vNext) vNext) vNext)
theorem k_need_k : Keeps 1 1 [] T_need_k C_need_k := by
  refine .of (fun E os Q Z ⟨ds, R, e, ⟨k, e1, h1, e2⟩, hQ⟩ rt nx ex => ?_) rfl
  subst e e1 e2
  simp [T_need_k, startC]
  refine pure_of (ds := [.int (k : Nat)]) rfl ⟨_, rfl, .int, rfl⟩ fun r hr => ?_
  subst hr
  have h6 : (k : Int) ≤ 6 := by omega
  simp [fz1, h6, isIntD]
  exact nx _ (hQ _ rfl)
def dropL (xs : List Str) (k : Nat) : List Nat := (List.range xs.length).filter fun a => decide (k + 1 < fd xs a + bd xs a)
theorem dropL_len {xs : List Str} {k : Nat} : (dropL xs k).length ≤ xs.length := by
  unfold dropL
  exact Nat.le_trans (List.length_filter_le ..) (by simp)
theorem dropL_lt {xs : List Str} {k : Nat} : ∀ n ∈ dropL xs k, n < xs.length := fun n h => by
  unfold dropL at h
  simpa using (List.mem_filter.mp h).1
def F_droppable (ds : List D) (R : O → Prop) : Prop := ∃ d xs k, ds = [d, .int (k : Nat)] ∧ Seq d xs ∧ (∀ x ∈ xs, isNm x = true) ∧ xs.length ≤ 100000 ∧ k ≤ 6 ∧ R = fun o => o = .own .lst ((dropL xs k).map fun n : Nat => .fz (.int (n : Int)))
abbrev C_droppable := CPu F_droppable
def T_droppable : DS := (vSeq (vDrop (vCall C_need_log [] [Opd.ex (vVar 0)])) (vSeq (vDrop (vCall C_need_k [] [Opd.ex (vVar 1)])) (vSeq (vAsgT (gT 2 (gsCons (gN 2) (gsCons (gN 3) gsNil))) (vTup [Opd.ex (vCall C_depths_of [] [Opd.ex (vVar 0)]), Opd.ex (vPure [Opd.ex (vCall C_depths_of [] [Opd.ex (vFz (vPure [Opd.sl 0] (bfD bfRev)))])] (bfD bfRev))])) (vSeq (vRet (vLc [4] [Opd.ex (vPure [Opd.sl 0] (bfD bfLen))] itRng1 (gN 4) (vCmpT [Opd.ex (vPure [Opd.ex (vPure [Opd.sl 2, Opd.sl 4] (bfD bfIx)), Opd.ex (vPure [Opd.sl 3, Opd.sl 4] (bfD bfIx))] (bfD bfAdd)), Opd.ex (vPure [Opd.sl 1, Opd.ex (vC (D.int 1))] (bfD bfAdd))] (bfD bfGt)) (vVar 4))) vNext))))
theorem Seq.revO {d : D} {xs : List Str} (h : Seq d xs) : ∃ o d', bfRev [d] = some o ∧ o.view = d' ∧ isBad o = false ∧ Seq d' xs.reverse := by
  cases h with
  | lst => exact ⟨_, _, rev_strs, by rw [O.view, views_fstrs], rfl, .lst⟩
  | tup => exact ⟨_, _, rev_tup, by rw [view_fz, ← List.map_reverse], rfl, .tup⟩
theorem k_droppable : Keeps 5 2 [2, 3] T_droppable C_droppable := by
  refine .of (fun E os Q Z ⟨ds, R, e, ⟨d, xs, k, e1, hs, hx, hl, hk, e2⟩, hQ⟩ rt nx ex => ?_) rfl
  subst e e1 e2
  obtain ⟨o, d', c1, c2, c3, c4⟩ := hs.revO
  simp [T_droppable, startC, hs.nb]
  refine pure_of (ds := [d]) rfl ⟨d, xs, rfl, hs, hx, rfl⟩ fun r hr => ?_
  subst hr
  simp [hs.nb]
  refine pure_of (ds := [.int (k : Nat)]) rfl ⟨k, rfl, hk, rfl⟩ fun r hr => ?_
  subst hr
  simp [hs.nb]
  refine pure_of (ds := [d]) rfl ⟨d, xs, rfl, hs, fun x h => isNm_ok (hx x h), by omega, rfl⟩ fun r hr => ?_
  subst hr
  simp [hs.nb, c1, c2]
  refine pure_of (ds := [d']) rfl ⟨d', xs.reverse, rfl, c4, fun x h => isNm_ok (hx x (by simpa using h)), by simp; omega, rfl⟩ fun r hr => ?_
  subst hr
  obtain ⟨Fl, hF⟩ : ∃ Fl, Fl = depths xs := ⟨_, rfl⟩
  obtain ⟨Bl, hB⟩ : ∃ Bl, Bl = (depths xs.reverse).reverse := ⟨_, rfl⟩
  have hFl : Fl.length = xs.length := by rw [hF, depths_len]
  have hBl : Bl.length = xs.length := by rw [hB, List.length_reverse, depths_len, List.length_reverse]
  have e6 : bfRev [.nd .lst ((depths xs.reverse).map fun n : Nat => .int (n : Int))] = some (.own .lst (Bl.map fun n : Nat => .fz (.int (n : Int)))) := by
    rw [rev_lst, hB, ← List.map_reverse, List.map_map]
    rfl
  rw [← hF]
  simp [-rev_lst, e6, mkT, hs.nb, hs.len, rng1n (show xs.length < 4611686018427387904 by omega)]
  refine lc_filter (by walk_at "mono") (by walk_at "mono") (by walk_at "mono") (fun d => match d with | .int z => decide (k + 1 < Fl.getD z.toNat 0 + Bl.getD z.toNat 0) | _ => false) .fz (by simp [keepOps]) (by simp [rngD]; omega) ?_ ?_
  · intro d' hd'
    obtain ⟨a, ha, rfl⟩ : ∃ a : Nat, a < xs.length ∧ d' = .int (a : Nat) := by
      unfold rngD at hd'
      obtain ⟨a, h1, h2⟩ := List.mem_map.mp hd'
      exact ⟨a, by simpa using h1, by rw [← h2]; simp⟩
    have i1 : bfIx [.nd .lst (Fl.map fun n : Nat => .int (n : Int)), .int (a : Nat)] = some (.fz (.int (Fl[a]'(by omega) : Nat))) := by
      rw [ix_lst, atI_of (by simp; omega)]
      simp
    have i2 : bfIx [.nd .lst (Bl.map fun n : Nat => .int (n : Int)), .int (a : Nat)] = some (.fz (.int (Bl[a]'(by omega) : Nat))) := by
      rw [ix_lst, atI_of (by simp; omega)]
      simp
    simp [-ix_lst, i1, i2, List.getD_eq_getElem?_getD, List.getElem?_eq_getElem (show a < Fl.length by omega), List.getElem?_eq_getElem (show a < Bl.length by omega)]
    omega
  · refine rt _ _ (hQ _ ?_)
    rw [rng0, List.filter_map, List.map_map]
    unfold dropL
    congr 1
    refine congrArg _ (List.filter_congr fun a ha => ?_)
    have ha' : a < xs.length := by simpa using ha
    have e1 : fd xs a = Fl.getD a 0 := by rw [hF]; rfl
    have e2 : bd xs a = Bl.getD a 0 := by
      rw [hB]
      show (depths xs.reverse).getD (xs.length - 1 - a) 0 = _
      rw [List.getD_eq_getElem?_getD, List.getD_eq_getElem?_getD, List.getElem?_reverse (by rw [depths_len]; simpa using ha'), depths_len, List.length_reverse]
    simp [e1, e2]
/-! all rows that occur, as a dict's keys -/
def keyS (r : List Str) : List Key := r.map .inr
theorem keyS_inj {a b : List Str} : keyS a = keyS b ↔ a = b := ⟨fun h => (List.map_inj_right (fun x y e => by cases e; rfl)).mp h, fun h => by rw [h]⟩
theorem keysOf_strs : ∀ r : List Str, keysOf (r.map .str) = some (keyS r)
  | [] => rfl
  | x :: r => by
    show ((keyOf (.str x)).bind fun k => (keysOf (r.map .str)).map (k :: ·)) = _
    rw [keysOf_strs r]
    rfl
theorem keyD_S {r : List Str} : (keyS r).map keyD = r.map .str := by rw [keyS, List.map_map]; rfl
def rowsO (L : List (List Str)) : O := .own (.dT (L.map keyS)) (L.map fun _ => .fz (.bl true))
theorem hasK_S {L : List (List Str)} {r : List Str} : hasK (L.map keyS) (keyS r) = decide (r ∈ L) := by
  induction L with
  | nil => rfl
  | cons y L ih =>
    rw [List.map_cons, hasK_cons, ih]
    rw [Bool.eq_iff_iff]
    simp [keyS_inj]
    exact ⟨fun q => q.imp Eq.symm id, fun q => q.imp Eq.symm id⟩
theorem setKs_S {L : List (List Str)} {o : O} {k : List Key} : setKs (L.map keyS) (L.map fun _ => o) k o = L.map fun _ => o := by
  induction L with
  | nil => rfl
  | cons y L ih => simp [ih]
/-- stored: a row more -/
def addL (L : List (List Str)) (r : List Str) : List (List Str) := if r ∈ L then L else L ++ [r]
theorem putO_S {L : List (List Str)} {r : List Str} : putO .dT (L.map keyS) (L.map fun _ => .fz (.bl true)) (keyS r) (.fz (.bl true)) = rowsO (addL L r) := by
  rw [putO_eq, hasK_S, addL]
  by_cases h : r ∈ L
  · simp only [h, decide_true, if_true, view_fz]
    rw [setKs_S]
    rfl
  · simp only [h, decide_false, if_false, Bool.false_eq_true]
    simp [rowsO]
theorem addL_nd {L : List (List Str)} {r : List Str} (h : L.Nodup) : (addL L r).Nodup := by
  unfold addL
  split
  · exact h
  · rename_i hr
    rw [List.nodup_append]
    exact ⟨h, by simp, fun a ha b hb => by simp at hb; subst hb; exact fun e => hr (e ▸ ha)⟩
theorem addL_mem {L : List (List Str)} {r s : List Str} : s ∈ addL L r ↔ s ∈ L ∨ s = r := by
  unfold addL
  split
  · rename_i hr
    exact ⟨.inl, fun q => q.elim id fun e => e ▸ hr⟩
  · simp
theorem addL_len {L : List (List Str)} {r : List Str} : (addL L r).length ≤ L.length + 1 := by
  unfold addL
  split <;> simp
def F__law_rows (ds : List D) (R : O → Prop) : Prop := ∃ (xs : List Str) (k : Nat), ds = [.nd .lst (xs.map .str), .int (k : Nat)] ∧ xs.length ≤ 20 ∧ R = fun o => ∃ L, o = rowsO L ∧ L.Nodup ∧ ∀ r, r ∈ L ↔ r.Sublist xs ∧ r.length ≤ k
abbrev C__law_rows := CPu F__law_rows
def T__law_rows : DS := (vSeq (vAsg 2 (vDispT (Opd.ex (vFz (vTup []))) (Opd.ex (vFz (vC (D.bl true)))))) (vSeq (vFor [Opd.ex (vVar 0)] itAny (gN 3) (vSeq (vFor [Opd.ex (vFz (vLockE 2 (vLc [5] [Opd.sl 2] itAny (gN 5) (vCmpT [Opd.ex (vPure [Opd.sl 5] (bfD bfLen)), Opd.sl 1] (bfD bfLt)) (vVar 5))))] itAny (gN 4) (vSeq (vAsgT (gSubD 2 (Opd.ex (vPure [Opd.sl 4, Opd.ex (vTup [Opd.ex (vVar 3)])] (bfD bfAdd)))) (vC (D.bl true))) vNext)) vNext)) (vSeq (vRet (vMv 2)) vNext)))
theorem sub_snoc {α : Type} {r A : List α} {x : α} : r.Sublist (A ++ [x]) ↔ r.Sublist A ∨ ∃ r', r = r' ++ [x] ∧ r'.Sublist A := by
  rw [List.sublist_append_iff]
  constructor
  · rintro ⟨l1, l2, rfl, h1, h2⟩
    cases h2 with
    | cons _ h2 =>
      have : l2 = [] := by simpa using h2
      subst this
      exact .inl (by simpa using h1)
    | @cons_cons l2 _ _ h2 =>
      have : l2 = [] := by simpa using h2
      subst this
      exact .inr ⟨l1, rfl, h1⟩
  · rintro (h | ⟨r', rfl, h⟩)
    · exact ⟨r, [], by simp, h, List.nil_sublist _⟩
    · exact ⟨r', [x], rfl, h, List.Sublist.refl _⟩
theorem lockQ_rows {L : List (List Str)} {i : Nat} {t : DE} {E : XP} {c : Cf} {Q : DK} : lockQS (rowsO L) i t E c Q = ∀ (od : Obj) (vs : List V), t (fun _ _ _ => False) (c.set i (.own (.lkT od vs (L.map keyS)) (L.map fun _ => .fz (.bl true)))) fun r c' => c'[i]? = some (.own (.lkT od vs (L.map keyS)) (L.map fun _ => .fz (.bl true))) ∧ Q r (c'.set i (rowsO L)) := (rfl)
theorem k_lrows : Keeps 6 2 [2, 3, 4] T__law_rows C__law_rows := by
  refine .of (fun E os Q Z ⟨ds, R, e, ⟨xs, k, e1, hl, e2⟩, hQ⟩ rt nx ex => ?_) rfl
  subst e e1 e2
  have nbr : ∀ L, isBad (rowsO L) = false := fun _ => rfl
  simp [T__law_rows, startC, mkT]
  refine forc (by walk_at "mono") (by walk_at "mono") (fun ds c => ∃ (pre suf : List Str) (L : List (List Str)) (x3 x4 : O), xs = pre ++ suf ∧ ds = suf.map .str ∧ c = [.fz (.nd .lst (xs.map .str)), .fz (.int (k : Nat)), rowsO L, x3, x4, .bad] ∧ L.Nodup ∧ L.length ≤ 2 ^ pre.length ∧ ∀ r, r ∈ L ↔ r.Sublist pre ∧ r.length ≤ k) ⟨[], xs, [[]], .bad, .bad, rfl, rfl, rfl, by simp, by simp, fun r => ?_⟩ ?_ ?_
  · simp
    intro h
    subst h
    simp
  · rintro K d' ds c hK ⟨pre, suf, L, x3, x4, e, hd, rfl, hn, hlen, hm⟩
    cases suf with
    | nil => cases hd
    | cons x suf =>
      cases hd
      have hpl : pre.length ≤ 19 := by rw [e] at hl; simp at hl; omega
      have hL : L.length ≤ 2 ^ 19 := Nat.le_trans hlen (Nat.pow_le_pow_right (by omega) hpl)
      simp [keepOps]
      rw [lockQ_rows]
      intro od vs
      have hit : (L.map keyS).map (fun k => D.nd .tup (k.map keyD)) = L.map tupS := by
        rw [List.map_map]
        refine List.map_congr_left fun r _ => ?_
        show D.nd .tup ((keyS r).map keyD) = _
        rw [keyD_S]
        rfl
      simp only [List.set_cons_succ, List.set_cons_zero, s_lc, ev_sl, ev_nil]
      refine ob_iff.mpr ⟨_, rfl, rfl, ob_iff.mpr ⟨_, rfl, ob_iff.mpr ⟨_, by rw [it_lkT, hit], ?_⟩⟩⟩
      refine lc_filter (by walk_at "mono") (by walk_at "mono") (by walk_at "mono") (fun d => decide ((unS d).length < k)) .fz ?_ ?_ ?_ ?_
      · intro i hi t os h
        simp at hi
        subst hi
        simpa using h
      · rw [List.length_map]; omega
      · intro d' hd'
        obtain ⟨r, hr, rfl⟩ := List.mem_map.mp hd'
        have := unS_tup (r := r)
        rw [tupS] at this ⊢
        simp [this]
      · refine ⟨rfl, ?_⟩
        obtain ⟨M, hM⟩ : ∃ M, M = L.filter fun r => decide (r.length < k) := ⟨_, rfl⟩
        have hf : (L.map tupS).filter (fun d => decide ((unS d).length < k)) = M.map tupS := by
          rw [List.filter_map, hM]
          congr 1
          refine List.filter_congr fun r _ => ?_
          show decide ((unS (tupS r)).length < k) = _
          rw [unS_tup]
        have hMl : M.length ≤ L.length := by rw [hM]; exact List.length_filter_le ..
        rw [hf]
        simp
        refine forc (by walk_at "mono") (by walk_at "mono") (fun ds c => ∃ (pre2 suf2 : List (List Str)) (L2 : List (List Str)) (x4 : O), M = pre2 ++ suf2 ∧ ds = suf2.map tupS ∧ c = [.fz (.nd .lst (xs.map .str)), .fz (.int (k : Nat)), rowsO L2, .fz (.str x), x4, .bad] ∧ L2.Nodup ∧ L2.length ≤ L.length + pre2.length ∧ ∀ r, r ∈ L2 ↔ r ∈ L ∨ ∃ s ∈ pre2, r = s ++ [x]) ⟨[], M, L, x4, rfl, by rw [O.views_eq, List.map_map]; rfl, rfl, hn, by simp, by simp⟩ ?_ ?_
        · rintro K2 d2 ds2 c hK2 ⟨pre2, suf2, L2, x4, e2, hd2, rfl, hn2, hl2, hm2⟩
          cases suf2 with
          | nil => cases hd2
          | cons r suf2 =>
            cases hd2
            have hrM : r ∈ M := by rw [e2]; simp
            have hrl : r.length ≤ 20 := by
              rw [hM] at hrM
              have := (hm r).mp (List.mem_filter.mp hrM).1
              have := this.1.length_le
              omega
            have hp2 : pre2.length ≤ L.length := by
              have : pre2.length ≤ M.length := by rw [e2]; simp
              omega
            have hkey : keysOf (r.map D.str ++ [D.str x]) = some (keyS (r ++ [x])) := by
              have := keysOf_strs (r ++ [x])
              simpa using this
            have hst : stO (rowsO L2) (.nd .tup (r.map D.str ++ [D.str x])) (.fz (.bl true)) = some (rowsO (addL L2 (r ++ [x]))) := by
              rw [rowsO, stO_dT, tkey_tup, hkey, Option.bind_some, if_pos (by simp; omega), putO_S]
            simp [keepOps, tupS, mkT]
            rw [if_pos (by omega)]
            simp [nbr, hst]
            refine hK2 _ ⟨pre2 ++ [r], suf2, addL L2 (r ++ [x]), _, by rw [e2]; simp, rfl, rfl, addL_nd hn2, ?_, fun s => ?_⟩
            · have := addL_len (L := L2) (r := r ++ [x])
              simp
              omega
            · rw [addL_mem, hm2]
              constructor
              · rintro ((h | ⟨t, h1, h2⟩) | h)
                · exact .inl h
                · exact .inr ⟨t, by simp [h1], h2⟩
                · exact .inr ⟨r, by simp, h⟩
              · rintro (h | ⟨t, h1, h2⟩)
                · exact .inl (.inl h)
                · rcases List.mem_append.mp h1 with z | z
                  · exact .inl (.inr ⟨t, z, h2⟩)
                  · simp at z; subst z; exact .inr h2
        · rintro c ⟨pre2, suf2, L2, x4, e2, hd2, rfl, hn2, hl2, hm2⟩
          have : suf2 = [] := by cases suf2 with
            | nil => rfl
            | cons _ _ => cases hd2
          subst this
          rw [List.append_nil] at e2
          subst e2
          simp [keepOps]
          refine hK _ ⟨pre ++ [x], suf, L2, _, _, by rw [e]; simp, rfl, rfl, hn2, ?_, fun r => ?_⟩
          · simp [Nat.pow_succ]
            omega
          · rw [hm2, sub_snoc, hm]
            constructor
            · rintro (h | ⟨s, h1, h2⟩)
              · exact ⟨.inl h.1, h.2⟩
              · rw [hM] at h1
                obtain ⟨h3, h4⟩ := List.mem_filter.mp h1
                simp at h4
                exact ⟨.inr ⟨s, h2, ((hm s).mp h3).1⟩, by rw [h2]; simp; omega⟩
            · rintro ⟨h | ⟨s, h1, h2⟩, h3⟩
              · exact .inl ⟨h, h3⟩
              · subst h1
                simp at h3
                exact .inr ⟨s, by rw [hM]; exact List.mem_filter.mpr ⟨(hm s).mpr ⟨h2, by omega⟩, by simp; omega⟩, rfl⟩
  · rintro c ⟨pre, suf, L, x3, x4, e, hd, rfl, hn, hlen, hm⟩
    have : suf = [] := by cases suf with
      | nil => rfl
      | cons _ _ => cases hd
    subst this
    rw [List.append_nil] at e
    subst e
    simp [keepOps, nbr]
    exact rt _ _ (hQ _ ⟨L, rfl, hn, hm⟩)
end VS
namespace VS
open PySem
/-! ## the order of rows (plain) -/
def ltN (x y : Str) : Bool := decide (x.cps.toList < y.cps.toList)
theorem ltN_irr (x : Str) : ltN x x = false := by simp [ltN, List.lt_irrefl]
theorem ltN_tr {x y z : Str} (h : ltN x y = true) (h' : ltN y z = true) : ltN x z = true := by
  simp only [ltN, decide_eq_true_eq] at h h' ⊢
  exact List.lt_trans h h'
theorem ltN_tot {x y : Str} (h : x ≠ y) : ltN x y = true ∨ ltN y x = true := by
  simp only [ltN, decide_eq_true_eq]
  by_cases z : x.cps.toList < y.cps.toList
  · exact .inl z
  · by_cases z' : y.cps.toList < x.cps.toList
    · exact .inr z'
    · exfalso
      exact h (leS_anti x y (by unfold leS; simp [z']) (by unfold leS; simp [z]))
def ltR : List Str → List Str → Bool
  | _, [] => false
  | [], _ :: _ => true
  | x :: xs, y :: ys => if x = y then ltR xs ys else ltN x y
theorem ltR_irr : ∀ r : List Str, ltR r r = false
  | [] => rfl
  | x :: r => by rw [ltR, if_pos rfl, ltR_irr r]
theorem ltR_tr : ∀ {a b c : List Str}, ltR a b = true → ltR b c = true → ltR a c = true
  | _, _, [], _, h' => by simp [ltR] at h'
  | _, [], _ :: _, h, _ => by simp [ltR] at h
  | [], _ :: _, _ :: _, _, _ => rfl
  | x :: a, y :: b, z :: c, h, h' => by
    rw [ltR] at h h' ⊢
    by_cases e : x = y
    · subst e
      rw [if_pos rfl] at h
      by_cases e' : x = z
      · subst e'
        rw [if_pos rfl] at h' ⊢
        exact ltR_tr h h'
      · rw [if_neg e'] at h' ⊢
        exact h'
    · rw [if_neg e] at h
      by_cases e' : y = z
      · subst e'
        rw [if_neg e]
        exact h
      · rw [if_neg e'] at h'
        have ht := ltN_tr h h'
        have : x ≠ z := fun q => by rw [q, ltN_irr] at ht; cases ht
        rw [if_neg this]
        exact ht
theorem ltR_tot : ∀ {a b : List Str}, a ≠ b → ltR a b = true ∨ ltR b a = true
  | [], [], h => absurd rfl h
  | [], _ :: _, _ => .inl rfl
  | _ :: _, [], _ => .inr rfl
  | x :: a, y :: b, h => by
    rw [ltR, ltR]
    by_cases e : x = y
    · subst e
      rw [if_pos rfl, if_pos rfl]
      exact ltR_tot fun q => h (by rw [q])
    · rw [if_neg e, if_neg fun q => e q.symm]
      exact ltN_tot e
theorem ltR_app : ∀ {a b t : List Str}, a.length = b.length → ltR a b = true → ltR (a ++ t) (b ++ t) = true
  | [], [], _, _, h => by cases h
  | [], _ :: _, _, h, _ => by simp at h
  | _ :: _, [], _, h, _ => by simp at h
  | x :: a, y :: b, t, hl, h => by
    rw [ltR] at h
    rw [List.cons_append, List.cons_append, ltR]
    by_cases e : x = y
    · subst e
      rw [if_pos rfl] at h ⊢
      exact ltR_app (by simpa using hl) h
    · rw [if_neg e] at h ⊢
      exact h
theorem ltR_snoc : ∀ {a b : List Str} {x y : Str}, a.length = b.length → ltR a b = true → ltR (a ++ [x]) (b ++ [y]) = true
  | [], [], _, _, _, h => by cases h
  | [], _ :: _, _, _, h, _ => by simp at h
  | _ :: _, [], _, _, h, _ => by simp at h
  | x :: a, y :: b, _, _, hl, h => by
    rw [ltR] at h
    rw [List.cons_append, List.cons_append, ltR]
    by_cases e : x = y
    · subst e
      rw [if_pos rfl] at h ⊢
      exact ltR_snoc (by simpa using hl) h
    · rw [if_neg e] at h ⊢
      exact h
theorem ltR_last : ∀ {a : List Str} {x y : Str}, ltN x y = true → ltR (a ++ [x]) (a ++ [y]) = true
  | [], x, y, h => by
    have : x ≠ y := fun q => by rw [q, ltN_irr] at h; cases h
    show (if x = y then _ else _) = true
    rw [if_neg this]
    exact h
  | z :: a, x, y, h => by
    rw [List.cons_append, List.cons_append, ltR, if_pos rfl]
    exact ltR_last h
/-- fewer events first -/
def ltK (a b : List Str) : Prop := a.length < b.length ∨ (a.length = b.length ∧ ltR a b = true)
theorem ltK_irr {a : List Str} : ¬ ltK a a := fun h => by
  rcases h with h | ⟨_, h⟩
  · omega
  · rw [ltR_irr] at h; cases h
theorem ltK_tr {a b c : List Str} (h : ltK a b) (h' : ltK b c) : ltK a c := by
  rcases h with h | ⟨h1, h2⟩ <;> rcases h' with h' | ⟨h3, h4⟩
  · exact .inl (by omega)
  · exact .inl (by omega)
  · exact .inl (by omega)
  · exact .inr ⟨by omega, ltR_tr h2 h4⟩
theorem ltK_tot {a b : List Str} (h : a ≠ b) : ltK a b ∨ ltK b a := by
  rcases Nat.lt_trichotomy a.length b.length with w | w | w
  · exact .inl (.inl w)
  · exact (ltR_tot h).imp (fun q => .inr ⟨w, q⟩) fun q => .inr ⟨w.symm, q⟩
  · exact .inr (.inl w)
/-! ## the least row that only one of two logs has (plain) -/
section
variable {one two : List Str}
def parts (one two r : List Str) : Prop := ((ei one 0 r).isSome = true) ≠ ((ei two 0 r).isSome = true)
def IsMin (one two m : List Str) : Prop := parts one two m ∧ ∀ r, parts one two r → m = r ∨ ltK m r
theorem ei_cut {xs : List Str} : ∀ {a t : List Str} {p : Nat}, ei xs p (a ++ t) = (ei xs p a).bind fun q => ei xs q t
  | [], t, p => by simp [ei]
  | y :: a, t, p => by
    rw [List.cons_append, ei, ei]
    cases pb xs y p with
    | none => rfl
    | some j => exact ei_cut
/-- two rows that lead to the same places go on alike -/
theorem parts_same {a b t : List Str} (h1 : ei one 0 a = ei one 0 b) (h2 : ei two 0 a = ei two 0 b) : parts one two (a ++ t) ↔ parts one two (b ++ t) := by
  unfold parts
  rw [ei_cut, ei_cut, ei_cut, ei_cut, h1, h2]
/-- the layer of the rows of n events, the places that are seen -/
structure BF (one two : List Str) (n : Nat) (layer : List (List Str × Nat × Nat)) (seen : List (Nat × Nat)) : Prop where
  row : ∀ t ∈ layer, t.1.length = n ∧ ei one 0 t.1 = some t.2.1 ∧ ei two 0 t.1 = some t.2.2
  asc : layer.Pairwise fun a b => ltR a.1 b.1 = true
  seen : ∀ s ∈ seen, ∃ r : List Str, r.length ≤ n ∧ ei one 0 r = some s.1 ∧ ei two 0 r = some s.2
  min : ∀ m, IsMin one two m → n < m.length ∧ ∃ t ∈ layer, t.1 = m.take n
abbrev Pd := (List Str × Nat × Nat) × Str
def rowP (w : Pd) : List Str := w.1.1 ++ [w.2]
/-- within a layer: what is still to be looked at, what comes later -/
structure BFm (one two : List Str) (n : Nat) (pend : List Pd) (later : List (List Str × Nat × Nat)) (seen : List (Nat × Nat)) : Prop where
  row : ∀ w ∈ pend, w.1.1.length = n ∧ ei one 0 w.1.1 = some w.1.2.1 ∧ ei two 0 w.1.1 = some w.1.2.2
  pasc : pend.Pairwise fun a b => ltR (rowP a) (rowP b) = true
  lrow : ∀ t ∈ later, t.1.length = n + 1 ∧ ei one 0 t.1 = some t.2.1 ∧ ei two 0 t.1 = some t.2.2
  lasc : later.Pairwise fun a b => ltR a.1 b.1 = true
  before : ∀ t ∈ later, ∀ w ∈ pend, ltR t.1 (rowP w) = true
  seen : ∀ s ∈ seen, ∃ r : List Str, (r.length ≤ n ∨ (r.length = n + 1 ∧ ∀ w ∈ pend, ltR r (rowP w) = true)) ∧ ei one 0 r = some s.1 ∧ ei two 0 r = some s.2
  min : ∀ m, IsMin one two m → n < m.length ∧ ((∃ w ∈ pend, rowP w = m.take (n + 1)) ∨ (n + 1 < m.length ∧ ∃ t ∈ later, t.1 = m.take (n + 1)))
theorem bfm_end {n : Nat} {later : List (List Str × Nat × Nat)} {seen : List (Nat × Nat)} (h : BFm one two n [] later seen) : BF one two (n + 1) later seen where
  row := h.lrow
  asc := h.lasc
  seen := fun s hs => by
    obtain ⟨r, h1, h2⟩ := h.seen s hs
    exact ⟨r, by rcases h1 with q | q <;> omega, h2⟩
  min := fun m hm => by
    obtain ⟨_, ⟨w, hw, _⟩ | q⟩ := h.min m hm
    · cases hw
    · exact q
theorem bf_none {n : Nat} {seen : List (Nat × Nat)} (h : BF one two n [] seen) {m : List Str} : ¬ IsMin one two m := fun hm => by
  obtain ⟨_, t, ht, _⟩ := h.min m hm
  cases ht
/-- what one log has alone: it is the least one -/
theorem bfm_found {n : Nat} {w : Pd} {pend : List Pd} {later : List (List Str × Nat × Nat)} {seen : List (Nat × Nat)} (h : BFm one two n (w :: pend) later seen) (hp : parts one two (rowP w)) {m : List Str} (hm : IsMin one two m) : m = rowP w := by
  obtain ⟨h1, h2⟩ := h.min m hm
  have hl : (rowP w).length = n + 1 := by simp [rowP, (h.row w (by simp)).1]
  have hml : m.length = n + 1 := by
    rcases hm.2 _ hp with e | e | e
    · rw [e, hl]
    · omega
    · omega
  rcases h2 with ⟨w', hw', e⟩ | ⟨q, _⟩
  · rw [List.take_of_length_le (by omega)] at e
    rcases List.mem_cons.mp hw' with rfl | hw'
    · exact e.symm
    · have lt := (List.pairwise_cons.mp h.pasc).1 w' hw'
      rw [e] at lt
      rcases hm.2 _ hp with e2 | e2
      · exact e2
      · exact absurd (ltK_tr e2 (.inr ⟨by omega, lt⟩)) ltK_irr
  · omega
theorem min_front {m : List Str} {n : Nat} {w : List Str} (h : n < m.length) (hw : w = m.take (n + 1)) : ∃ t, m = w ++ t := ⟨m.drop (n + 1), by rw [hw, List.take_append_drop]⟩
/-- the least row does not go on from this one -/
theorem bfm_drop {n : Nat} {w : Pd} {pend : List Pd} {later : List (List Str × Nat × Nat)} {seen : List (Nat × Nat)} (h : BFm one two n (w :: pend) later seen) (hn : ∀ m, IsMin one two m → n < m.length → rowP w ≠ m.take (n + 1)) : BFm one two n pend later seen where
  row := fun w' hw' => h.row w' (by simp [hw'])
  pasc := (List.pairwise_cons.mp h.pasc).2
  lrow := h.lrow
  lasc := h.lasc
  before := fun t ht w' hw' => h.before t ht w' (by simp [hw'])
  seen := fun s hs => by
    obtain ⟨r, h1, h2⟩ := h.seen s hs
    exact ⟨r, h1.imp id fun q => ⟨q.1, fun w' hw' => q.2 w' (by simp [hw'])⟩, h2⟩
  min := fun m hm => by
    obtain ⟨h1, h2⟩ := h.min m hm
    refine ⟨h1, h2.imp (fun ⟨w', hw', e⟩ => ?_) id⟩
    rcases List.mem_cons.mp hw' with rfl | hw'
    · exact absurd e (hn m hm h1)
    · exact ⟨w', hw', e⟩
/-- no log has this row -/
theorem bfm_none {n : Nat} {w : Pd} {pend : List Pd} {later : List (List Str × Nat × Nat)} {seen : List (Nat × Nat)} (h : BFm one two n (w :: pend) later seen) (h1 : ei one 0 (rowP w) = none) (h2 : ei two 0 (rowP w) = none) : BFm one two n pend later seen :=
  bfm_drop h fun m hm hl e => by
    obtain ⟨t, ht⟩ := min_front hl e
    have := hm.1
    rw [ht] at this
    unfold parts at this
    rw [ei_cut, ei_cut, h1, h2] at this
    exact this rfl
/-- both have it, and its places are seen already -/
theorem bfm_seen {n : Nat} {w : Pd} {pend : List Pd} {later : List (List Str × Nat × Nat)} {seen : List (Nat × Nat)} {p q : Nat} (h : BFm one two n (w :: pend) later seen) (h1 : ei one 0 (rowP w) = some p) (h2 : ei two 0 (rowP w) = some q) (hs : (p, q) ∈ seen) : BFm one two n pend later seen :=
  bfm_drop h fun m hm hl e => by
    obtain ⟨t, ht⟩ := min_front hl e
    obtain ⟨r, hr, a1, a2⟩ := h.seen _ hs
    have hw : (rowP w).length = n + 1 := by simp [rowP, (h.row w (by simp)).1]
    have hp : parts one two (r ++ t) := (parts_same (a1.trans h1.symm) (a2.trans h2.symm)).mpr (ht ▸ hm.1)
    have lt : ltK (r ++ t) m := by
      rw [ht]
      rcases hr with hr | ⟨hr, hb⟩
      · exact .inl (by simp; omega)
      · exact .inr ⟨by simp; omega, ltR_app (by omega) (hb w (by simp))⟩
    rcases hm.2 _ hp with e2 | e2
    · rw [← e2] at lt; exact ltK_irr lt
    · exact ltK_irr (ltK_tr e2 lt)
/-- both have it, its places are new -/
theorem bfm_new {n : Nat} {w : Pd} {pend : List Pd} {later : List (List Str × Nat × Nat)} {seen : List (Nat × Nat)} {p q : Nat} (h : BFm one two n (w :: pend) later seen) (h1 : ei one 0 (rowP w) = some p) (h2 : ei two 0 (rowP w) = some q) : BFm one two n pend (later ++ [(rowP w, p, q)]) ((p, q) :: seen) := by
  have hw : (rowP w).length = n + 1 := by simp [rowP, (h.row w (by simp)).1]
  have hlt := (List.pairwise_cons.mp h.pasc).1
  refine ⟨fun w' hw' => h.row w' (by simp [hw']), (List.pairwise_cons.mp h.pasc).2, fun t ht => ?_, ?_, fun t ht w' hw' => ?_, fun s hs => ?_, fun m hm => ?_⟩
  · rcases List.mem_append.mp ht with ht | ht
    · exact h.lrow t ht
    · simp at ht
      subst ht
      exact ⟨hw, h1, h2⟩
  · refine List.pairwise_append.mpr ⟨h.lasc, by simp, fun a ha b hb => ?_⟩
    simp at hb
    subst hb
    exact h.before a ha w (by simp)
  · rcases List.mem_append.mp ht with ht | ht
    · exact h.before t ht w' (by simp [hw'])
    · simp at ht
      subst ht
      exact hlt w' hw'
  · rcases List.mem_cons.mp hs with rfl | hs
    · exact ⟨rowP w, .inr ⟨hw, hlt⟩, h1, h2⟩
    · obtain ⟨r, a1, a2⟩ := h.seen s hs
      exact ⟨r, a1.imp id fun z => ⟨z.1, fun w' hw' => z.2 w' (by simp [hw'])⟩, a2⟩
  · obtain ⟨b1, b2⟩ := h.min m hm
    refine ⟨b1, ?_⟩
    rcases b2 with ⟨w', hw', e⟩ | ⟨b2, t, ht, e⟩
    · rcases List.mem_cons.mp hw' with rfl | hw'
      · refine .inr ⟨?_, (rowP w', p, q), List.mem_append_right _ (by simp), e⟩
        rcases Nat.lt_or_ge (n + 1) m.length with z | z
        · exact z
        · exfalso
          rw [List.take_of_length_le z] at e
          have := hm.1
          rw [← e] at this
          unfold parts at this
          rw [h1, h2] at this
          exact this rfl
      · exact .inl ⟨w', hw', e⟩
    · exact .inr ⟨b2, t, List.mem_append_left _ ht, e⟩
/-- a layer's begin; S: the names, ascending -/
theorem bfm_begin {S : List Str} {n : Nat} {layer : List (List Str × Nat × Nat)} {seen : List (Nat × Nat)} (hS : S.Pairwise fun a b => ltN a b = true) (hm : ∀ m, IsMin one two m → ∀ y ∈ m, y ∈ S) (h : BF one two n layer seen) : BFm one two n (layer.flatMap fun t => S.map fun y => (t, y)) [] seen := by
  have mem : ∀ w : Pd, w ∈ (layer.flatMap fun t => S.map fun y => (t, y)) ↔ w.1 ∈ layer ∧ w.2 ∈ S := fun w => by
    rw [List.mem_flatMap]
    constructor
    · rintro ⟨t, ht, hw⟩
      obtain ⟨y, hy, rfl⟩ := List.mem_map.mp hw
      exact ⟨ht, hy⟩
    · rintro ⟨h1, h2⟩
      exact ⟨w.1, h1, List.mem_map.mpr ⟨w.2, h2, rfl⟩⟩
  refine ⟨fun w hw => h.row w.1 ((mem w).mp hw).1, ?_, by simp, List.Pairwise.nil, by simp, fun s hs => ?_, fun m hm' => ?_⟩
  · have key : ∀ l : List (List Str × Nat × Nat), (∀ t ∈ l, t.1.length = n) → l.Pairwise (fun a b => ltR a.1 b.1 = true) → (l.flatMap fun t => S.map fun y => ((t, y) : Pd)).Pairwise fun a b => ltR (rowP a) (rowP b) = true := by
      intro l
      induction l with
      | nil => exact fun _ _ => List.Pairwise.nil
      | cons t l ih =>
        intro hl hp
        obtain ⟨p1, p2⟩ := List.pairwise_cons.mp hp
        rw [List.flatMap_cons]
        refine List.pairwise_append.mpr ⟨List.pairwise_map.mpr (hS.imp fun q => ltR_last q), ih (fun t' ht' => hl t' (by simp [ht'])) p2, fun a ha b hb => ?_⟩
        obtain ⟨y, _, rfl⟩ := List.mem_map.mp ha
        obtain ⟨t', ht', hb⟩ := List.mem_flatMap.mp hb
        obtain ⟨y', _, rfl⟩ := List.mem_map.mp hb
        exact ltR_snoc (by rw [hl t (by simp), hl t' (by simp [ht'])]) (p1 t' ht')
    exact key layer (fun t ht => (h.row t ht).1) h.asc
  · obtain ⟨r, h1, h2⟩ := h.seen s hs
    exact ⟨r, .inl h1, h2⟩
  · obtain ⟨h1, t, ht, e⟩ := h.min m hm'
    refine ⟨h1, .inl ⟨(t, m[n]), (mem _).mpr ⟨ht, hm m hm' _ (List.getElem_mem h1)⟩, ?_⟩⟩
    show t.1 ++ [m[n]] = _
    rw [e, List.take_succ_eq_append_getElem h1]
theorem bf_begin : BF one two 0 [([], 0, 0)] [(0, 0)] where
  row := fun t ht => by simp at ht; subst ht; exact ⟨rfl, rfl, rfl⟩
  asc := by simp
  seen := fun s hs => by simp at hs; subst hs; exact ⟨[], by simp, rfl, rfl⟩
  min := fun m hm => by
    refine ⟨?_, _, List.mem_singleton.mpr rfl, by simp⟩
    cases m with
    | nil => exact absurd rfl hm.1
    | cons a l => simp
theorem ei_sub {xs r : List Str} : (ei xs 0 r).isSome = true ↔ r.Sublist xs := by
  constructor
  · intro h
    obtain ⟨q, hq⟩ := Option.isSome_iff_exists.mp h
    exact (ei_iff.mpr ⟨q, hq, Nat.le_refl _⟩).trans (List.take_sublist ..)
  · intro h
    obtain ⟨q, hq, _⟩ := ei_iff.mp (show r.Sublist (xs.take xs.length) by rw [List.take_length]; exact h)
    rw [hq]
    rfl
theorem parts_sub {r : List Str} : parts one two r ↔ ¬ (r.Sublist one ↔ r.Sublist two) := by
  unfold parts
  rw [ei_sub, ei_sub]
  exact not_congr ⟨fun h => by rw [h], propext⟩
theorem parts_in {r : List Str} (h : parts one two r) : r.Sublist one ∨ r.Sublist two := by
  rw [parts_sub] at h
  by_cases a : r.Sublist one
  · exact .inl a
  · by_cases b : r.Sublist two
    · exact .inr b
    · exact absurd ⟨fun z => absurd z a, fun z => absurd z b⟩ h
theorem min_names {m : List Str} (h : parts one two m) : ∀ y ∈ m, y ∈ one ++ two := fun y hy => by
  rcases parts_in h with q | q
  · exact List.mem_append_left _ (q.subset hy)
  · exact List.mem_append_right _ (q.subset hy)
theorem least_ex {P : List Str → Prop} : ∀ L : List (List Str), (∃ r ∈ L, P r) → ∃ m, P m ∧ ∀ r ∈ L, P r → m = r ∨ ltK m r
  | [], ⟨r, hr, _⟩ => by cases hr
  | a :: L, ⟨r, hr, hp⟩ => by
    by_cases hL : ∃ r ∈ L, P r
    · obtain ⟨m, h1, h2⟩ := least_ex L hL
      by_cases ha : P a ∧ ltK a m
      · refine ⟨a, ha.1, fun r hr hp => ?_⟩
        rcases List.mem_cons.mp hr with rfl | hr
        · exact .inl rfl
        · rcases h2 r hr hp with e | e
          · exact .inr (e ▸ ha.2)
          · exact .inr (ltK_tr ha.2 e)
      · refine ⟨m, h1, fun r hr hp => ?_⟩
        rcases List.mem_cons.mp hr with e | hr
        · subst e
          by_cases e : m = r
          · exact .inl e
          · rcases ltK_tot e with z | z
            · exact .inr z
            · exact absurd ⟨hp, z⟩ ha
        · exact h2 r hr hp
    · rcases List.mem_cons.mp hr with e | hr
      · subst e
        refine ⟨r, hp, fun r' hr' hp' => ?_⟩
        rcases List.mem_cons.mp hr' with e | hr'
        · exact .inl e.symm
        · exact absurd ⟨r', hr', hp'⟩ hL
      · exact absurd ⟨r, hr, hp⟩ hL
theorem min_ex {r : List Str} (h : parts one two r) : ∃ m, IsMin one two m := by
  have inL : ∀ r, parts one two r → r ∈ (List.range (one.length + two.length + 1)).flatMap (everyL (one ++ two)) := fun r hr => by
    refine List.mem_flatMap.mpr ⟨r.length, ?_, mem_everyL.mpr ⟨rfl, min_names hr⟩⟩
    rw [List.mem_range]
    rcases parts_in hr with q | q
    · have := q.length_le; omega
    · have := q.length_le; omega
  obtain ⟨m, h1, h2⟩ := least_ex (P := parts one two) _ ⟨r, inL r h, h⟩
  exact ⟨m, h1, fun r hr => h2 r (inL r hr) hr⟩
end
end VS
namespace VS
open PySem PySem.Spec PyProof.Rows L2 SX
local macro_rules | `(tactic| walk_at "mono") => `(tactic| repeat' (with_reducible first
  | exact mO_nil | apply mO_sl | apply mO_ex | exact mB_none | apply mB_some
  | exact vNext_mono | apply vSeq_mono | apply vAsg_mono | apply vPure_mono | exact vC_mono | exact vVar_mono | exact vMv_mono | apply vCmpT_mono | apply vCmpIx_mono | apply vIfS_mono | apply vRet_mono | apply vDrop_mono | apply vCall_mono
  | apply vFz_mono | apply vAsgT_mono | apply gSubD_mono | exact gN_mono | apply gT_mono | apply gsCons_mono | exact gsNil_mono | apply vAnd_mono | apply vOr_mono | apply vNot_mono | apply vTru_mono | apply vTup_mono | apply vLst_mono
  | apply vFor_mono | apply vWhile_mono | apply vPar_mono | apply vLc_mono | apply vDc_mono | exact vYes_mono | apply vMth_mono | apply vMthI_mono | apply vSl_mono | apply vAug_mono | apply vTest_mono | apply vChain_mono | apply vIf_mono | apply vAndV_mono | apply vOrV_mono | apply vNotV_mono | apply vDisp_mono
  | apply vBool_mono | apply vIsB_mono | exact vNewD_mono | exact vBreak_mono | exact vCont_mono | exact vNever_mono | exact vRetN_mono | exact CDr_mono | exact CPu_mono | apply arrC_mono
  | apply vLockE_mono | apply vDispT_mono | apply vTupS_mono | apply vLstS_mono | exact mL_nil | apply mL_cons))
/-! ## sorted of a set of texts: steps -/
@[simp ↓] theorem s_sx {vs : List Nat} {ops : List Opd} {itf : Itf} {g : DG} {b : DT} {e : DE} {E : XP} {c : Cf} {Q : DK} : vSx vs ops itf g b e E c Q = evOps ops E c fun ts c1 => ob (opsO ops c1 ts) fun dl => ob (itf dl) fun items =>
  vSxL vs (keepOps ops c1) g b e items [] (hide vs c1).1 fun l c2 => l.length < 64 ∧ Q (.own .lst (((srtL leS l).map D.str).map O.fz)) (restore vs (hide vs c1).2 c2) := rfl
theorem addS_len {l : List Str} {x : Str} : (addS l x).length ≤ l.length + 1 := by
  unfold addS
  split <;> simp
theorem addS_mem {l : List Str} {x y : Str} : y ∈ addS l x ↔ y ∈ l ∨ y = x := by
  unfold addS
  split
  · rename_i h
    exact ⟨.inl, fun q => q.elim id fun e => e ▸ h⟩
  · rw [List.mem_cons]
    exact or_comm
theorem addS_nd {l : List Str} {x : Str} (h : l.Nodup) : (addS l x).Nodup := by
  unfold addS
  split
  · exact h
  · rename_i hx
    exact List.nodup_cons.mpr ⟨hx, h⟩
def setL (xs : List Str) : List Str := xs.foldl addS []
theorem setL_facts : ∀ (xs l : List Str), l.Nodup → (xs.foldl addS l).Nodup ∧ (∀ y, y ∈ xs.foldl addS l ↔ y ∈ l ∨ y ∈ xs) ∧ (xs.foldl addS l).length ≤ l.length + xs.length
  | [], l, h => ⟨h, fun y => by simp, by simp⟩
  | x :: xs, l, h => by
    obtain ⟨h1, h2, h3⟩ := setL_facts xs (addS l x) (addS_nd h)
    refine ⟨h1, fun y => ?_, ?_⟩
    · show y ∈ xs.foldl addS (addS l x) ↔ _
      rw [h2 y, addS_mem, List.mem_cons, or_assoc]
    · have := addS_len (l := l) (x := x)
      show (xs.foldl addS (addS l x)).length ≤ _
      rw [List.length_cons]
      omega
theorem setL_mem {xs : List Str} {y : Str} : y ∈ setL xs ↔ y ∈ xs := by
  have := (setL_facts xs [] List.nodup_nil).2.1 y
  unfold setL
  simpa using this
theorem setL_nd {xs : List Str} : (setL xs).Nodup := (setL_facts xs [] List.nodup_nil).1
theorem sx_map {vs : List Nat} {kp : Cf → Prop} {g : DG} {te : DE} {k : List Str → Cf → Prop} {c : Cf} (mg : MonoG g) (me : Mono te) (f : D → Str) (hk : kp c) : ∀ {items : List D} {l : List Str}, l.length + items.length < 4095 →
    (∀ d ∈ items, g (.fz d) c fun c1 => te noX c1 fun o c3 => o = .fz (.str (f d)) ∧ dropAll vs c3 = c) → k ((items.map f).foldl addS l) c → vSxL vs kp g vYes te items l c k
  | [], l, _, _, he => ⟨hk, he⟩
  | d :: ds, l, hl, h, he => by
    refine ⟨hk, mg _ _ _ _ (fun c1 q => ?_) (h d (by simp))⟩
    show (if (true : Bool) = true then (te noX c1 fun o c3 => ∃ x, o = .fz (.str x) ∧ l.length + 1 < 4096 ∧ vSxL vs kp g vYes te ds (addS l x) (dropAll vs c3) k) else vSxL vs kp g vYes te ds l (dropAll vs c1) k)
    rw [if_pos rfl]
    refine me _ _ _ _ _ (fun _ _ _ z => z) (fun o c3 ⟨q1, q2⟩ => ?_) q
    have := addS_len (l := l) (x := f d)
    simp only [List.length_cons] at hl
    refine ⟨f d, q1, by omega, ?_⟩
    rw [q2]
    exact sx_map mg me f hk (by omega) (fun d' hd' => h d' (by simp [hd'])) he
theorem setL_asc {xs : List Str} : (srtL leS (setL xs)).Pairwise fun a b => ltN a b = true := by
  have h1 : (srtL leS (setL xs)).Pairwise fun a b => leS a b = true := srtL_pw leS leS_tot leS_tr _
  have h2 : (srtL leS (setL xs)).Nodup := (srtL_perm leS _).nodup_iff.mpr setL_nd
  refine (h1.and (List.nodup_iff_pairwise_ne.mp h2)).imp fun {a b} ⟨h, hn⟩ => ?_
  rcases ltN_tot hn with z | z
  · exact z
  · unfold leS at h
    unfold ltN at z
    simp at h z
    exact absurd z h
theorem setL_srt {xs : List Str} {y : Str} : y ∈ srtL leS (setL xs) ↔ y ∈ xs := by
  rw [(srtL_perm leS _).mem_iff, setL_mem]
/-! ## the least row that parts two logs -/
def ptD (t : List Str × Nat × Nat) : D := .nd .tup [tupS t.1, .int ((t.2.1 : Nat) - 1), .int ((t.2.2 : Nat) - 1)]
def stK (s : Nat × Nat) : List Key := [.inl ((s.1 : Nat) - 1), .inl ((s.2 : Nat) - 1)]
def seenP (ss : List (Nat × Nat)) : O := .own (.dT (ss.map stK)) (ss.map fun _ => .fz (.bl true))
theorem stK_inj {a b : Nat × Nat} : stK a = stK b ↔ a = b := by
  constructor
  · intro h
    unfold stK at h
    simp only [List.cons.injEq, Sum.inl.injEq, and_true] at h
    exact Prod.ext (by omega) (by omega)
  · exact fun h => by rw [h]
theorem hasK_st {ss : List (Nat × Nat)} {s : Nat × Nat} : hasK (ss.map stK) (stK s) = decide (s ∈ ss) := by
  induction ss with
  | nil => rfl
  | cons y L ih =>
    rw [List.map_cons, hasK_cons, ih, Bool.eq_iff_iff]
    simp [stK_inj]
    exact ⟨fun q => q.imp Eq.symm id, fun q => q.imp Eq.symm id⟩
theorem putO_st {ss : List (Nat × Nat)} {s : Nat × Nat} (h : s ∉ ss) : putO .dT (ss.map stK) (ss.map fun _ => .fz (.bl true)) (stK s) (.fz (.bl true)) = seenP (ss ++ [s]) := by
  rw [putO_eq, hasK_st]
  simp only [h, decide_false, if_false, Bool.false_eq_true]
  simp [seenP]
theorem bfm_snoc {one two : List Str} {n : Nat} {pend : List Pd} {later : List (List Str × Nat × Nat)} {seen : List (Nat × Nat)} {s : Nat × Nat} (h : BFm one two n pend later (s :: seen)) : BFm one two n pend later (seen ++ [s]) :=
  ⟨h.row, h.pasc, h.lrow, h.lasc, h.before, fun s' hs' => h.seen s' (by simpa [or_comm] using hs'), h.min⟩
theorem seen_len {ss : List (Nat × Nat)} {a b : Nat} (h : ss.Nodup) (hb : ∀ s ∈ ss, s.1 ≤ a ∧ s.2 ≤ b) : ss.length ≤ (a + 1) * (b + 1) := by
  have := nd_len (m := (List.range (a + 1)).flatMap fun i => (List.range (b + 1)).map fun j => (i, j)) h fun s hs => by
    have := hb s hs
    exact List.mem_flatMap.mpr ⟨s.1, by simp; omega, List.mem_map.mpr ⟨s.2, by simp; omega, rfl⟩⟩
  refine Nat.le_trans this ?_
  rw [List.length_flatMap]
  simp [List.map_const', List.sum_replicate_nat]
theorem good_pt {t : List Str × Nat × Nat} (h : ∀ x ∈ t.1, PyData.strOk x = true) (h1 : t.2.1 ≤ 1000000) (h2 : t.2.2 ≤ 1000000) : good (ptD t) = true := by
  have g1 := good_tup h
  show goods _ = true
  rw [goods_iff]
  intro d hd
  simp only [List.mem_cons, List.not_mem_nil, or_false] at hd
  rcases hd with rfl | rfl | rfl
  · exact g1
  · simp [good]; omega
  · simp [good]; omega
theorem ne_lst0 {o : O} {l : List D} (hv : o.view = .nd .lst l) (h : goods l = true) (hd : (pd (.nd .lst l)).depth ≤ 64) : bfNe [o, .own .lst []] = some (.fz (.bl (!decide (l = [])))) := by
  have e2 := shP_good (d := .nd .lst l) h hd
  have e3 : shPD (.nd .lst []) = some (.list []) := rfl
  have key : bfNe [o, .own .lst []] = (shPD o.view).bind fun p => (shPD (.nd .lst [])).map fun q => .fz (.bl (!(PyData.eqv p q))) := by
    cases o with
    | fz d =>
      change d = _ at hv
      subst hv
      rfl
    | own t os => rfl
  rw [key, hv, e2, e3]
  simp only [Option.bind_some, Option.map_some, pd, pds]
  cases l with
  | nil => rfl
  | cons a l => rfl
theorem ei_len {xs r : List Str} {p : Nat} (h : ei xs 0 r = some p) : r.Sublist xs ∧ p ≤ xs.length := by
  refine ⟨ei_sub.mp (by rw [h]; rfl), ?_⟩
  rcases (ei_le h).2 with z | z
  · subst z
    cases h
    exact Nat.zero_le _
  · exact z
theorem pt_depth {t : List Str × Nat × Nat} : (pd (ptD t)).depth ≤ 2 := by
  have h := pd_depth_tup (r := t.1)
  simp only [ptD, pd, pds, PyData.depth, PyData.depthAll]
  omega
@[simp] theorem ne_bl {a b : Bool} : bfNe [.fz (.bl a), .fz (.bl b)] = some (.fz (.bl (a != b))) := by cases a <;> cases b <;> rfl
theorem isn_opt {f : Bool → Bool} {a : Option Nat} : bfIsN f [optI a, .non] = some (.fz (.bl (f a.isNone))) := by cases a <;> rfl
theorem getK_st {ss : List (Nat × Nat)} {s : Nat × Nat} : (getK ((ss.map stK).zip (ss.map fun _ => D.bl true)) (stK s)).isSome = decide (s ∈ ss) := by
  induction ss with
  | nil => rfl
  | cons y L ih =>
    rw [List.map_cons, List.map_cons, List.zip_cons_cons, getK_cons]
    by_cases e : y = s
    · subst e
      simp
    · rw [if_neg (fun z => e (stK_inj.mp z)), ih]
      simp [List.mem_cons]
      exact fun z => absurd z.symm e
theorem in_st {f : Bool → Bool} {ss : List (Nat × Nat)} {j k : Nat} : bfIn f [.nd .tup [.int (j : Nat), .int (k : Nat)], (seenP ss).sh] = some (.fz (.bl (f (decide ((j + 1, k + 1) ∈ ss))))) := by
  have e : stK (j + 1, k + 1) = [.inl (j : Int), .inl (k : Int)] := by
    unfold stK
    simp
  have e2 : (seenP ss).sh = .nd (.dT (ss.map stK)) (ss.map fun _ => .bl true) := by
    unfold seenP
    rw [sh_own, List.map_map]
    rfl
  rw [e2, ← getK_st, e]
  rfl
def F_parting (ds : List D) (R : O → Prop) : Prop := ∃ d1 xs d2 ys, ds = [d1, d2] ∧ Seq d1 xs ∧ Seq d2 ys ∧ (∀ x ∈ xs, isNm x = true) ∧ (∀ x ∈ ys, isNm x = true) ∧ xs.length ≤ 1000 ∧ ys.length ≤ 1000 ∧ (setL (xs ++ ys)).length < 64 ∧
  R = fun o => (∃ m, IsMin xs ys m ∧ o = .fz (tupS m)) ∨ ((∀ r, ¬ parts xs ys r) ∧ o = .fz .non)
abbrev C_parting_row := CPu F_parting
def T_parting_row : DS := (vSeq (vDrop (vCall C_need_log [] [Opd.ex (vVar 0)])) (vSeq (vDrop (vCall C_need_log [] [Opd.ex (vVar 1)])) (vSeq (vAsg 2 (vSx [9] [Opd.ex (vFz (vLstS [(true, vFz (vVar 0)), (true, vFz (vVar 1))]))] itAny (gN 9) vYes (vPure [Opd.sl 9] (bfD bfStr)))) (vSeq (vPar [3, 4] [Opd.ex (vLst [Opd.ex (vFz (vTup [Opd.ex (vFz (vTup [])), Opd.ex (vFz (vPure [Opd.ex (vC (D.int 1))] (bfD bfNeg))), Opd.ex (vFz (vPure [Opd.ex (vC (D.int 1))] (bfD bfNeg)))]))]), Opd.ex (vDispT (Opd.ex (vFz (vTup [Opd.ex (vFz (vPure [Opd.ex (vC (D.int 1))] (bfD bfNeg))), Opd.ex (vFz (vPure [Opd.ex (vC (D.int 1))] (bfD bfNeg)))]))) (Opd.ex (vFz (vC (D.bl true)))))]) (vSeq (vWhile (vCmpT [Opd.sl 3, Opd.ex (vLst [])] bfNe) (vSeq (vAsg 5 (vLst [])) (vSeq (vFor [Opd.ex (vVar 3)] itAny (gT 3 (gsCons (gN 6) (gsCons (gN 7) (gsCons (gN 8) gsNil)))) (vSeq (vFor [Opd.ex (vVar 2)] itAny (gN 9) (vSeq (vPar [10, 11] [Opd.ex (vCall C_place_behind [] [Opd.ex (vVar 0), Opd.ex (vVar 9), Opd.ex (vVar 7)]), Opd.ex (vCall C_place_behind [] [Opd.ex (vVar 1), Opd.ex (vVar 9), Opd.ex (vVar 8)])]) (vSeq (vIfS (vCmpT [Opd.ex (vPure [Opd.sl 10, Opd.ex (vC D.non)] (bfD (bfIsN fun a => a))), Opd.ex (vPure [Opd.sl 11, Opd.ex (vC D.non)] (bfD (bfIsN fun a => a)))] bfNe) (vSeq (vRet (vTupS [(true, vFz (vVar 6)), (false, vFz (vVar 9))])) vNext) vNext) (vSeq (vIfS (vAnd (vCmpT [Opd.sl 10, Opd.ex (vC D.non)] (bfD (bfIsN fun x => !x))) (vCmpT [Opd.ex (vTup [Opd.ex (vVar 10), Opd.ex (vVar 11)]), Opd.sl 4] (bfD (bfIn fun x => !x)))) (vSeq (vAsgT (gSubD 4 (Opd.ex (vTup [Opd.ex (vVar 10), Opd.ex (vVar 11)]))) (vC (D.bl true))) (vSeq (vDrop (vMth (methOf (("append" : Str))) (Opd.sl 5) [Opd.ex (vFz (vTup [Opd.ex (vFz (vTupS [(true, vFz (vVar 6)), (false, vFz (vVar 9))])), Opd.ex (vVar 10), Opd.ex (vVar 11)]))])) vNext)) vNext) vNext)))) vNext)) (vSeq (vAsg 3 (vVar 5)) vNext)))) (vSeq (vRet (vC D.non)) vNext))))))
theorem k_parting : Keeps 12 2 [2, 3, 4, 5, 6, 7, 8, 9, 10, 11] T_parting_row C_parting_row := by
  refine .of (fun E os Q Z ⟨ds, R, e, ⟨d1, xs, d2, ys, e1, hs1, hs2, hx, hy, hl1, hl2, h64, e2⟩, hQ⟩ rt nx ex => ?_) rfl
  subst e e1 e2
  have hxk : ∀ x ∈ xs, PyData.strOk x = true := fun x q => isNm_ok (hx x q)
  have hyk : ∀ x ∈ ys, PyData.strOk x = true := fun x q => isNm_ok (hy x q)
  obtain ⟨S, hS⟩ : ∃ S, S = srtL leS (setL (xs ++ ys)) := ⟨_, rfl⟩
  simp [T_parting_row, startC, hs1.nb, hs2.nb]
  refine pure_of (ds := [d1]) rfl ⟨d1, xs, rfl, hs1, hx, rfl⟩ fun r hr => ?_
  subst hr
  simp [hs1.nb, hs2.nb]
  refine pure_of (ds := [d2]) rfl ⟨d2, ys, rfl, hs2, hy, rfl⟩ fun r hr => ?_
  subst hr
  have sq : ∀ {d : D} {l : List Str}, Seq d l → seqOf d = some (l.map .str) := fun h => by cases h <;> rfl
  have hv : O.views ((xs.map D.str ++ ys.map D.str).map O.fz) = (xs ++ ys).map D.str := by rw [O.views_fz, List.map_append]
  simp only [List.map_append] at hv
  simp [hs1.nb, hs2.nb, sq hs1, sq hs2, -List.map_map, -List.map_append]
  refine ⟨by omega, ?_⟩
  have hitems : List.map D.str xs ++ List.map D.str ys = (xs ++ ys).map D.str := by rw [List.map_append]
  rw [hitems]
  refine sx_map (by walk_at "mono") (by walk_at "mono") (fun d => match d with | .str y => y | _ => ⟨#[]⟩) (by simp [keepOps]) (by simp; omega) ?_ ?_
  · intro d hd
    obtain ⟨y, hy, rfl⟩ := List.mem_map.mp hd
    have : bfStr [.str y] = some (.fz (.str y)) := rfl
    simp [this]
  have hset : (List.map (fun d => match d with | D.str y => y | _ => (⟨#[]⟩ : Str)) ((xs ++ ys).map D.str)).foldl addS [] = setL (xs ++ ys) := by
    rw [List.map_map, setL]
    congr 1
    exact List.map_id _
  rw [hset]
  refine ⟨h64, ?_⟩
  rw [← hS]
  have hkey : tkeyOf (mkT [O.fz (D.int (-1)), O.fz (D.int (-1))]).view = some (stK (0, 0)) := rfl
  simp [hkey]
  have hmn : ∀ m, IsMin xs ys m → ∀ y ∈ m, y ∈ S := fun m hm y hy => by rw [hS, setL_srt]; exact min_names hm.1 y hy
  have hSa : S.Pairwise fun a b => ltN a b = true := by rw [hS]; exact setL_asc
  have hSk : ∀ y ∈ S, PyData.strOk y = true := fun y q => by
    rw [hS, setL_srt] at q
    rcases List.mem_append.mp q with z | z
    · exact hxk y z
    · exact hyk y z
  have nbs : ∀ ss, isBad (seenP ss) = false := fun _ => rfl
  refine whilec (by walk_at "mono") (fun m c => ∃ (n : Nat) (layer : List (List Str × Nat × Nat)) (seen : List (Nat × Nat)) (o2 o3 x5 x6 x7 x8 x9 x10 x11 : O), c = [.fz d1, .fz d2, o2, o3, seenP seen, x5, x6, x7, x8, x9, x10, x11] ∧ BF xs ys n layer seen ∧ m = xs.length + 1 - n ∧
    isBad o2 = false ∧ o2.view = .nd .lst (S.map .str) ∧ isBad o3 = false ∧ o3.view = .nd .lst (layer.map ptD) ∧ seen.Nodup ∧ (∀ s ∈ seen, s.1 ≤ xs.length ∧ s.2 ≤ ys.length) ∧ layer.length ≤ seen.length) _ ⟨0, [([], 0, 0)], [(0, 0)], _, _, _, _, _, _, _, _, _, rfl, bf_begin, rfl, rfl, by rw [O.view, O.views_eq, List.map_map]; rfl, rfl, rfl, by simp, by simp, by simp⟩ ?_
  rintro K m c hK ⟨n, layer, seen, o2, o3, x5, x6, x7, x8, x9, x10, x11, rfl, hbf, rfl, hb2, hv2, hb3, hv3, hnd, hbd, hll⟩
  have hsl : seen.length ≤ 1002001 := by
    refine Nat.le_trans (seen_len hnd hbd) ?_
    exact Nat.mul_le_mul (show xs.length + 1 ≤ 1001 by omega) (show ys.length + 1 ≤ 1001 by omega)
  have hrow : ∀ t ∈ layer, t.1.Sublist xs ∧ t.2.1 ≤ xs.length ∧ t.2.2 ≤ ys.length := fun t ht => by
    obtain ⟨_, r1, r2⟩ := hbf.row t ht
    exact ⟨(ei_len r1).1, (ei_len r1).2, (ei_len r2).2⟩
  have hne : bfNe [o3, .own .lst []] = some (.fz (.bl (!decide (layer = [])))) := by
    have e := ne_lst0 (o := o3) hv3 (by
      rw [goods_iff]
      intro d hd
      obtain ⟨t, ht, rfl⟩ := List.mem_map.mp hd
      obtain ⟨r1, r2, r3⟩ := hrow t ht
      exact good_pt (fun x hx => hxk x (r1.subset hx)) (by omega) (by omega)) (by
      have := depth_rows (n := 2) (l := layer.map ptD) fun d hd => by
        obtain ⟨t, _, rfl⟩ := List.mem_map.mp hd
        exact pt_depth
      simp only [pd, PyData.depth]
      omega)
    rw [e]
    simp
  simp [hne, hb3]
  refine brW_of (fun h => ?_) (fun h => ?_)
  · simp at h
    simp [hb3, hv3]
    refine forc (by walk_at "mono") (by walk_at "mono") (fun ds c => ∃ (pre suf later : List (List Str × Nat × Nat)) (seen2 : List (Nat × Nat)) (o2 x6 x7 x8 x9 x10 x11 : O), layer = pre ++ suf ∧ ds = suf.map ptD ∧
      c = [.fz d1, .fz d2, o2, .fz (.nd .lst (layer.map ptD)), seenP seen2, .own .lst (later.map fun t => .fz (ptD t)), x6, x7, x8, x9, x10, x11] ∧ BFm xs ys n (suf.flatMap fun t => S.map fun y => (t, y)) later seen2 ∧ isBad o2 = false ∧ o2.view = .nd .lst (S.map .str) ∧
      seen2.Nodup ∧ (∀ s ∈ seen2, s.1 ≤ xs.length ∧ s.2 ≤ ys.length) ∧ later.length ≤ seen2.length) ⟨[], layer, [], seen, o2, x6, x7, x8, x9, x10, x11, rfl, rfl, by simp [hv3], bfm_begin hSa hmn hbf, hb2, hv2, hnd, hbd, by simp⟩ ?_ ?_
    · rintro K2 d' ds' c hK2 ⟨pre, suf, later, seen2, o2, x6, x7, x8, x9, x10, x11, hl, hd, rfl, hm, hb2, hv2, hnd, hbd, hll⟩
      cases suf with
      | nil => cases hd
      | cons t suf =>
        cases hd
        have ht : t ∈ layer := by rw [hl]; simp
        obtain ⟨hlen, hp1, hp2⟩ := hbf.row t ht
        obtain ⟨r1, r2, r3⟩ := hrow t ht
        have ept : ptD t = .nd .tup [tupS t.1, .int ((t.2.1 : Nat) - 1), .int ((t.2.2 : Nat) - 1)] := rfl
        simp [keepOps, ept, hb2, hv2]
        refine forc (by walk_at "mono") (by walk_at "mono") (fun ds c => ∃ (sp ss : List Str) (later : List (List Str × Nat × Nat)) (seen2 : List (Nat × Nat)) (x9 x10 x11 : O), S = sp ++ ss ∧ ds = ss.map .str ∧
          c = [.fz d1, .fz d2, .fz (.nd .lst (S.map .str)), .fz (.nd .lst (layer.map ptD)), seenP seen2, .own .lst (later.map fun t => .fz (ptD t)), .fz (tupS t.1), .fz (.int ((t.2.1 : Nat) - 1)), .fz (.int ((t.2.2 : Nat) - 1)), x9, x10, x11] ∧
          BFm xs ys n ((ss.map fun y => (t, y)) ++ suf.flatMap fun t => S.map fun y => (t, y)) later seen2 ∧ seen2.Nodup ∧ (∀ s ∈ seen2, s.1 ≤ xs.length ∧ s.2 ≤ ys.length) ∧ later.length ≤ seen2.length) ⟨[], S, later, seen2, x9, x10, x11, rfl, rfl, by simp [hv2], by simpa using hm, hnd, hbd, hll⟩ ?_ ?_
        · rintro K3 d3 ds3 c hK3 ⟨sp, ss, later, seen2, x9, x10, x11, hss, hd3, rfl, hm, hnd, hbd, hll⟩
          cases ss with
          | nil => cases hd3
          | cons y ss =>
            cases hd3
            have hyS : y ∈ S := by rw [hss]; simp
            have hyok := hSk y hyS
            have hsl : seen2.length ≤ 1002001 := Nat.le_trans (seen_len hnd hbd) (Nat.mul_le_mul (show xs.length + 1 ≤ 1001 by omega) (show ys.length + 1 ≤ 1001 by omega))
            have ea : ei xs 0 (rowP (t, y)) = (pb xs y t.2.1).map (· + 1) := ei_snoc hp1
            have eb : ei ys 0 (rowP (t, y)) = (pb ys y t.2.2).map (· + 1) := ei_snoc hp2
            rw [List.map_cons, List.cons_append] at hm
            simp [keepOps, hs1.nb, hs2.nb]
            refine pure_of (ds := [d1, .str y, .int ((t.2.1 : Nat) - 1)]) rfl ⟨d1, xs, y, t.2.1, rfl, hs1, hyok, hxk, by omega, r2, rfl⟩ fun r hr => ?_
            subst hr
            simp [hs1.nb, hs2.nb]
            refine pure_of (ds := [d2, .str y, .int ((t.2.2 : Nat) - 1)]) rfl ⟨d2, ys, y, t.2.2, rfl, hs2, hyok, hyk, by omega, r3, rfl⟩ fun r hr => ?_
            subst hr
            have found : parts xs ys (rowP (t, y)) → K3 = K3 → ∃ m, IsMin xs ys m ∧ tupS m = .nd .tup (t.1.map .str ++ [.str y]) := fun hp _ => by
              obtain ⟨m, hm1⟩ := min_ex hp
              refine ⟨m, hm1, ?_⟩
              rw [bfm_found hm hp hm1]
              simp [tupS, rowP]
            have hlt : t.1.length ≤ 1000 := by have := r1.length_le; omega
            have nbI : ∀ a, isBad (.fz (optI a)) = false := fun a => by cases a <;> rfl
            simp [isn_opt]
            cases hA : pb xs y t.2.1 with
            | none => 
              rw [hA] at ea
              cases hB : pb ys y t.2.2 with
              | none =>
                rw [hB] at eb
                have isN : bfIsN (fun x => !x) [optI none, .non] = some (.fz (.bl false)) := rfl
                simp [isN, nbI]
                exact hK3 _ ⟨sp ++ [y], ss, later, seen2, _, _, _, by rw [hss]; simp, rfl, rfl, bfm_none hm ea eb, hnd, hbd, hll⟩
              | some k =>
                rw [hB] at eb
                have hp : parts xs ys (rowP (t, y)) := by unfold parts; rw [ea, eb]; simp
                obtain ⟨m, hm1, hm2⟩ := found hp rfl
                simp [tupS, seqOf, nbI]
                refine ⟨by omega, rt _ _ (hQ _ (.inl ⟨m, hm1, by rw [hm2]⟩))⟩
            | some j =>
              rw [hA] at ea
              cases hB : pb ys y t.2.2 with
              | none =>
                rw [hB] at eb
                have hp : parts xs ys (rowP (t, y)) := by unfold parts; rw [ea, eb]; simp
                obtain ⟨m, hm1, hm2⟩ := found hp rfl
                simp [tupS, seqOf, nbI]
                refine ⟨by omega, rt _ _ (hQ _ (.inl ⟨m, hm1, by rw [hm2]⟩))⟩
              | some k =>
                rw [hB] at eb
                have isN : bfIsN (fun x => !x) [.int (j : Nat), .non] = some (.fz (.bl true)) := rfl
                have in2 := in_st (f := fun x => !x) (ss := seen2) (j := j) (k := k)
                simp [isN, optI, nbs, mkT, in2]
                have ea' : ei xs 0 (rowP (t, y)) = some (j + 1) := ea
                have eb' : ei ys 0 (rowP (t, y)) = some (k + 1) := eb
                have hj := (ei_len ea').2
                have hk := (ei_len eb').2
                refine brS_of (fun h2 => ?_) (fun h2 => ?_)
                · simp at h2
                  have tk : tkeyOf (.nd .tup [.int (j : Nat), .int (k : Nat)]) = some (stK (j + 1, k + 1)) := by
                    have e : stK (j + 1, k + 1) = [.inl (j : Int), .inl (k : Int)] := by
                      unfold stK
                      simp
                    rw [e]
                    rfl
                  have st : stO (seenP seen2) (.nd .tup [.int (j : Nat), .int (k : Nat)]) (.fz (.bl true)) = some (seenP (seen2 ++ [(j + 1, k + 1)])) := by
                    rw [seenP, stO_dT, tk, Option.bind_some, if_pos (by simp; omega), putO_st h2]
                  have hl2 : later.length < 16777216 := by omega
                  simp [mkT, nbs, st, tupS, seqOf]
                  refine ⟨by omega, ?_⟩
                  rw [append_of (by simp; omega)]
                  have ep : ptD (rowP (t, y), j + 1, k + 1) = .nd .tup [.nd .tup (t.1.map .str ++ [.str y]), .int (j : Nat), .int (k : Nat)] := by
                    simp [ptD, rowP, tupS]
                  have el : (later.map fun t => O.fz (ptD t)) ++ [O.fz (.nd .tup [.nd .tup (t.1.map .str ++ [.str y]), .int (j : Nat), .int (k : Nat)])] = (later ++ [(rowP (t, y), j + 1, k + 1)]).map fun t => O.fz (ptD t) := by
                    rw [List.map_append, ← ep]
                    rfl
                  rw [el]
                  refine hK3 _ ⟨sp ++ [y], ss, later ++ [(rowP (t, y), j + 1, k + 1)], seen2 ++ [(j + 1, k + 1)], _, _, _, by rw [hss]; simp, rfl, rfl, bfm_snoc (bfm_new hm ea' eb'), ?_, fun s hs => ?_, by simp; omega⟩
                  · rw [List.nodup_append]
                    exact ⟨hnd, by simp, fun a ha b hb => by simp at hb; subst hb; exact fun e => h2 (e ▸ ha)⟩
                  · rcases List.mem_append.mp hs with z | z
                    · exact hbd s z
                    · simp at z
                      subst z
                      exact ⟨hj, hk⟩
                · simp at h2
                  simp
                  exact hK3 _ ⟨sp ++ [y], ss, later, seen2, _, _, _, by rw [hss]; simp, rfl, rfl, bfm_seen hm ea' eb' h2, hnd, hbd, hll⟩
        · rintro c ⟨sp, ss, later, seen2, x9, x10, x11, hss, hd3, rfl, hm, hnd, hbd, hll⟩
          have : ss = [] := by cases ss with
            | nil => rfl
            | cons _ _ => cases hd3
          subst this
          simp [keepOps]
          exact hK2 _ ⟨pre ++ [t], suf, later, seen2, .fz (.nd .lst (S.map .str)), _, _, _, _, _, _, by rw [hl]; simp, rfl, rfl, by simpa using hm, rfl, rfl, hnd, hbd, hll⟩
    · rintro c ⟨pre, suf, later, seen2, o2, x6, x7, x8, x9, x10, x11, hl, hd, rfl, hm, hb2, hv2, hnd, hbd, hll⟩
      have : suf = [] := by cases suf with
        | nil => rfl
        | cons _ _ => cases hd
      subst this
      simp [keepOps]
      have hnl : n ≤ xs.length := by
        cases layer with
        | nil => exact absurd rfl h
        | cons t l =>
          obtain ⟨q1, _, _⟩ := hbf.row t (by simp)
          have := (hrow t (by simp)).1.length_le
          omega
      refine hK (xs.length + 1 - (n + 1)) _ (by omega) ⟨n + 1, later, seen2, o2, _, _, _, _, _, _, _, _, rfl, bfm_end hm, rfl, hb2, hv2, rfl, ?_, hnd, hbd, hll⟩
      simp
  · simp at h
    subst h
    simp
    refine rt _ _ (hQ _ (.inr ⟨fun r hr => ?_, rfl⟩))
    obtain ⟨m, hm⟩ := min_ex hr
    exact bf_none hbf hm
def F_greatest (ds : List D) (R : O → Prop) : Prop := ∃ d1 xs d2 ys, ds = [d1, d2] ∧ Seq d1 xs ∧ Seq d2 ys ∧ (∀ x ∈ xs, isNm x = true) ∧ (∀ x ∈ ys, isNm x = true) ∧ xs.length ≤ 1000 ∧ ys.length ≤ 1000 ∧ (setL (xs ++ ys)).length < 64 ∧
  R = fun o => (∃ m, IsMin xs ys m ∧ o = .fz (.int ((m.length : Nat) - 1))) ∨ ((∀ r, ¬ parts xs ys r) ∧ o = .fz .non)
abbrev C_greatest_k := CPu F_greatest
def T_greatest_k : DS := (vSeq (vAsg 2 (vCall C_parting_row [] [Opd.ex (vVar 0), Opd.ex (vVar 1)])) (vSeq (vRet (vIf (vCmpT [Opd.sl 2, Opd.ex (vC D.non)] (bfD (bfIsN fun a => a))) (vC D.non) (vPure [Opd.ex (vPure [Opd.sl 2] (bfD bfLen)), Opd.ex (vC (D.int 1))] (bfD (bfII tt2 fun i j => D.int (i - j)))))) vNext))
theorem k_greatest : Keeps 3 2 [2] T_greatest_k C_greatest_k := by
  refine .of (fun E os Q Z ⟨ds, R, e, ⟨d1, xs, d2, ys, e1, hs1, hs2, hx, hy, hl1, hl2, h64, e2⟩, hQ⟩ rt nx ex => ?_) rfl
  subst e e1 e2
  simp [T_greatest_k, startC, hs1.nb, hs2.nb]
  refine pure_of (ds := [d1, d2]) rfl ⟨d1, xs, d2, ys, rfl, hs1, hs2, hx, hy, hl1, hl2, h64, rfl⟩ fun r hr => ?_
  rcases hr with ⟨m, hm, rfl⟩ | ⟨hn, rfl⟩
  · have i1 : bfIsN (fun a => a) [tupS m, .non] = some (.fz (.bl false)) := rfl
    have i2 : bfLen [tupS m] = some (.fz (.int (m.length : Nat))) := by simp [tupS]
    have nb : isBad (.fz (tupS m)) = false := rfl
    simp [i1, i2, nb]
    exact rt _ _ (hQ _ (.inl ⟨m, hm, rfl⟩))
  · have i1 : bfIsN (fun a => a) [.non, .non] = some (.fz (.bl true)) := rfl
    simp [i1]
    exact rt _ _ (hQ _ (.inr ⟨hn, rfl⟩))
end VS
namespace VS
open PySem PySem.Spec PyProof.Rows L2 SX
local macro_rules | `(tactic| walk_at "mono") => `(tactic| repeat' (with_reducible first
  | exact mO_nil | apply mO_sl | apply mO_ex | exact mB_none | apply mB_some
  | exact vNext_mono | apply vSeq_mono | apply vAsg_mono | apply vPure_mono | exact vC_mono | exact vVar_mono | exact vMv_mono | apply vCmpT_mono | apply vCmpIx_mono | apply vIfS_mono | apply vRet_mono | apply vDrop_mono | apply vCall_mono
  | apply vFz_mono | apply vAsgT_mono | apply gSubD_mono | exact gN_mono | apply gT_mono | apply gsCons_mono | exact gsNil_mono | apply vAnd_mono | apply vOr_mono | apply vNot_mono | apply vTru_mono | apply vTup_mono | apply vLst_mono
  | apply vFor_mono | apply vWhile_mono | apply vPar_mono | apply vLc_mono | apply vDc_mono | exact vYes_mono | apply vMth_mono | apply vMthI_mono | apply vSl_mono | apply vAug_mono | apply vTest_mono | apply vChain_mono | apply vIf_mono | apply vAndV_mono | apply vOrV_mono | apply vNotV_mono | apply vDisp_mono
  | apply vBool_mono | apply vIsB_mono | exact vNewD_mono | exact vBreak_mono | exact vCont_mono | exact vNever_mono | exact vRetN_mono | exact CDr_mono | exact CPu_mono | apply arrC_mono
  | apply vLockE_mono | apply vDispT_mono | apply vTupS_mono | apply vLstS_mono | exact mL_nil | apply mL_cons))
/-! ## law k12 -/
def F__law_near (ds : List D) (b : Nat) (R : O → Prop) : Prop := ∃ ns xs : List Str, ds = [.nd .lst (ns.map .str), .nd .lst (xs.map .str)] ∧ ns ≠ [] ∧ ns.length ≤ 1000 ∧ xs.length ≤ 1000 ∧ b = 100 ∧ R = fun o => ∃ zs : List Str, o = .own .lst (zs.map fun y => .fz (.str y)) ∧ zs.length ≤ xs.length + 6 ∧ ∀ y ∈ zs, y ∈ ns ∨ y ∈ xs
abbrev C__law_near := CDr F__law_near
def T__law_near : DS := (vSeq (vAsg 3 (vPure [Opd.sl 2] (bfD bfList))) (vSeq (vFor [Opd.ex (vCall C__law_pick [] [Opd.sl 0, Opd.ex (vFz (vLst [Opd.ex (vC (D.int 0)), Opd.ex (vC (D.int 1)), Opd.ex (vC (D.int 1)), Opd.ex (vC (D.int 2)), Opd.ex (vC (D.int 3))]))])] itRng1 (gN 4) (vSeq (vPar [5, 6] [Opd.ex (vCall C__law_take [] [Opd.sl 0, Opd.ex (vC (D.int 5))]), Opd.ex (vCall C__law_take [] [Opd.sl 0, Opd.ex (vFz (vPure [Opd.ex (vPure [Opd.sl 3] (bfD bfLen)), Opd.ex (vC (D.int 1))] (bfD bfAdd)))])]) (vSeq (vIfS (vCmpT [Opd.sl 5, Opd.ex (vC (D.int 0))] bfEq) (vSeq (vAsg 3 (vPure [Opd.ex (vSl (Opd.sl 3) none (some (Opd.sl 6))), Opd.ex (vSl (Opd.sl 3) (some (Opd.ex (vPure [Opd.sl 6, Opd.ex (vC (D.int 1))] (bfD bfAdd)))) none)] (bfD bfAdd))) vNext) (vSeq (vIfS (vCmpT [Opd.sl 5, Opd.ex (vC (D.int 1))] bfEq) (vSeq (vAsg 3 (vPure [Opd.ex (vPure [Opd.ex (vSl (Opd.sl 3) none (some (Opd.sl 6))), Opd.ex (vLst [Opd.ex (vFz (vCall C__law_pick [] [Opd.sl 0, Opd.ex (vVar 1)]))])] (bfD bfAdd)), Opd.ex (vSl (Opd.sl 3) (some (Opd.sl 6)) none)] (bfD bfAdd))) vNext) (vSeq (vIfS (vCmpT [Opd.sl 5, Opd.ex (vC (D.int 4))] (bfD bfLt)) (vSeq (vAsg 3 (vPure [Opd.ex (vPure [Opd.ex (vSl (Opd.sl 3) none (some (Opd.sl 6))), Opd.ex (vPure [Opd.ex (vSl (Opd.sl 3) (some (Opd.sl 6)) (some (Opd.ex (vPure [Opd.sl 6, Opd.ex (vC (D.int 2))] (bfD bfAdd)))))] (bfD bfRev))] (bfD bfAdd)), Opd.ex (vSl (Opd.sl 3) (some (Opd.ex (vPure [Opd.sl 6, Opd.ex (vC (D.int 2))] (bfD bfAdd)))) none)] (bfD bfAdd))) vNext) (vSeq (vAsg 3 (vPure [Opd.ex (vPure [Opd.ex (vSl (Opd.sl 3) none (some (Opd.sl 6))), Opd.ex (vSl (Opd.sl 3) (some (Opd.sl 6)) (some (Opd.ex (vPure [Opd.sl 6, Opd.ex (vC (D.int 2))] (bfD bfAdd)))))] (bfD bfAdd)), Opd.ex (vSl (Opd.sl 3) (some (Opd.sl 6)) none)] (bfD bfAdd))) vNext)) vNext)) vNext)) vNext))) (vSeq (vRet (vMv 3)) vNext)))
theorem k_near : Keeps 7 3 [3, 4, 5, 6] T__law_near C__law_near := by
  refine .of (fun E os Q Z ⟨s, ds, n, b, R, e, ⟨ns, xs, e1, h0, h1, h2, e2, e3⟩, hk, hQ⟩ rt nx ex => ?_) rfl
  subst e e1 e2 e3
  have hli : bfList [.nd .lst (xs.map .str)] = some (.own .lst (xs.map fun x => .fz (.str x))) := Seq.lst.list
  simp [T__law_near, startC, hli]
  refine pick_ints (xs := [0, 1, 1, 2, 3]) (n := n + 99) hk (by simp) (by simp) fun s1 f k1 hf => ?_
  obtain ⟨f, rfl, hf3⟩ : ∃ g : Nat, f = g ∧ g ≤ 3 := by
    refine ⟨f.toNat, ?_, ?_⟩
    · simp at hf; omega
    · simp at hf; omega
  simp [rng1n (show f < 4611686018427387904 by omega)]
  refine forn (by walk_at "mono") (by walk_at "mono") (fun i c => ∃ (s : Dr) (zs : List Str) (x4 x5 x6 : O), c = [s.O, .fz (.nd .lst (ns.map .str)), .fz (.nd .lst (xs.map .str)), .own .lst (zs.map fun y => .fz (.str y)), x4, x5, x6] ∧ s.K (n + 10 * (4 - i)) ∧ zs.length ≤ xs.length + 2 * i ∧ ∀ y ∈ zs, y ∈ ns ∨ y ∈ xs) ⟨s1, xs, _, _, _, rfl, k1.le (by omega), by omega, fun y q => .inr q⟩ ?_ ?_
  · rintro K i d c hK hi ⟨s, zs, x4, x5, x6, rfl, hk, hzl, hz⟩
    have hif : i < f := by
      have := (List.getElem?_eq_some_iff.mp hi).1
      simp [rngD] at this
      omega
    generalize hn0 : n + 10 * (4 - (i + 1)) = n0
    have hk : s.K (n0 + 10) := hk.le (by omega)
    simp [keepOps]
    refine take_of (n := n0 + 9) hk (by omega) (by omega) fun s2 w k2 w1 w2 => ?_
    simp
    refine take_of (n := n0 + 8) k2 (by omega) (by omega) fun s3 r k3 r1 r2 => ?_
    obtain ⟨a, rfl⟩ : ∃ a : Nat, r = a := ⟨r.toNat, by omega⟩
    have ha : a ≤ zs.length := by omega
    have c1 : cutR (.nd .lst (zs.map .str)) none (some (a : Int)) = some (.own .lst ((zs.take a).map fun y => .fz (.str y))) := cut_strs_to
    have c2 : cutR (.nd .lst (zs.map .str)) (some ((a : Int) + 1)) none = some (.own .lst ((zs.drop (a + 1)).map fun y => .fz (.str y))) := cut_strs_from (k := a + 1)
    have c3 : cutR (.nd .lst (zs.map .str)) (some (a : Int)) none = some (.own .lst ((zs.drop a).map fun y => .fz (.str y))) := cut_strs_from (k := a)
    have c4 : cutR (.nd .lst (zs.map .str)) (some ((a : Int) + 2)) none = some (.own .lst ((zs.drop (a + 2)).map fun y => .fz (.str y))) := cut_strs_from (k := a + 2)
    have c5 : cutR (.nd .lst (zs.map .str)) (some (a : Int)) (some ((a : Int) + 2)) = some (.own .lst (((zs.drop a).take (a + 2 - a)).map fun y => .fz (.str y))) := cut_strs_mid (j := a + 2) ha
    rw [show a + 2 - a = 2 by omega] at c5
    obtain ⟨A, hA⟩ : ∃ A, A = zs.take a := ⟨_, rfl⟩
    obtain ⟨B, hB⟩ : ∃ B, B = zs.drop a := ⟨_, rfl⟩
    obtain ⟨B1, hB1⟩ : ∃ B1, B1 = zs.drop (a + 1) := ⟨_, rfl⟩
    obtain ⟨B2, hB2⟩ : ∃ B2, B2 = zs.drop (a + 2) := ⟨_, rfl⟩
    obtain ⟨M, hM⟩ : ∃ M, M = (zs.drop a).take 2 := ⟨_, rfl⟩
    have lA : A.length = a := by rw [hA, List.length_take]; omega
    have lB : B.length = zs.length - a := by rw [hB, List.length_drop]
    have lB1 : B1.length ≤ zs.length - a := by rw [hB1, List.length_drop]; omega
    have lB2 : B2.length ≤ zs.length - a := by rw [hB2, List.length_drop]; omega
    have lM : M.length ≤ 2 := by rw [hM, List.length_take]; omega
    have lM2 : M.length + B2.length ≤ zs.length - a := by rw [hM, hB2, List.length_take, List.length_drop, List.length_drop]; omega
    have mA : ∀ y ∈ A, y ∈ zs := fun y q => List.mem_of_mem_take (hA ▸ q)
    have mB : ∀ y ∈ B, y ∈ zs := fun y q => List.mem_of_mem_drop (hB ▸ q)
    have mB1 : ∀ y ∈ B1, y ∈ zs := fun y q => List.mem_of_mem_drop (hB1 ▸ q)
    have mB2 : ∀ y ∈ B2, y ∈ zs := fun y q => List.mem_of_mem_drop (hB2 ▸ q)
    have mM : ∀ y ∈ M, y ∈ zs := fun y q => List.mem_of_mem_drop (List.mem_of_mem_take (hM ▸ q))
    rw [← hA] at c1
    rw [← hB1] at c2
    rw [← hB] at c3
    rw [← hB2] at c4
    rw [← hM] at c5
    simp
    refine brS_of (fun h => ?_) (fun h => ?_)
    · have d1 := cat_strs (a := A) (b := B1) (by omega)
      simp [-cut_lst, -cat_lst, c1, c2]
      simp [-cut_lst, -cat_lst, d1]
      exact hK _ ⟨s3, A ++ B1, .fz d, .fz (.int w), .fz (.int (a : Nat)), by simp, by rw [hn0]; exact k3.le (by omega), by simp; omega, fun y q => hz y (by rcases List.mem_append.mp q with z | z; exact mA y z; exact mB1 y z)⟩
    · simp
      refine brS_of (fun h2 => ?_) (fun h2 => ?_)
      · simp [-cut_lst, -cat_lst, c1, c3]
        refine pick_strs (n := n0 + 7) k3 h0 (by omega) fun s4 y k4 hy => ?_
        have d1 := cat_str1 (a := A) (y := y) (by omega)
        have d2 := cat_strs (a := A ++ [y]) (b := B) (by simp; omega)
        obtain ⟨C, hC⟩ : ∃ C, C = A ++ [y] := ⟨_, rfl⟩
        rw [← hC] at d1 d2
        simp [-cut_lst, -cat_lst, d1, c3]
        simp [-cut_lst, -cat_lst, d2]
        refine hK _ ⟨s4, C ++ B, .fz d, .fz (.int w), .fz (.int (a : Nat)), by simp, by rw [hn0]; exact k4.le (by omega), by rw [hC]; simp; omega, fun z q => ?_⟩
        rw [hC] at q
        rcases List.mem_append.mp q with q | q
        · rcases List.mem_append.mp q with q | q
          · exact hz z (mA z q)
          · simp at q; subst q; exact .inl hy
        · exact hz z (mB z q)
      · simp
        refine brS_of (fun h3 => ?_) (fun h3 => ?_)
        · have d0 : bfRev [.nd .lst (M.map .str)] = _ := rev_strs (xs := M)
          have d1 := cat_strs (a := A) (b := M.reverse) (by simp; omega)
          have d2 := cat_strs (a := A ++ M.reverse) (b := B2) (by simp; omega)
          obtain ⟨C, hC⟩ : ∃ C, C = A ++ M.reverse := ⟨_, rfl⟩
          obtain ⟨N, hN⟩ : ∃ N, N = M.reverse := ⟨_, rfl⟩
          rw [← hC] at d1 d2
          rw [← hN] at d0 d1
          simp [-cut_lst, -cat_lst, -rev_lst, c1, c5]
          simp [-cut_lst, -cat_lst, -rev_lst, d0]
          simp [-cut_lst, -cat_lst, -rev_lst, d1, c4]
          simp [-cut_lst, -cat_lst, -rev_lst, d2]
          refine hK _ ⟨s3, C ++ B2, .fz d, .fz (.int w), .fz (.int (a : Nat)), by simp, by rw [hn0]; exact k3.le (by omega), by rw [hC]; simp; omega, fun z q => hz z ?_⟩
          rw [hC] at q
          rcases List.mem_append.mp q with q | q
          · rcases List.mem_append.mp q with q | q
            · exact mA z q
            · exact mM z (by simpa using q)
          · exact mB2 z q
        · have d1 := cat_strs (a := A) (b := M) (by omega)
          have d2 := cat_strs (a := A ++ M) (b := B) (by simp; omega)
          obtain ⟨C, hC⟩ : ∃ C, C = A ++ M := ⟨_, rfl⟩
          rw [← hC] at d1 d2
          simp [-cut_lst, -cat_lst, c1, c5]
          simp [-cut_lst, -cat_lst, d1, c3]
          simp [-cut_lst, -cat_lst, d2]
          refine hK _ ⟨s3, C ++ B, .fz d, .fz (.int w), .fz (.int (a : Nat)), by simp, by rw [hn0]; exact k3.le (by omega), by rw [hC]; simp; omega, fun z q => hz z ?_⟩
          rw [hC] at q
          rcases List.mem_append.mp q with q | q
          · rcases List.mem_append.mp q with q | q
            · exact mA z q
            · exact mM z q
          · exact mB z q
  · rintro c ⟨s, zs, x4, x5, x6, rfl, hk, hzl, hz⟩
    have hfl : (rngD 0 f 1).length = f := by simp [rngD]
    rw [hfl] at hk hzl
    simp [keepOps]
    exact rt _ _ (hQ s _ (hk.le (by omega)) ⟨zs, rfl, by omega, hz⟩)
end VS
namespace VS
open PySem PySem.Spec PyProof.Rows L2 SX
local macro_rules | `(tactic| walk_at "mono") => `(tactic| repeat' (with_reducible first
  | exact mO_nil | apply mO_sl | apply mO_ex | exact mB_none | apply mB_some
  | exact vNext_mono | apply vSeq_mono | apply vAsg_mono | apply vPure_mono | exact vC_mono | exact vVar_mono | exact vMv_mono | apply vCmpT_mono | apply vCmpIx_mono | apply vIfS_mono | apply vRet_mono | apply vDrop_mono | apply vCall_mono
  | apply vFz_mono | apply vAsgT_mono | apply gSubD_mono | exact gN_mono | apply gT_mono | apply gsCons_mono | exact gsNil_mono | apply vAnd_mono | apply vOr_mono | apply vNot_mono | apply vTru_mono | apply vTup_mono | apply vLst_mono
  | apply vFor_mono | apply vWhile_mono | apply vPar_mono | apply vLc_mono | apply vDc_mono | exact vYes_mono | apply vMth_mono | apply vMthI_mono | apply vSl_mono | apply vAug_mono | apply vTest_mono | apply vChain_mono | apply vIf_mono | apply vAndV_mono | apply vOrV_mono | apply vNotV_mono | apply vDisp_mono
  | apply vBool_mono | apply vIsB_mono | exact vNewD_mono | exact vBreak_mono | exact vCont_mono | exact vNever_mono | exact vRetN_mono | exact CDr_mono | exact CPu_mono | apply arrC_mono
  | apply vLockE_mono | apply vDispT_mono | apply vTupS_mono | apply vLstS_mono | exact mL_nil | apply mL_cons))
/-! ## rows in order -/
theorem alikeAll_strs : ∀ a b : List Str, PySem.W.alikeAll (a.map .str) (b.map .str) = true
  | [], _ => by simp [PySem.W.alikeAll]
  | _ :: _, [] => by simp [PySem.W.alikeAll]
  | x :: a, y :: b => by
    show PySem.W.alikeAll (.str x :: a.map .str) (.str y :: b.map .str) = true
    rw [PySem.W.alikeAll, alikeAll_strs a b]
    simp [PySem.W.alike]
theorem dataLt_rows : ∀ a b : List Str, PyProof.Rows.lexLt PyProof.Rows.itemOrd (PySem.W.keyToksAll (a.map .str)) (PySem.W.keyToksAll (b.map .str)) = ltR a b
  | [], [] => by rfl
  | [], _ :: _ => rfl
  | _ :: _, [] => rfl
  | x :: a, y :: b => by
    rw [List.map_cons, List.map_cons, PySem.W.dataLt_cons (by simp [PySem.W.alike]), dataLt_rows a b, PySem.W.dataLt_str, ltR]
    simp only [PyData.eqv, beq_iff_eq]
    rfl
def lstD (r : List Str) : D := .nd .tup [.int (r.length : Nat), tupS r]
def ltKb (a b : List Str) : Bool := if a.length = b.length then ltR a b else decide (a.length < b.length)
theorem ltKb_iff {a b : List Str} : ltKb a b = true ↔ ltK a b := by
  unfold ltKb ltK
  split
  · rename_i h
    exact ⟨fun q => .inr ⟨h, q⟩, fun q => q.elim (fun z => by omega) fun z => z.2⟩
  · rename_i h
    rw [decide_eq_true_eq]
    exact ⟨.inl, fun q => q.elim id fun z => absurd z.1 h⟩
theorem pd_lst {r : List Str} : pd (lstD r) = .tuple [.int (r.length : Nat), .tuple (r.map .str)] := by
  simp [lstD, pd, pds, tupS, pds_strs]
theorem dataLt_lst {a b : List Str} : PySem.W.dataLt (pd (lstD a)) (pd (lstD b)) = ltKb a b := by
  rw [pd_lst, pd_lst, PySem.W.dataLt_pair (by simp [PySem.W.alike]) (by simp [PySem.W.alike, alikeAll_strs]), PySem.W.dataLt_int, PySem.W.dataLt_tuple, dataLt_rows]
  unfold ltKb
  simp only [PyData.eqv, beq_iff_eq, eqv_strs, decide_eq_true_eq]
  by_cases e : a.length = b.length
  · rw [if_pos (by omega), if_pos e]
    split
    · rename_i h
      subst h
      rw [ltR_irr]
    · rfl
  · rw [if_neg (by omega), if_neg e]
    rw [decide_eq_decide]
    omega
def srtK (L : List (List Str)) : List (List Str) := L.mergeSort fun a b => !ltKb b a
theorem srtK_perm {L : List (List Str)} : (srtK L).Perm L := List.mergeSort_perm _ _
theorem srtK_head {L : List (List Str)} {h : List Str} {t : List (List Str)} (e : srtK L = h :: t) : ∀ r ∈ L, h = r ∨ ltK h r := fun r hr => by
  have pw : (srtK L).Pairwise fun a b => (!ltKb b a) = true := List.pairwise_mergeSort (fun a b c h1 h2 => by
    simp only [Bool.not_eq_true', ← Bool.not_eq_true, ltKb_iff] at h1 h2 ⊢
    intro q
    by_cases z : b = c
    · subst z; exact h1 q
    · rcases ltK_tot z with w | w
      · exact h1 (ltK_tr w q)
      · exact h2 w) (fun a b => by
    by_cases z : a = b
    · subst z
      have : ltKb a a = false := by rw [← Bool.not_eq_true, ltKb_iff]; exact ltK_irr
      simp [this]
    · rcases ltK_tot z with w | w
      · have : ltKb b a = false := by rw [← Bool.not_eq_true, ltKb_iff]; exact fun q => ltK_irr (ltK_tr w q)
        simp [this]
      · have : ltKb a b = false := by rw [← Bool.not_eq_true, ltKb_iff]; exact fun q => ltK_irr (ltK_tr w q)
        simp [this]) L
  rw [e] at pw
  have hr2 : r ∈ h :: t := by rw [← e]; exact srtK_perm.mem_iff.mpr hr
  rcases List.mem_cons.mp hr2 with rfl | hr2
  · exact .inl rfl
  · have := (List.pairwise_cons.mp pw).1 r hr2
    simp only [Bool.not_eq_true', ← Bool.not_eq_true, ltKb_iff] at this
    by_cases z : h = r
    · exact .inl z
    · exact .inr ((ltK_tot z).resolve_right this)
theorem sort_lst {L : List (List Str)} (h : ∀ r ∈ L, ∀ x ∈ r, PyData.strOk x = true) (hl : ∀ r ∈ L, r.length < 1000000000) : bfSort [.nd .lst (L.map lstD)] = some (.own .lst ((srtK L).map fun r => .fz (lstD r))) := by
  cases L with
  | nil =>
    have : srtK [] = [] := by unfold srtK; simp
    rw [this]
    rfl
  | cons a L' =>
    obtain ⟨L, hL⟩ : ∃ L, L = a :: L' := ⟨_, rfl⟩
    have e1 : intsD (L.map lstD) = none := by rw [hL]; rfl
    have e2 : strsD (L.map lstD) = none := by rw [hL]; rfl
    have e3 : toPDs (L.map lstD) = some (L.map fun r => pd (lstD r)) := by
      have g : goods (L.map lstD) = true := by
        rw [goods_iff]
        intro d hd
        obtain ⟨r, hr, rfl⟩ := List.mem_map.mp hd
        rw [hL] at hr
        have g1 := good_tup (h r hr)
        have g2 := hl r hr
        show goods _ = true
        rw [goods_iff]
        intro d hd
        simp only [List.mem_cons, List.not_mem_nil, or_false] at hd
        rcases hd with rfl | rfl
        · simp [good]; omega
        · exact g1
      rw [(goods_pd g).1, pds_eq, List.map_map]
      rfl
    have e4 : tuOk (L.map fun r => pd (lstD r)) = true := by
      unfold tuOk
      simp only [Bool.and_eq_true, List.all_eq_true, decide_eq_true_eq, List.mem_map]
      refine ⟨⟨?_, ?_⟩, ?_⟩
      · rintro _ ⟨r, _, rfl⟩ _ ⟨r', _, rfl⟩
        rw [pd_lst, pd_lst]
        simp [PySem.W.alike, PySem.W.alikeAll, alikeAll_strs]
      · rintro _ ⟨r, _, rfl⟩
        rw [pd_lst]
        rfl
      · rintro _ ⟨r, _, rfl⟩
        rw [pd_lst]
        simp [PyData.depth, PyData.depthAll, depth_strs]
    have e5 : srtT (L.map lstD) (L.map fun r => pd (lstD r)) = (srtK L).map lstD := by
      unfold srtT srtK
      have z : (L.map lstD).zip (L.map fun r => pd (lstD r)) = L.map fun r => (lstD r, pd (lstD r)) := by
        rw [List.zip_map']
      rw [z, ← List.map_mergeSort (r := fun a b => !ltKb b a) (f := fun r => (lstD r, pd (lstD r))), List.map_map]
      · rfl
      · intro a _ b _
        rw [PySem.W.dataLe_eq]
        simp [dataLt_lst]
    rw [← hL]
    have e0 : lstOf (.nd .lst (L.map lstD)) = some (L.map lstD) := rfl
    simp only [bfSort, e0, e1, e2, Option.bind_some, bfSortT, e3, e4, if_true, e5, List.map_map]
    rfl
def unL : D → List Str
  | .nd _ [_, d] => unS d
  | _ => []
theorem unL_lst {r : List Str} : unL (lstD r) = r := unS_tup
def F__law_listed (ds : List D) (R : O → Prop) : Prop := ∃ L : List (List Str), ds = [.nd .lst (L.map tupS)] ∧ (∀ r ∈ L, ∀ x ∈ r, PyData.strOk x = true) ∧ (∀ r ∈ L, r.length < 1000000) ∧ L.length ≤ 16000000 ∧ R = fun o => o = .own .lst ((srtK L).map fun r => .fz (tupS r))
abbrev C__law_listed := CPu F__law_listed
def T__law_listed : DS := (vSeq (vRet (vLc [1] [Opd.ex (vFz (vPure [Opd.ex (vLc [2] [Opd.ex (vVar 0)] itAny (gN 2) vYes (vFz (vTup [Opd.ex (vFz (vPure [Opd.sl 2] (bfD bfLen))), Opd.ex (vVar 2)])))] (bfD bfSort)))] itAny (gN 1) vYes (vFz (vPure [Opd.sl 1, Opd.ex (vC (D.int 1))] (bfD bfIx))))) vNext)
theorem k_listed : Keeps 3 1 [] T__law_listed C__law_listed := by
  refine .of (fun E os Q Z ⟨ds, R, e, ⟨L, e1, hk, hl, hL, e2⟩, hQ⟩ rt nx ex => ?_) rfl
  subst e e1 e2
  simp [T__law_listed, startC]
  refine lc_map (by walk_at "mono") (by walk_at "mono") (fun d => .fz (lstD (unS d))) (by simp [keepOps]) (by simp; omega) ?_ ?_
  · intro d hd
    obtain ⟨r, hr, rfl⟩ := List.mem_map.mp hd
    have i2 : bfLen [tupS r] = some (.fz (.int (r.length : Nat))) := by simp [tupS]
    have nb : isBad (.fz (tupS r)) = false := rfl
    simp [i2, mkT, unS_tup, lstD, nb]
  · have e1 : ((L.map tupS).map fun d => O.fz (lstD (unS d))) = (L.map lstD).map O.fz := by
      rw [List.map_map, List.map_map]
      refine List.map_congr_left fun r _ => ?_
      show O.fz (lstD (unS (tupS r))) = _
      rw [unS_tup]
      rfl
    rw [e1]
    have e2 := sort_lst (L := L) hk fun r hr => by have := hl r hr; omega
    have e3 : (O.own .lst ((L.map lstD).map O.fz)).sh = .nd .lst (L.map lstD) := by simp
    have e4 : (O.own .lst ((srtK L).map fun r => O.fz (lstD r))).view = .nd .lst ((srtK L).map lstD) := by
      rw [O.view, O.views_eq, List.map_map]
      rfl
    refine ob_iff.mpr ⟨_, rfl, ob_iff.mpr ⟨_, by rw [List.map_cons, List.map_nil, e3]; exact e2, ob_iff.mpr ⟨_, rfl, ob_iff.mpr ⟨_, by rw [e4]; rfl, ?_⟩⟩⟩⟩
    refine lc_map (by walk_at "mono") (by walk_at "mono") (fun d => .fz (tupS (unL d))) (by simp [keepOps]) (by rw [List.length_map, srtK_perm.length_eq]; omega) ?_ ?_
    · intro d hd
      obtain ⟨r, hr, rfl⟩ := List.mem_map.mp hd
      have i1 : bfIx [lstD r, .int 1] = some (.fz (tupS r)) := rfl
      have nb : isBad (.fz (lstD r)) = false := rfl
      simp [i1, nb, unL_lst]
    · refine rt _ _ (hQ _ ?_)
      rw [List.map_map]
      congr 1
      refine List.map_congr_left fun r _ => ?_
      show O.fz (tupS (unL (lstD r))) = _
      rw [unL_lst]
end VS
namespace VS
open PySem PySem.Spec PyProof.Rows L2 SX
local macro_rules | `(tactic| walk_at "mono") => `(tactic| repeat' (with_reducible first
  | exact mO_nil | apply mO_sl | apply mO_ex | exact mB_none | apply mB_some
  | exact vNext_mono | apply vSeq_mono | apply vAsg_mono | apply vPure_mono | exact vC_mono | exact vVar_mono | exact vMv_mono | apply vCmpT_mono | apply vCmpIx_mono | apply vIfS_mono | apply vRet_mono | apply vDrop_mono | apply vCall_mono
  | apply vFz_mono | apply vAsgT_mono | apply gSubD_mono | exact gN_mono | apply gT_mono | apply gsCons_mono | exact gsNil_mono | apply vAnd_mono | apply vOr_mono | apply vNot_mono | apply vTru_mono | apply vTup_mono | apply vLst_mono
  | apply vFor_mono | apply vWhile_mono | apply vPar_mono | apply vLc_mono | apply vDc_mono | exact vYes_mono | apply vMth_mono | apply vMthI_mono | apply vSl_mono | apply vAug_mono | apply vTest_mono | apply vChain_mono | apply vIf_mono | apply vAndV_mono | apply vOrV_mono | apply vNotV_mono | apply vDisp_mono
  | apply vBool_mono | apply vIsB_mono | exact vNewD_mono | exact vBreak_mono | exact vCont_mono | exact vNever_mono | exact vRetN_mono | exact CDr_mono | exact CPu_mono | apply arrC_mono
  | apply vLockE_mono | apply vDispT_mono | apply vTupS_mono | apply vLstS_mono | exact mL_nil | apply mL_cons))
/-! ## the law's end -/
theorem in_rows {f : Bool → Bool} {L : List (List Str)} {r : List Str} : bfIn f [tupS r, (rowsO L).sh] = some (.fz (.bl (f (decide (r ∈ L))))) := by
  have e2 : (rowsO L).sh = .nd (.dT (L.map keyS)) (L.map fun _ => .bl true) := by
    unfold rowsO
    rw [sh_own, List.map_map]
    rfl
  have g : ∀ L : List (List Str), (getK ((L.map keyS).zip (L.map fun _ => D.bl true)) (keyS r)).isSome = decide (r ∈ L) := by
    intro L
    induction L with
    | nil => rfl
    | cons y L ih =>
      rw [List.map_cons, List.map_cons, List.zip_cons_cons, getK_cons]
      by_cases e : y = r
      · subst e
        simp
      · rw [if_neg (fun z => e (keyS_inj.mp z)), ih]
        simp [List.mem_cons]
        exact fun z => absurd z.symm e
  have tk : tkeyOf (tupS r) = some (keyS r) := by
    unfold tupS
    rw [tkey_tup, keysOf_strs]
  rw [e2, ← g]
  show ((tkeyOf (tupS r)).map fun k => getK ((L.map keyS).zip (L.map fun _ => D.bl true)) k).map (fun q => O.fz (.bl (f q.isSome))) = _
  rw [tk]
  rfl
theorem rows_len {L : List (List Str)} {ns : List Str} (h : L.Nodup) (hm : ∀ r ∈ L, r.length ≤ 10 ∧ ∀ y ∈ r, y ∈ ns) (hn : ns.length ≤ 4) : L.length ≤ 2000000 := by
  have h1 := nd_len (m := (List.range 11).flatMap (everyL ns)) h fun r hr => by
    obtain ⟨q1, q2⟩ := hm r hr
    exact List.mem_flatMap.mpr ⟨r.length, by simp; omega, mem_everyL.mpr ⟨rfl, q2⟩⟩
  refine Nat.le_trans h1 ?_
  rw [List.length_flatMap]
  have e : (List.range 11).map (fun k => (everyL ns k).length) = (List.range 11).map fun k => ns.length ^ k := List.map_congr_left fun k _ => everyL_len
  rw [e]
  generalize ns.length = m at hn
  have key : ∀ m : Nat, m < 5 → ((List.range 11).map fun k => m ^ k).sum ≤ 2000000 := by decide
  exact key m (by omega)
def dueD : Option (List Str) → D
  | none => .non
  | some r => tupS r
def Due (xs zs : List Str) (t : Option (List Str)) : Prop := (t = none ∧ ∀ r, ¬ parts xs zs r) ∨ ∃ h, t = some h ∧ IsMin xs zs h
theorem min_uniq {xs zs m h : List Str} (a : IsMin xs zs m) (b : IsMin xs zs h) : m = h := by
  rcases a.2 h b.1 with e | e
  · exact e
  · rcases b.2 m a.1 with e' | e'
    · exact e'.symm
    · exact absurd (ltK_tr e e') ltK_irr
theorem due_of {xs zs : List Str} {t : Option (List Str)} {o : O} (hd : Due xs zs t) (h : (∃ m, IsMin xs zs m ∧ o = .fz (tupS m)) ∨ ((∀ r, ¬ parts xs zs r) ∧ o = .fz .non)) : o = .fz (dueD t) := by
  rcases hd with ⟨rfl, hn⟩ | ⟨b, rfl, hb⟩
  · rcases h with ⟨m, hm, _⟩ | ⟨_, h⟩
    · exact absurd hm.1 (hn m)
    · exact h
  · rcases h with ⟨m, hm, h⟩ | ⟨hn, _⟩
    · rw [min_uniq hm hb] at h
      exact h
    · exact absurd hb.1 (hn b)
def dueN : Option (List Str) → D
  | none => .non
  | some r => .int ((r.length : Nat) - 1)
theorem dueN_of {xs zs : List Str} {t : Option (List Str)} {o : O} (hd : Due xs zs t) (h : (∃ m, IsMin xs zs m ∧ o = .fz (.int ((m.length : Nat) - 1))) ∨ ((∀ r, ¬ parts xs zs r) ∧ o = .fz .non)) : o = .fz (dueN t) := by
  rcases hd with ⟨rfl, hn⟩ | ⟨b, rfl, hb⟩
  · rcases h with ⟨m, hm, _⟩ | ⟨_, h⟩
    · exact absurd hm.1 (hn m)
    · exact h
  · rcases h with ⟨m, hm, h⟩ | ⟨hn, _⟩
    · rw [min_uniq hm hb] at h
      exact h
    · exact absurd hb.1 (hn b)
theorem parts_symm {xs zs r : List Str} : parts zs xs r ↔ parts xs zs r := by
  rw [parts_sub, parts_sub]
  exact not_congr Iff.comm
theorem due_symm {xs zs : List Str} {t : Option (List Str)} (h : Due xs zs t) : Due zs xs t := by
  rcases h with ⟨e, h⟩ | ⟨b, e, h1, h2⟩
  · exact .inl ⟨e, fun r q => h r (parts_symm.mp q)⟩
  · exact .inr ⟨b, e, parts_symm.mpr h1, fun r q => h2 r (parts_symm.mp q)⟩
theorem due_none {xs zs : List Str} {t : Option (List Str)} (h : Due xs zs t) : t.isNone = decide (xs = zs) := by
  rcases h with ⟨rfl, h⟩ | ⟨b, rfl, h, _⟩
  · symm
    show decide (xs = zs) = true
    rw [decide_eq_true_eq]
    have a : xs.Sublist zs := by
      by_cases z : xs.Sublist zs
      · exact z
      · exact absurd (parts_sub.mpr fun q => z (q.mp (List.Sublist.refl _))) (h xs)
    have b : zs.Sublist xs := by
      by_cases z : zs.Sublist xs
      · exact z
      · exact absurd (parts_sub.mpr fun q => z (q.mpr (List.Sublist.refl _))) (h zs)
    exact a.eq_of_length (Nat.le_antisymm a.length_le b.length_le)
  · symm
    show decide (xs = zs) = false
    rw [decide_eq_false_iff_not]
    rintro rfl
    exact parts_sub.mp h Iff.rfl
theorem pure_arr2 {F : List D → (O → Prop) → Prop} {d e : D} {R : O → Prop} {ops : List Opd} {c : Cf} {E : XP} {Q : DK} (hF : F [e, d] R) (h : ∀ r, R r → Q r (putOps ops c [.fz d, .fz e])) : goC (arrC [1, 0] (CPu F)) [.fz d, .fz e] ops c E Q := goC_of ⟨[e, d], R, rfl, hF, h⟩
def rp2s (a b : List Str) : Str := rpr (.nd .lst [.nd .lst (a.map .str), .nd .lst (b.map .str)])
theorem repr_2strs {a b : List Str} (ha : ∀ x ∈ a, word x) (hb : ∀ x ∈ b, word x) (hl : a.length ≤ 50000) (hl2 : b.length ≤ 50000) :
    bfRepr [.own .lst [.fz (.nd .lst (a.map .str)), .fz (.nd .lst (b.map .str))]] = some (.fz (.str (rp2s a b))) := by
  refine repr_good (o := .own .lst [.fz (.nd .lst (a.map .str)), .fz (.nd .lst (b.map .str))]) ?_ rfl ?_ ?_
  · show goods _ = true
    simp [goods, good_strs fun x hx => word_ok (ha x hx), good_strs fun x hx => word_ok (hb x hx)]
  · simp [pd, pds, PyData.depth, PyData.depthAll, pds_strs, depth_strs]
  · have q1 := bulk_strs (l := a) (k := 6) fun x hx => (ha x hx).2.1
    have q2 := bulk_strs (l := b) (k := 6) fun x hx => (hb x hx).2.1
    simp [pd, pds, PyData.bulk, PyData.bulkAll, pds_strs]
    omega
theorem dueD_good {t : Option (List Str)} (hw : ∀ r, t = some r → (∀ x ∈ r, word x) ∧ r.length ≤ 10) : good (dueD t) = true ∧ (pd (dueD t)).depth ≤ 1 ∧ (pd (dueD t)).bulk ≤ 100 := by
  cases t with
  | none => exact ⟨rfl, by decide, by decide⟩
  | some r =>
    obtain ⟨h1, h2⟩ := hw r rfl
    refine ⟨good_tup fun x hx => word_ok (h1 x hx), pd_depth_tup, ?_⟩
    have := bulk_strs (l := r) (k := 6) fun x hx => (h1 x hx).2.1
    simp only [dueD, tupS, pd, PyData.bulk, pds_strs]
    omega
theorem repr_due {t : Option (List Str)} (hw : ∀ r, t = some r → (∀ x ∈ r, word x) ∧ r.length ≤ 10) : bfRepr [.own .lst [.fz (dueD t), .fz (dueD t)]] = some (.fz (.str (rpr (.nd .lst [dueD t, dueD t])))) := by
  obtain ⟨h1, h2, h3⟩ := dueD_good hw
  refine repr_good (o := .own .lst [.fz (dueD t), .fz (dueD t)]) ?_ rfl ?_ ?_
  · show goods _ = true
    simp [goods, h1]
  · simp only [O.view, O.views, pd, pds, PyData.depth, PyData.depthAll]
    omega
  · simp only [O.view, O.views, pd, pds, PyData.bulk, PyData.bulkAll]
    omega
theorem repr_dueN {t : Option (List Str)} (hw : ∀ r, t = some r → (∀ x ∈ r, word x) ∧ r.length ≤ 10) : bfRepr [.own .lst [.fz (dueN t), .fz (dueN t)]] = some (.fz (.str (rpr (.nd .lst [dueN t, dueN t])))) := by
  have g : good (dueN t) = true ∧ (pd (dueN t)).depth = 0 ∧ (pd (dueN t)).bulk ≤ 100 := by
    cases t with
    | none => exact ⟨rfl, rfl, by decide⟩
    | some r =>
      have := (hw r rfl).2
      refine ⟨?_, rfl, ?_⟩
      · simp [dueN, good]; omega
      · simp [dueN, pd, PyData.bulk]
  obtain ⟨h1, h2, h3⟩ := g
  refine repr_good (o := .own .lst [.fz (dueN t), .fz (dueN t)]) ?_ rfl ?_ ?_
  · show goods _ = true
    simp [goods, h1]
  · simp only [O.view, O.views, pd, pds, PyData.depth, PyData.depthAll]
    omega
  · simp only [O.view, O.views, pd, pds, PyData.bulk, PyData.bulkAll]
    omega
def T_law12 : DS := (vSeq (vAsg 1 (vCall C__law_begun [] [Opd.ex (vVar 0)])) (vSeq (vFor [Opd.ex (vPure [Opd.ex (vC (D.int 3)), Opd.ex (vPure [Opd.ex (vPure [Opd.sl 0] (bfD bfLen)), Opd.ex (vC (D.int 8))] (bfD bfMin))] (bfD bfAdd))] itRng1 (gN 2) (vSeq (vAsg 3 (vCall C__law_names [] [Opd.sl 1, Opd.ex (vFz (vPure [Opd.ex (vC (D.int 1)), Opd.ex (vCall C__law_take [] [Opd.sl 1, Opd.ex (vC (D.int 4))])] (bfD bfAdd)))])) (vSeq (vAsg 4 (vCall C__law_log [] [Opd.sl 1, Opd.ex (vVar 3), Opd.ex (vC (D.int 10))])) (vSeq (vAsg 5 (vIf (vCmpT [Opd.ex (vCall C__law_take [] [Opd.sl 1, Opd.ex (vC (D.int 4))]), Opd.ex (vC (D.int 0))] (bfD bfGt)) (vSl (Opd.ex (vCall C__law_near [] [Opd.sl 1, Opd.ex (vVar 3), Opd.ex (vVar 4)])) none (some (Opd.ex (vC (D.int 10))))) (vCall C__law_log [] [Opd.sl 1, Opd.ex (vVar 3), Opd.ex (vC (D.int 10))]))) (vSeq (vAsgT (gT 2 (gsCons (gN 6) (gsCons (gN 7) gsNil))) (vTup [Opd.ex (vCall C__law_rows [] [Opd.ex (vVar 4), Opd.ex (vC (D.int 10))]), Opd.ex (vCall C__law_rows [] [Opd.ex (vVar 5), Opd.ex (vC (D.int 10))])])) (vSeq (vAsg 8 (vPure [Opd.ex (vLc [13] [Opd.ex (vVar 6)] itAny (gN 13) (vCmpT [Opd.sl 13, Opd.sl 7] (bfD (bfIn fun x => !x))) (vVar 13)), Opd.ex (vLc [13] [Opd.ex (vVar 7)] itAny (gN 13) (vCmpT [Opd.sl 13, Opd.sl 6] (bfD (bfIn fun x => !x))) (vVar 13))] (bfD bfAdd))) (vSeq (vAsg 9 (vIf (vCmpT [Opd.sl 8, Opd.ex (vLst [])] bfEq) (vC D.non) (vPure [Opd.ex (vCall C__law_listed [] [Opd.ex (vVar 8)]), Opd.ex (vC (D.int 0))] (bfD bfIx)))) (vSeq (vAsg 10 (vPure [Opd.ex (vLst [Opd.ex (vVar 4), Opd.ex (vVar 5)])] bfRepr)) (vSeq (vAsg 11 (vLst [Opd.ex (vFz (vCall C_parting_row [] [Opd.ex (vVar 4), Opd.ex (vVar 5)])), Opd.ex (vFz (vCall (arrC [1, 0] C_parting_row) [] [Opd.ex (vVar 4), Opd.ex (vFz (vPure [Opd.sl 5] (bfD bfTup)))]))])) (vSeq (vIfS (vOr (vCmpT [Opd.ex (vPure [Opd.sl 11] bfRepr), Opd.ex (vPure [Opd.ex (vLst [Opd.ex (vVar 9), Opd.ex (vVar 9)])] bfRepr)] bfNe) (vCmpT [Opd.ex (vPure [Opd.sl 9, Opd.ex (vC D.non)] (bfD (bfIsN fun a => a))), Opd.ex (vPure [Opd.sl 4, Opd.sl 5] bfEq)] bfNe)) (vSeq (vRet (vC (D.bl false))) vNext) vNext) (vSeq (vAsg 12 (vIf (vCmpT [Opd.sl 9, Opd.ex (vC D.non)] (bfD (bfIsN fun a => a))) (vC D.non) (vPure [Opd.ex (vPure [Opd.sl 9] (bfD bfLen)), Opd.ex (vC (D.int 1))] (bfD (bfII tt2 fun i j => D.int (i - j)))))) (vSeq (vAsg 11 (vLst [Opd.ex (vFz (vCall C_greatest_k [] [Opd.ex (vVar 4), Opd.ex (vVar 5)])), Opd.ex (vFz (vCall (arrC [1, 0] C_greatest_k) [] [Opd.ex (vFz (vPure [Opd.sl 4] (bfD bfTup))), Opd.ex (vVar 5)]))])) (vSeq (vIfS (vOr (vCmpT [Opd.ex (vPure [Opd.sl 11] bfRepr), Opd.ex (vPure [Opd.ex (vLst [Opd.ex (vVar 12), Opd.ex (vVar 12)])] bfRepr)] bfNe) (vCmpT [Opd.ex (vPure [Opd.ex (vLst [Opd.ex (vVar 4), Opd.ex (vVar 5)])] bfRepr), Opd.sl 10] bfNe)) (vSeq (vRet (vC (D.bl false))) vNext) vNext) vNext))))))))))))) (vSeq (vRet (vC (D.bl true))) vNext)))
theorem k_law12 : Keeps 14 1 [1, 2, 3, 4, 5, 6, 7, 8, 9, 10, 11, 12] T_law12 C_law := by
  refine .of (fun E os Q Z ⟨ds, R, e, ⟨o, ns, e1, hl, e2⟩, hQ⟩ rt nx ex => ?_) rfl
  subst e e1 e2
  refine seqc (fun c => ∃ (s : Dr), c = [.fz (.nd (.scr o) (ns.map .int)), s.O, .bad, .bad, .bad, .bad, .bad, .bad, .bad, .bad, .bad, .bad, .bad, .bad] ∧ s.K 100000000) (by walk_at "mono") (fun J hJ => ?_) ?_
  · simp [startC]
    refine pure_of (ds := [.nd (.scr o) (ns.map .int)]) rfl ⟨o, ns, rfl, hl, rfl⟩ fun r hr => ?_
    obtain ⟨s, rfl, h1, h2⟩ := hr
    simp
    exact hJ _ ⟨s, rfl, ⟨by omega, by rw [h1]; simp, h2⟩⟩
  rintro c ⟨s, rfl, hk⟩
  obtain ⟨m, hm, hm2⟩ : ∃ m : Nat, (3 : Int) + (if (8 : Int) < (ns.length : Int) then 8 else (ns.length : Int)) = m ∧ m ≤ 15 := ⟨3 + min ns.length 8, by split <;> omega, by omega⟩
  simp [hm, rng1n (show m < 4611686018427387904 by omega)]
  refine forn (by walk_at "mono") (by walk_at "mono") (fun i c => ∃ (s : Dr) (x2 x3 x4 x5 x6 x7 x8 x9 x10 x11 x12 : O), c = [.fz (.nd (.scr o) (ns.map .int)), s.O, x2, x3, x4, x5, x6, x7, x8, x9, x10, x11, x12, .bad] ∧ s.K (1000 * (15 - i))) ⟨s, .bad, .bad, .bad, .bad, .bad, .bad, .bad, .bad, .bad, .bad, .bad, rfl, hk.le (by omega)⟩ ?_ ?_
  · rintro K i d c hK hi ⟨s, x2, x3, x4, x5, x6, x7, x8, x9, x10, x11, x12, rfl, hk⟩
    have him : i < m := by
      have := (List.getElem?_eq_some_iff.mp hi).1
      simp [rngD] at this
      omega
    generalize hn0 : 1000 * (15 - (i + 1)) = n0
    have hk : s.K (n0 + 1000) := hk.le (by omega)
    simp [keepOps]
    refine take_of (n := n0 + 999) hk (by omega) (by omega) fun s1 r k1 r1 r2 => ?_
    obtain ⟨a, ha, ha2⟩ : ∃ a : Nat, (1 : Int) + r = a ∧ 1 ≤ a ∧ a ≤ 4 := ⟨(1 + r).toNat, by omega, by omega, by omega⟩
    simp [ha]
    refine names_of (m := a) (n := n0 + 900) (k1.le (by omega)) (by omega) fun s2 ys k2 hyl hyd hyw => ?_
    simp
    refine log_of (m := 10) (n := n0 + 800) (k2.le (by omega)) (.inl (by intro q; rw [q] at hyl; simp at hyl; omega)) (fun x q => word_ok (hyw x q)) (by omega) (by omega) fun s3 xs k3 hxl hx => ?_
    simp
    have hxw : ∀ x ∈ xs, word x := fun x q => hyw x (hx x q)
    refine take_of (n := n0 + 799) k3 (by omega) (by omega) fun s4 r k4 r3 r4 => ?_
    simp
    refine brE_cut (fun o' c' => ∃ (s5 : Dr) (zs : List Str) (o4 : O), o' = .own .lst (zs.map fun y => .fz (.str y)) ∧ zs.length ≤ 10 ∧ (∀ y ∈ zs, y ∈ ys) ∧ s5.K n0 ∧ isBad o4 = false ∧ o4.view = .nd .lst (xs.map .str) ∧ c' = [.fz (.nd (.scr o) (ns.map .int)), s5.O, .fz d, .fz (.nd .lst (ys.map .str)), o4, x5, x6, x7, x8, x9, x10, x11, x12, .bad]) (by walk_at "mono") (by walk_at "mono") (fun J hJ h => ?_) (fun J hJ h => ?_) ?_
    · simp
      refine goC_of ⟨s4, [.nd .lst (ys.map .str), .nd .lst (xs.map .str)], n0, 100, _, by simp, ⟨ys, xs, rfl, (by intro q; rw [q] at hyl; simp at hyl; omega), by omega, by omega, rfl, rfl⟩, k4.le (by omega), ?_⟩
      rintro s5 _ k5 ⟨zs, rfl, hzl, hz⟩
      have c10 : cutR (.nd .lst (zs.map .str)) none (some 10) = some (.own .lst ((zs.take 10).map fun y => .fz (.str y))) := cut_strs_to (k := 10)
      simp [-cut_lst, c10]
      refine hJ _ _ ⟨s5, zs.take 10, .fz (.nd .lst (xs.map .str)), by rw [List.map_take], by simp; omega, fun y q => ?_, k5, rfl, rfl, rfl⟩
      rcases hz y (List.mem_of_mem_take q) with z | z
      · exact z
      · exact hx y z
    · simp
      refine log_of (m := 10) (n := n0) (k4.le (by omega)) (.inl (by intro q; rw [q] at hyl; simp at hyl; omega)) (fun x q => word_ok (hyw x q)) (by omega) (by omega) fun s5 zs k5 hzl hz => ?_
      exact hJ _ _ ⟨s5, zs, _, rfl, hzl, hz, k5, rfl, by rw [O.view, views_fstrs], rfl⟩
    rintro o' c' ⟨s5, zs, o4, rfl, hzl, hz, k5, hb4, hv4, rfl⟩
    have hzw : ∀ x ∈ zs, word x := fun x q => hyw x (hz x q)
    have nbr : ∀ L, isBad (rowsO L) = false := fun _ => rfl
    simp [hb4, hv4]
    refine pure_of (ds := [.nd .lst (xs.map .str), .int (10 : Nat)]) rfl ⟨xs, 10, rfl, by omega, rfl⟩ fun r hr => ?_
    obtain ⟨L, rfl, hLn, hLm⟩ := hr
    simp
    refine pure_of (ds := [.nd .lst (zs.map .str), .int (10 : Nat)]) rfl ⟨zs, 10, rfl, by omega, rfl⟩ fun r hr => ?_
    obtain ⟨M, rfl, hMn, hMm⟩ := hr
    have e2 : mkT [rowsO L, rowsO M] = .own .tup [rowsO L, rowsO M] := rfl
    simp [e2, nbr]
    have hit : ∀ L, itAny [.fz (rowsO L).view] = some (L.map tupS) := fun L => by
      have e1 : (rowsO L).view = .nd (.dT (L.map keyS)) (L.map fun _ => .bl true) := by rw [rowsO, O.view, O.views_eq, List.map_map]; rfl
      rw [e1]
      show some ((L.map keyS).map fun k => D.nd .tup (k.map keyD)) = _
      rw [List.map_map]
      congr 1
      refine List.map_congr_left fun r _ => ?_
      show D.nd .tup ((keyS r).map keyD) = _
      rw [keyD_S]
      rfl
    have hkey : ∀ L : List (List Str), L.Nodup → ∀ d ∈ L.map tupS, ∃ r ∈ L, d = tupS r := fun L _ d hd => by
      obtain ⟨r, hr, e⟩ := List.mem_map.mp hd
      exact ⟨r, hr, e.symm⟩
    have hLl : L.length ≤ 2000000 := rows_len hLn (fun r hr => ⟨((hLm r).mp hr).2, fun y hy => hx y (((hLm r).mp hr).1.subset hy)⟩) (by omega)
    have hMl : M.length ≤ 2000000 := rows_len hMn (fun r hr => ⟨((hMm r).mp hr).2, fun y hy => hz y (((hMm r).mp hr).1.subset hy)⟩) (by omega)
    simp [hit]
    refine lc_filter (by walk_at "mono") (by walk_at "mono") (by walk_at "mono") (fun d => !decide (unS d ∈ M)) .fz (by simp [keepOps]) (by rw [List.length_map]; omega) ?_ ?_
    · intro d' hd'
      obtain ⟨r, hr, rfl⟩ := hkey L hLn d' hd'
      have i1 := in_rows (f := fun x => !x) (L := M) (r := r)
      have nb : isBad (.fz (tupS r)) = false := rfl
      simp [nb, nbr, i1, unS_tup]
    simp [nbr, hit]
    refine lc_filter (by walk_at "mono") (by walk_at "mono") (by walk_at "mono") (fun d => !decide (unS d ∈ L)) .fz (by simp [keepOps]) (by rw [List.length_map]; omega) ?_ ?_
    · intro d' hd'
      obtain ⟨r, hr, rfl⟩ := hkey M hMn d' hd'
      have i1 := in_rows (f := fun x => !x) (L := L) (r := r)
      rw [show (rowsO L).sh = (rowsO L).view by rw [rowsO, sh_own, O.view, O.views_eq, List.map_map, List.map_map]; rfl] at i1
      have nb : isBad (.fz (tupS r)) = false := rfl
      have nb6 : isBad (.fz (rowsO L).view) = false := rfl
      simp [nb, nb6, nbr, i1, unS_tup]
    have fil : ∀ A B : List (List Str), (A.map tupS).filter (fun d => !decide (unS d ∈ B)) = (A.filter fun r => !decide (r ∈ B)).map tupS := fun A B => by
      rw [List.filter_map]
      congr 1
      refine List.filter_congr fun r _ => ?_
      show (!decide (unS (tupS r) ∈ B)) = _
      rw [unS_tup]
    rw [fil, fil]
    obtain ⟨A, hA⟩ : ∃ A, A = (L.filter fun r => !decide (r ∈ M)) ++ (M.filter fun r => !decide (r ∈ L)) := ⟨_, rfl⟩
    have hAp : ∀ r, r ∈ A ↔ parts xs zs r := fun r => by
      rw [hA, List.mem_append, List.mem_filter, List.mem_filter, parts_sub]
      simp only [Bool.not_eq_true', decide_eq_false_iff_not, hLm, hMm]
      constructor
      · rintro (⟨⟨q1, q2⟩, q3⟩ | ⟨⟨q1, q2⟩, q3⟩) e
        · exact q3 ⟨e.mp q1, q2⟩
        · exact q3 ⟨e.mpr q1, q2⟩
      · intro q
        by_cases z : r.Sublist xs
        · have : ¬ r.Sublist zs := fun w => q ⟨fun _ => w, fun _ => z⟩
          exact .inl ⟨⟨z, by have := z.length_le; omega⟩, fun w => this w.1⟩
        · by_cases w : r.Sublist zs
          · exact .inr ⟨⟨w, by have := w.length_le; omega⟩, fun w => z w.1⟩
          · exact absurd ⟨fun a => absurd a z, fun a => absurd a w⟩ q
    have hAl : A.length ≤ 4000000 := by
      rw [hA, List.length_append]
      have := List.length_filter_le (fun r => !decide (r ∈ M)) L
      have := List.length_filter_le (fun r => !decide (r ∈ L)) M
      omega
    have hApp : bfAdd [.nd .lst ((L.filter fun r => !decide (r ∈ M)).map tupS), .nd .lst ((M.filter fun r => !decide (r ∈ L)).map tupS)] = some (.own .lst ((A.map tupS).map O.fz)) := by
      rw [cat_lst, if_pos (by rw [List.length_map, List.length_map, ← List.length_append, ← hA]; omega), ← List.map_append, ← hA]
    have sh1 : ∀ B : List (List Str), (O.own .lst ((B.map tupS).map O.fz)).sh = .nd .lst (B.map tupS) := fun B => by simp
    refine ob_iff.mpr ⟨_, rfl, ob_iff.mpr ⟨_, by simp only [List.map_cons, List.map_nil, sh1]; exact hApp, ?_⟩⟩
    have hAw : ∀ r ∈ A, ∀ x ∈ r, word x := fun r hr x hx' => by
      rcases parts_in ((hAp r).mp hr) with z | z
      · exact hxw x (z.subset hx')
      · exact hzw x (z.subset hx')
    have hA0 : bfEq [.own .lst ((A.map tupS).map O.fz), .own .lst []] = some (.fz (.bl (decide (A = [])))) := by
      rw [eq_lst0 (l := A.map tupS) (by
        rw [goods_iff]
        intro d hd
        obtain ⟨r, hr, rfl⟩ := List.mem_map.mp hd
        exact good_tup fun x hx' => word_ok (hAw r hr x hx')) (by
        have := depth_rows (n := 1) (l := A.map tupS) fun d hd => by
          obtain ⟨r, _, rfl⟩ := List.mem_map.mp hd
          exact pd_depth_tup
        simp only [pd, PyData.depth]
        omega)]
      simp
    have nbA : isBad (O.own .lst ((A.map tupS).map O.fz)) = false := rfl
    simp only [restore]
    simp [nbA, -List.map_map, hA0]
    refine brE_cut (fun o' c' => ∃ (t : Option (List Str)) (o8 : O), o' = .fz (dueD t) ∧ Due xs zs t ∧ c' = [.fz (.nd (.scr o) (ns.map .int)), s5.O, .fz d, .fz (.nd .lst (ys.map .str)), .fz (.nd .lst (xs.map .str)), .fz (.nd .lst (zs.map .str)), .fz (rowsO L).view, .fz (rowsO M).view, o8, x9, x10, x11, x12, .bad]) (by walk_at "mono") (by walk_at "mono") (fun J hJ h => ?_) (fun J hJ h => ?_) ?_
    · simp at h
      simp
      exact hJ _ _ ⟨none, _, rfl, .inl ⟨rfl, fun r hr => by have := (hAp r).mpr hr; rw [h] at this; cases this⟩, rfl⟩
    · simp at h
      simp [nbA, -List.map_map]
      refine pure_of (ds := [.nd .lst (A.map tupS)]) (by simp) ⟨A, rfl, fun r hr x hx' => word_ok (hAw r hr x hx'), fun r hr => ?_, by omega, rfl⟩ fun q hq => ?_
      · rcases parts_in ((hAp r).mp hr) with z | z
        · have := z.length_le; omega
        · have := z.length_le; omega
      subst hq
      cases e : srtK A with
      | nil =>
        have := (srtK_perm (L := A)).length_eq
        rw [e] at this
        exact absurd (List.eq_nil_of_length_eq_zero this.symm) h
      | cons b t =>
        have hb : b ∈ A := srtK_perm.mem_iff.mp (by rw [e]; simp)
        have i0 : bfIx [.nd .lst ((b :: t).map tupS), .int 0] = some (.fz (tupS b)) := by
          rw [List.map_cons, ix_lst, show (0 : Int) = ((0 : Nat) : Int) from rfl, atI_of (by simp)]
          rfl
        have sh2 : (O.own .lst ((b :: t).map fun r => O.fz (tupS r))).sh = .nd .lst ((b :: t).map tupS) := by
          rw [sh_own, List.map_map]
          rfl
        refine ob_iff.mpr ⟨_, rfl, ob_iff.mpr ⟨_, by rw [List.map_cons, sh2]; exact i0, ?_⟩⟩
        refine hJ _ _ ⟨some b, .fz (.nd .lst (A.map tupS)), rfl, .inr ⟨b, rfl, (hAp b).mp hb, fun r hr => srtK_head e r ((hAp r).mpr hr)⟩, ?_⟩
        simp
    rintro o' c' ⟨t, o8, rfl, hdue, rfl⟩
    have hxn : ∀ x ∈ xs, isNm x = true := fun x q => word_nm.mp (hxw x q)
    have hzn : ∀ x ∈ zs, isNm x = true := fun x q => word_nm.mp (hzw x q)
    have hw : ∀ r, t = some r → (∀ x ∈ r, word x) ∧ r.length ≤ 10 := fun r hr => by
      rcases hdue with ⟨e, _⟩ | ⟨b, e, hb, _⟩
      · rw [hr] at e; cases e
      · rw [hr] at e
        cases e
        rcases parts_in hb with q | q
        · exact ⟨fun x hx' => hxw x (q.subset hx'), by have := q.length_le; omega⟩
        · exact ⟨fun x hx' => hzw x (q.subset hx'), by have := q.length_le; omega⟩
    have r1 := repr_2strs hxw hzw (by omega) (by omega)
    have nbt : ∀ t, isBad (.fz (dueD t)) = false := fun t => by cases t <;> rfl
    have nbn : ∀ t, isBad (.fz (dueN t)) = false := fun t => by cases t <;> rfl
    have hset : ∀ l : List Str, (∀ x ∈ l, x ∈ ys) → (setL l).length < 64 := fun l h => by
      have := nd_len (setL_nd (xs := l)) fun y hy => h y (setL_mem.mp hy)
      omega
    simp [r1, nbt]
    refine pure_of (ds := [.nd .lst (xs.map .str), .nd .lst (zs.map .str)]) rfl ⟨_, xs, _, zs, rfl, .lst, .lst, hxn, hzn, by omega, by omega, hset _ fun y q => (List.mem_append.mp q).elim (hx y) (hz y), rfl⟩ fun q hq => ?_
    have eq1 := due_of hdue hq
    subst eq1
    simp [nbt]
    refine pure_arr2 (d := .nd .lst (xs.map .str)) (e := .nd .tup (zs.map .str)) ⟨_, zs, _, xs, rfl, .tup, .lst, hzn, hxn, by omega, by omega, hset _ fun y q => (List.mem_append.mp q).elim (hz y) (hx y), rfl⟩ fun q hq => ?_
    have eq2 := due_of (due_symm hdue) hq
    subst eq2
    have r2 := repr_due hw
    have i9 : bfIsN (fun a => a) [dueD t, .non] = some (.fz (.bl t.isNone)) := by cases t <;> rfl
    have e45 : bfEq [.fz (.nd .lst (xs.map .str)), .fz (.nd .lst (zs.map .str))] = some (.fz (.bl (decide (xs = zs)))) := by
      have : bfEq [.fz (.nd .lst (xs.map .str)), .fz (.nd .lst (zs.map .str))] = bfEqN id [.fz (.nd .lst (xs.map .str)), .fz (.nd .lst (zs.map .str))] := rfl
      rw [this, eqN_strs (f := id) rfl rfl (fun x q => word_ok (hxw x q)) (fun x q => word_ok (hzw x q))]
      rfl
    have hdn := due_none hdue
    simp [nbt, r2, i9, e45, hdn]
    refine brE_cut (fun o' c' => o' = .fz (dueN t) ∧ c' = [.fz (.nd (.scr o) (ns.map .int)), s5.O, .fz d, .fz (.nd .lst (ys.map .str)), .fz (.nd .lst (xs.map .str)), .fz (.nd .lst (zs.map .str)), .fz (rowsO L).view, .fz (rowsO M).view, o8, .fz (dueD t), .fz (.str (rp2s xs zs)), .own .lst [.fz (dueD t), .fz (dueD t)], x12, .bad]) (by walk_at "mono") (by walk_at "mono") (fun J hJ h => ?_) (fun J hJ h => ?_) ?_
    · rw [h] at hdn
      have : t = none := by simpa using hdn
      subst this
      simp
      exact hJ _ _ ⟨rfl, rfl⟩
    · rw [h] at hdn
      obtain ⟨r, rfl⟩ : ∃ r, t = some r := by
        cases t with
        | none => cases hdn
        | some r => exact ⟨r, rfl⟩
      have i2 : bfLen [dueD (some r)] = some (.fz (.int (r.length : Nat))) := by simp [dueD, tupS]
      simp [nbt, i2]
      exact hJ _ _ ⟨rfl, rfl⟩
    rintro o' c' ⟨rfl, rfl⟩
    simp
    refine pure_of (ds := [.nd .lst (xs.map .str), .nd .lst (zs.map .str)]) rfl ⟨_, xs, _, zs, rfl, .lst, .lst, hxn, hzn, by omega, by omega, hset _ fun y q => (List.mem_append.mp q).elim (hx y) (hz y), rfl⟩ fun q hq => ?_
    have eq3 := dueN_of hdue hq
    subst eq3
    simp [nbn]
    refine pure_arr2 (d := .nd .tup (xs.map .str)) (e := .nd .lst (zs.map .str)) ⟨_, zs, _, xs, rfl, .lst, .tup, hzn, hxn, by omega, by omega, hset _ fun y q => (List.mem_append.mp q).elim (hz y) (hx y), rfl⟩ fun q hq => ?_
    have eq4 := dueN_of (due_symm hdue) hq
    subst eq4
    have r3 := repr_dueN hw
    simp [nbn, r3, r1]
    exact hK _ ⟨s5, _, _, _, _, _, _, _, _, _, _, _, rfl, by rw [hn0]; exact k5⟩
  · rintro c ⟨s, x2, x3, x4, x5, x6, x7, x8, x9, x10, x11, x12, rfl, hk⟩
    simp [keepOps]
    exact rt _ _ (hQ _ rfl)
end VS
namespace VS
open PySem PySem.Spec PyProof.Rows L2
/-! ## a text's defs, one behind the other -/
def EntOk (P : Program) (w : World) (K : PySem.W.Frag) (mg : Str → Option Value) (base : Heap) (k : Nat) (x : Str) (F : Fn) : Prop := MonoC F.C ∧ ∃ f fd dvs ds, mg x = some (.ref f) ∧ PySem.W.keepIn K (.ref f) = true ∧ Binds K fd F.ps ds ∧ Vals dvs ds ∧ Rps (fun _ => none) dvs F.dv ∧
    FnG P w K mg base k f fd F.ps (liftC mg F.ps.length F.C) ∧ ∀ q ∈ F.kws, KwOk K fd F.ps q.1 q.2.1 q.2.2
def AllOk (P : Program) (w : World) (K : PySem.W.Frag) (mg : Str → Option Value) (base : Heap) (k : Nat) (l : List (Str × Fn)) : Prop := ∀ e ∈ l, EntOk P w K mg base k e.1 e.2
section
variable {P : Program} {w : World} {K : PySem.W.Frag} {mg : Str → Option Value} {base : Heap} {j k : Nat} {x : Str} {F : Fn} {l : List (Str × Fn)}
theorem EntOk.up (h : EntOk P w K mg base j x F) (q : j ≤ k) : EntOk P w K mg base k x F := by
  obtain ⟨m, f, fd, dvs, ds, h1, h2, h3, h4, h5, h6, h7⟩ := h
  exact ⟨m, f, fd, dvs, ds, h1, h2, h3, h4, h5, h6.up q, h7⟩
theorem AllOk.nil : AllOk P w K mg base k [] := fun _ h => nomatch h
theorem AllOk.up (h : AllOk P w K mg base j l) (q : j ≤ k) : AllOk P w K mg base k l := fun e he => (h e he).up q
theorem AllOk.snoc (h : AllOk P w K mg base k l) (q : EntOk P w K mg base k x F) : AllOk P w K mg base k (l ++ [(x, F)]) := fun e he => by
  rcases List.mem_append.mp he with z | z
  · exact h e z
  · simp at z
    subst z
    exact q
theorem AllOk.cons (q : EntOk P w K mg base k x F) (h : AllOk P w K mg base k l) : AllOk P w K mg base k ((x, F) :: l) := fun e he => by
  rcases List.mem_cons.mp he with z | z
  · subst z; exact q
  · exact h e z
end
theorem lookup_mem {α β : Type} [BEq α] [LawfulBEq α] {x : α} {b : β} : ∀ {l : List (α × β)}, l.lookup x = some b → (x, b) ∈ l
  | [], h => by cases h
  | (y, c) :: l, h => by
    rw [List.lookup_cons] at h
    split at h
    · rename_i e
      cases h
      have := eq_of_beq e
      subst this
      exact List.mem_cons_self ..
    · exact List.mem_cons_of_mem _ (lookup_mem h)
/-- what is known ahead of a def: the defs before it, the built-ins, the constants -/
def sgOf (N : List Str) (l : List (Str × Fn)) (bl : List Str) (cs : List (Str × V)) (kt : Value → Value → Option Bool) (cl : Addr → Bool) : Sg := { N := N, fns := fun x => l.lookup x, blt := fun x => bl.contains x, cst := fun x => cs.lookup x, kit := kt, cls := cl }
/-- what the text's namespace holds -/
structure EnvOk (K : PySem.W.Frag) (mg : Str → Option Value) (bl : List Str) (cs : List (Str × V)) (kt : Value → Value → Option Bool) (cl : Addr → Bool) : Prop where
  blt : ∀ x ∈ bl, mg x = none
  cst : ∀ e ∈ cs, ∃ u, mg e.1 = some u ∧ RelV e.2 u
  kit : ∀ t u b, kt t u = some b → PySem.W.kitOne K t u = some b
  cls : ∀ C, cl C = true → Cls K C ∧ PySem.W.findIn K (.ref C) "__class__" = some (some (.builtin "object.__class__")) ∧ PySem.W.specialIn K (.builtin "object.__class__") "__get__" = some (some (.builtin "getset_descriptor.__get__")) ∧
    PySem.W.takesIn K (.builtin "object.__class__") = some true ∧ PySem.W.mroIn K C (.type "object") = some true
section
variable {P : Program} {w : World} {K : PySem.W.Frag} {mg : Str → Option Value} {base : Heap} {k : Nat} {x : Str} {F : Fn} {l : List (Str × Fn)} {N : List Str} {bl : List Str} {cs : List (Str × V)} {kt : Value → Value → Option Bool} {cl : Addr → Bool}
theorem gok_of (h : AllOk P w K mg base k l) (e : EnvOk K mg bl cs kt cl) : GOk (sgOf N l bl cs kt cl) P w K mg base k := by
  refine ⟨fun x F hf => h _ (lookup_mem hf), fun x hx => e.blt x ?_, fun x v hv => e.cst _ (lookup_mem hv), e.kit, e.cls⟩
  have : bl.contains x = true := hx
  simpa using this
theorem mc_of (h : ∀ e ∈ l, MonoC e.2.C) : ∀ x F, (sgOf N l bl cs kt cl).fns x = some F → MonoC F.C := fun x F hf => h _ (lookup_mem hf)
theorem ent_mk {st : Stmt} {f : Addr} {fd : FuncData} {op : Opts} {T : DS} {dV : Value} {ds : List Value} {dvs : List V} {MC : ∀ x F, (sgOf N l bl cs kt cl).fns x = some F → MonoC F.C} (Fu : FunX K x x st dV f fd) (hmg : mg x = some (.ref f)) (bd : Binds K fd F.ps ds) (hds : Vals dvs ds) (hdv : Rps (fun _ => none) dvs F.dv) (S : FnScope N F.ps (defScope st))
    (mC : MonoC F.C) (al : AllOk P w K mg base k l) (en : EnvOk K mg bl cs kt cl) (hb : bodyOf (sgOf N l bl cs kt cl) k op MC (defScope st) (defBody st) = some T) (hk : Keeps N.length F.ps.length op.P T F.C) (kw : ∀ q ∈ F.kws, KwOk K fd F.ps q.1 q.2.1 q.2.2) : EntOk P w K mg base (k + 1) x F :=
  ⟨mC, f, fd, dvs, ds, hmg, Fu.kp, bd, hds, hdv, fn_ok (Γ := sgOf N l bl cs kt cl) Fu S (gok_of al en) (bodyOf_at hb) hk, kw⟩
end
end VS
namespace VS
open PySem PySem.Spec PyProof.Rows L2 SX
theorem mcs_nil : ∀ e ∈ ([] : List (Str × Fn)), MonoC e.2.C := fun _ h => nomatch h
theorem mcs_cons {x : Str} {F : Fn} {l : List (Str × Fn)} (h : MonoC F.C) (t : ∀ e ∈ l, MonoC e.2.C) : ∀ e ∈ (x, F) :: l, MonoC e.2.C := fun e he => by
  rcases List.mem_cons.mp he with z | z
  · subst z; exact h
  · exact t e z
def topS (i : Nat) : Stmt := PySem.Challenge.pw_glancelogs_k12_least_rows_that_part_logs.main.body.getD i (.Pass ⟨0, 0, 0, 0⟩)
abbrev BLl : List Str := ["len", "abs", "min", "all", "int", "str", "list", "tuple", "sorted", "repr", "isinstance", "range", "enumerate"]
def cv (v : V) : V := v
abbrev CSl : List (Str × V) := [("LETTERS", .str "abcdefghijklmnopqrstuvwxyz"), ("LONGEST_NAME", .int 6)]
abbrev KTf : Value → Value → Option Bool := fun _ _ => none
abbrev CLf : Addr → Bool := fun _ => false
abbrev Fn_is_name : Fn := ⟨["value"], [], [], C_is_nameV⟩
abbrev Ls_is_name : List (Str × Fn) := []
theorem mc_is_name : ∀ e ∈ Ls_is_name, MonoC e.2.C := mcs_nil
theorem sc_is_name : FnScope ["value", "letter"] ["value"] (defScope (topS 6)) := ⟨rfl, rfl, rfl, by decide +kernel, rfl, by decide +kernel, by decide +kernel⟩
abbrev op_is_name : Opts := { keep := false, P := [], ow := [("_law_take", [true, false]), ("_law_pick", [true, false]), ("_law_names", [true, false]), ("_law_log", [true, false, false]), ("_law_near", [true, false, false])], dv := ["great"] }
set_option maxHeartbeats 8000000 in
theorem bd_is_name {k : Nat} : bodyOf (sgOf ["value", "letter"] Ls_is_name BLl CSl KTf CLf) k op_is_name (mc_of mc_is_name) (defScope (topS 6)) (defBody (topS 6)) = some (T_is_name KTf CLf) := by rfl
abbrev Fn_place_behind : Fn := ⟨["log", "name", "at"], [], [], C_place_behind⟩
abbrev Ls_place_behind : List (Str × Fn) := []
theorem mc_place_behind : ∀ e ∈ Ls_place_behind, MonoC e.2.C := mcs_nil
theorem sc_place_behind : FnScope ["log", "name", "at", "index"] ["log", "name", "at"] (defScope (topS 9)) := ⟨rfl, rfl, rfl, by decide +kernel, rfl, by decide +kernel, by decide +kernel⟩
abbrev op_place_behind : Opts := { keep := false, P := [3], ow := [("_law_take", [true, false]), ("_law_pick", [true, false]), ("_law_names", [true, false]), ("_law_log", [true, false, false]), ("_law_near", [true, false, false])], dv := ["great"] }
set_option maxHeartbeats 8000000 in
theorem bd_place_behind {k : Nat} : bodyOf (sgOf ["log", "name", "at", "index"] Ls_place_behind BLl CSl KTf CLf) k op_place_behind (mc_of mc_place_behind) (defScope (topS 9)) (defBody (topS 9)) = some T_place_behind := by rfl
abbrev Fn__law_begun : Fn := ⟨["_law_script"], [], [], C__law_begun⟩
abbrev Ls__law_begun : List (Str × Fn) := []
theorem mc__law_begun : ∀ e ∈ Ls__law_begun, MonoC e.2.C := mcs_nil
theorem sc__law_begun : FnScope ["_law_script", "_law_cells", "_law_cell"] ["_law_script"] (defScope (topS 14)) := ⟨rfl, rfl, rfl, by decide +kernel, rfl, by decide +kernel, by decide +kernel⟩
abbrev op__law_begun : Opts := { keep := true, P := [1], ow := [("_law_take", [true, false]), ("_law_pick", [true, false]), ("_law_names", [true, false]), ("_law_log", [true, false, false]), ("_law_near", [true, false, false])], dv := ["great"] }
set_option maxHeartbeats 8000000 in
theorem bd__law_begun {k : Nat} : bodyOf (sgOf ["_law_script", "_law_cells", "_law_cell"] Ls__law_begun BLl CSl KTf CLf) k op__law_begun (mc_of mc__law_begun) (defScope (topS 14)) (defBody (topS 14)) = some T__law_begun := by rfl
abbrev Fn__law_take : Fn := ⟨["_law_draw", "_law_many"], [], [], C__law_take⟩
abbrev Ls__law_take : List (Str × Fn) := []
theorem mc__law_take : ∀ e ∈ Ls__law_take, MonoC e.2.C := mcs_nil
theorem sc__law_take : FnScope ["_law_draw", "_law_many", "_law_mixed", "_law_cell", "_law_turn", "_law_found"] ["_law_draw", "_law_many"] (defScope (topS 15)) := ⟨rfl, rfl, rfl, by decide +kernel, rfl, by decide +kernel, by decide +kernel⟩
abbrev op__law_take : Opts := { keep := false, P := [2, 3, 4, 5], ow := [("_law_take", [true, false]), ("_law_pick", [true, false]), ("_law_names", [true, false]), ("_law_log", [true, false, false]), ("_law_near", [true, false, false])], dv := ["great"] }
set_option maxHeartbeats 8000000 in
theorem bd__law_take {k : Nat} : bodyOf (sgOf ["_law_draw", "_law_many", "_law_mixed", "_law_cell", "_law_turn", "_law_found"] Ls__law_take BLl CSl KTf CLf) k op__law_take (mc_of mc__law_take) (defScope (topS 15)) (defBody (topS 15)) = some T__law_take := by rfl
abbrev Fn__law_rows : Fn := ⟨["_law_log_here", "_law_k"], [], [], C__law_rows⟩
abbrev Ls__law_rows : List (Str × Fn) := []
theorem mc__law_rows : ∀ e ∈ Ls__law_rows, MonoC e.2.C := mcs_nil
theorem sc__law_rows : FnScope ["_law_log_here", "_law_k", "_law_found", "_law_name", "_law_row", "_law_here"] ["_law_log_here", "_law_k"] (defScope (topS 19)) := ⟨rfl, rfl, rfl, by decide +kernel, rfl, by decide +kernel, by decide +kernel⟩
abbrev op__law_rows : Opts := { keep := false, P := [2, 3, 4], ow := [("_law_take", [true, false]), ("_law_pick", [true, false]), ("_law_names", [true, false]), ("_law_log", [true, false, false]), ("_law_near", [true, false, false])], dv := ["great"], lk := ["_law_found"] }
set_option maxHeartbeats 8000000 in
theorem bd__law_rows {k : Nat} : bodyOf (sgOf ["_law_log_here", "_law_k", "_law_found", "_law_name", "_law_row", "_law_here"] Ls__law_rows BLl CSl KTf CLf) k op__law_rows (mc_of mc__law_rows) (defScope (topS 19)) (defBody (topS 19)) = some T__law_rows := by rfl
abbrev Fn__law_listed : Fn := ⟨["_law_rows_here"], [], [], C__law_listed⟩
abbrev Ls__law_listed : List (Str × Fn) := []
theorem mc__law_listed : ∀ e ∈ Ls__law_listed, MonoC e.2.C := mcs_nil
theorem sc__law_listed : FnScope ["_law_rows_here", "_law_pair", "_law_row"] ["_law_rows_here"] (defScope (topS 20)) := ⟨rfl, rfl, rfl, by decide +kernel, rfl, by decide +kernel, by decide +kernel⟩
abbrev op__law_listed : Opts := { keep := false, P := [], ow := [("_law_take", [true, false]), ("_law_pick", [true, false]), ("_law_names", [true, false]), ("_law_log", [true, false, false]), ("_law_near", [true, false, false])], dv := ["great"] }
set_option maxHeartbeats 8000000 in
theorem bd__law_listed {k : Nat} : bodyOf (sgOf ["_law_rows_here", "_law_pair", "_law_row"] Ls__law_listed BLl CSl KTf CLf) k op__law_listed (mc_of mc__law_listed) (defScope (topS 20)) (defBody (topS 20)) = some T__law_listed := by rfl
abbrev Fn_first_wrong : Fn := ⟨["items"], [], [], C_first_wrong⟩
abbrev Ls_first_wrong : List (Str × Fn) := [("is_name", Fn_is_name)]
theorem mc_first_wrong : ∀ e ∈ Ls_first_wrong, MonoC e.2.C := (mcs_cons CPu_mono mcs_nil)
theorem sc_first_wrong : FnScope ["items", "at", "item"] ["items"] (defScope (topS 7)) := ⟨rfl, rfl, rfl, by decide +kernel, rfl, by decide +kernel, by decide +kernel⟩
abbrev op_first_wrong : Opts := { keep := false, P := [1, 2], ow := [("_law_take", [true, false]), ("_law_pick", [true, false]), ("_law_names", [true, false]), ("_law_log", [true, false, false]), ("_law_near", [true, false, false])], dv := ["great"] }
set_option maxHeartbeats 8000000 in
theorem bd_first_wrong {k : Nat} : bodyOf (sgOf ["items", "at", "item"] Ls_first_wrong BLl CSl KTf CLf) k op_first_wrong (mc_of mc_first_wrong) (defScope (topS 7)) (defBody (topS 7)) = some T_first_wrongV := by rfl
abbrev Fn__law_pick : Fn := ⟨["_law_draw", "_law_some"], [], [], C__law_pick⟩
abbrev Ls__law_pick : List (Str × Fn) := [("_law_take", Fn__law_take)]
theorem mc__law_pick : ∀ e ∈ Ls__law_pick, MonoC e.2.C := (mcs_cons CDr_mono mcs_nil)
theorem sc__law_pick : FnScope ["_law_draw", "_law_some"] ["_law_draw", "_law_some"] (defScope (topS 16)) := ⟨rfl, rfl, rfl, by decide +kernel, rfl, by decide +kernel, by decide +kernel⟩
abbrev op__law_pick : Opts := { keep := false, P := [], ow := [("_law_take", [true, false]), ("_law_pick", [true, false]), ("_law_names", [true, false]), ("_law_log", [true, false, false]), ("_law_near", [true, false, false])], dv := ["great"] }
set_option maxHeartbeats 8000000 in
theorem bd__law_pick {k : Nat} : bodyOf (sgOf ["_law_draw", "_law_some"] Ls__law_pick BLl CSl KTf CLf) k op__law_pick (mc_of mc__law_pick) (defScope (topS 16)) (defBody (topS 16)) = some T__law_pick := by rfl
abbrev Fn_need_log : Fn := ⟨["log"], [], [], C_need_log⟩
abbrev Ls_need_log : List (Str × Fn) := [("first_wrong", Fn_first_wrong)]
theorem mc_need_log : ∀ e ∈ Ls_need_log, MonoC e.2.C := (mcs_cons CPu_mono mcs_nil)
theorem sc_need_log : FnScope ["log", "at"] ["log"] (defScope (topS 8)) := ⟨rfl, rfl, rfl, by decide +kernel, rfl, by decide +kernel, by decide +kernel⟩
abbrev op_need_log : Opts := { keep := false, P := [1], ow := [("_law_take", [true, false]), ("_law_pick", [true, false]), ("_law_names", [true, false]), ("_law_log", [true, false, false]), ("_law_near", [true, false, false])], dv := ["great"] }
set_option maxHeartbeats 8000000 in
theorem bd_need_log {k : Nat} : bodyOf (sgOf ["log", "at"] Ls_need_log BLl CSl KTf CLf) k op_need_log (mc_of mc_need_log) (defScope (topS 8)) (defBody (topS 8)) = some (T_need_log KTf CLf) := by rfl
abbrev Fn__law_names : Fn := ⟨["_law_draw", "_law_many"], [], [], C__law_names⟩
abbrev Ls__law_names : List (Str × Fn) := [("_law_take", Fn__law_take), ("_law_pick", Fn__law_pick)]
theorem mc__law_names : ∀ e ∈ Ls__law_names, MonoC e.2.C := (mcs_cons CDr_mono (mcs_cons CDr_mono mcs_nil))
theorem sc__law_names : FnScope ["_law_draw", "_law_many", "_law_letters", "_law_found", "_law_k", "_law_long", "_law_name", "_law_sign", "_law_here", "_law_letter"] ["_law_draw", "_law_many"] (defScope (topS 17)) := ⟨rfl, rfl, rfl, by decide +kernel, rfl, by decide +kernel, by decide +kernel⟩
abbrev op__law_names : Opts := { keep := false, P := [2, 3, 4, 5, 6], ow := [("_law_take", [true, false]), ("_law_pick", [true, false]), ("_law_names", [true, false]), ("_law_log", [true, false, false]), ("_law_near", [true, false, false])], dv := ["great"] }
set_option maxHeartbeats 8000000 in
theorem bd__law_names {k : Nat} : bodyOf (sgOf ["_law_draw", "_law_many", "_law_letters", "_law_found", "_law_k", "_law_long", "_law_name", "_law_sign", "_law_here", "_law_letter"] Ls__law_names BLl CSl KTf CLf) k op__law_names (mc_of mc__law_names) (defScope (topS 17)) (defBody (topS 17)) = some T__law_names4 := by rfl
abbrev Fn__law_log : Fn := ⟨["_law_draw", "_law_names_here", "_law_most"], [], [], C__law_log⟩
abbrev Ls__law_log : List (Str × Fn) := [("_law_take", Fn__law_take), ("_law_pick", Fn__law_pick)]
theorem mc__law_log : ∀ e ∈ Ls__law_log, MonoC e.2.C := (mcs_cons CDr_mono (mcs_cons CDr_mono mcs_nil))
theorem sc__law_log : FnScope ["_law_draw", "_law_names_here", "_law_most", "_law_found", "_law_many", "_law_begin"] ["_law_draw", "_law_names_here", "_law_most"] (defScope (topS 18)) := ⟨rfl, rfl, rfl, by decide +kernel, rfl, by decide +kernel, by decide +kernel⟩
abbrev op__law_log : Opts := { keep := false, P := [3, 4, 5], ow := [("_law_take", [true, false]), ("_law_pick", [true, false]), ("_law_names", [true, false]), ("_law_log", [true, false, false]), ("_law_near", [true, false, false])], dv := ["great"] }
set_option maxHeartbeats 8000000 in
theorem bd__law_log {k : Nat} : bodyOf (sgOf ["_law_draw", "_law_names_here", "_law_most", "_law_found", "_law_many", "_law_begin"] Ls__law_log BLl CSl KTf CLf) k op__law_log (mc_of mc__law_log) (defScope (topS 18)) (defBody (topS 18)) = some T__law_log := by rfl
abbrev Fn__law_near : Fn := ⟨["_law_draw", "_law_names_here", "_law_log_here"], [], [], C__law_near⟩
abbrev Ls__law_near : List (Str × Fn) := [("_law_take", Fn__law_take), ("_law_pick", Fn__law_pick)]
theorem mc__law_near : ∀ e ∈ Ls__law_near, MonoC e.2.C := (mcs_cons CDr_mono (mcs_cons CDr_mono mcs_nil))
theorem sc__law_near : FnScope ["_law_draw", "_law_names_here", "_law_log_here", "_law_found", "_law_change", "_law_way", "_law_at"] ["_law_draw", "_law_names_here", "_law_log_here"] (defScope (topS 21)) := ⟨rfl, rfl, rfl, by decide +kernel, rfl, by decide +kernel, by decide +kernel⟩
abbrev op__law_near : Opts := { keep := false, P := [3, 4, 5, 6], ow := [("_law_take", [true, false]), ("_law_pick", [true, false]), ("_law_names", [true, false]), ("_law_log", [true, false, false]), ("_law_near", [true, false, false])], dv := ["great"] }
set_option maxHeartbeats 8000000 in
theorem bd__law_near {k : Nat} : bodyOf (sgOf ["_law_draw", "_law_names_here", "_law_log_here", "_law_found", "_law_change", "_law_way", "_law_at"] Ls__law_near BLl CSl KTf CLf) k op__law_near (mc_of mc__law_near) (defScope (topS 21)) (defBody (topS 21)) = some T__law_near := by rfl
abbrev Fn_parting_row : Fn := ⟨["one", "other"], [], [(0, ["other", "one"], [1, 0])], C_parting_row⟩
abbrev Ls_parting_row : List (Str × Fn) := [("place_behind", Fn_place_behind), ("need_log", Fn_need_log)]
theorem mc_parting_row : ∀ e ∈ Ls_parting_row, MonoC e.2.C := (mcs_cons CPu_mono (mcs_cons CPu_mono mcs_nil))
theorem sc_parting_row : FnScope ["one", "other", "names", "layer", "seen", "later", "row", "here", "there", "name", "at", "far"] ["one", "other"] (defScope (topS 11)) := ⟨rfl, rfl, rfl, by decide +kernel, rfl, by decide +kernel, by decide +kernel⟩
abbrev op_parting_row : Opts := { keep := false, P := [2, 3, 4, 5, 6, 7, 8, 9, 10, 11], ow := [("_law_take", [true, false]), ("_law_pick", [true, false]), ("_law_names", [true, false]), ("_law_log", [true, false, false]), ("_law_near", [true, false, false])], dv := ["great"] }
set_option maxHeartbeats 8000000 in
theorem bd_parting_row {k : Nat} : bodyOf (sgOf ["one", "other", "names", "layer", "seen", "later", "row", "here", "there", "name", "at", "far"] Ls_parting_row BLl CSl KTf CLf) k op_parting_row (mc_of mc_parting_row) (defScope (topS 11)) (defBody (topS 11)) = some T_parting_row := by rfl
abbrev Fn_greatest_k : Fn := ⟨["one", "other"], [], [(0, ["other", "one"], [1, 0])], C_greatest_k⟩
abbrev Ls_greatest_k : List (Str × Fn) := [("parting_row", Fn_parting_row)]
theorem mc_greatest_k : ∀ e ∈ Ls_greatest_k, MonoC e.2.C := (mcs_cons CPu_mono mcs_nil)
theorem sc_greatest_k : FnScope ["one", "other", "row"] ["one", "other"] (defScope (topS 12)) := ⟨rfl, rfl, rfl, by decide +kernel, rfl, by decide +kernel, by decide +kernel⟩
abbrev op_greatest_k : Opts := { keep := false, P := [2], ow := [("_law_take", [true, false]), ("_law_pick", [true, false]), ("_law_names", [true, false]), ("_law_log", [true, false, false]), ("_law_near", [true, false, false])], dv := ["great"] }
set_option maxHeartbeats 8000000 in
theorem bd_greatest_k {k : Nat} : bodyOf (sgOf ["one", "other", "row"] Ls_greatest_k BLl CSl KTf CLf) k op_greatest_k (mc_of mc_greatest_k) (defScope (topS 12)) (defBody (topS 12)) = some T_greatest_k := by rfl
abbrev Fn_law : Fn := ⟨["_law_script"], [], [], C_law⟩
abbrev Ls_law : List (Str × Fn) := [("_law_begun", Fn__law_begun), ("_law_take", Fn__law_take), ("_law_rows", Fn__law_rows), ("_law_listed", Fn__law_listed), ("_law_names", Fn__law_names), ("_law_log", Fn__law_log), ("_law_near", Fn__law_near), ("parting_row", Fn_parting_row), ("greatest_k", Fn_greatest_k)]
theorem mc_law : ∀ e ∈ Ls_law, MonoC e.2.C := (mcs_cons CPu_mono (mcs_cons CDr_mono (mcs_cons CPu_mono (mcs_cons CPu_mono (mcs_cons CDr_mono (mcs_cons CDr_mono (mcs_cons CDr_mono (mcs_cons CPu_mono (mcs_cons CPu_mono mcs_nil)))))))))
theorem sc_law : FnScope ["_law_script", "_law_draw", "_law_turn", "_law_names_here", "_law_here", "_law_there", "_law_rows_here", "_law_others", "_law_apart", "_law_due", "_law_shown", "_law_told", "_law_many", "_law_row"] ["_law_script"] (defScope (topS 22)) := ⟨rfl, rfl, rfl, by decide +kernel, rfl, by decide +kernel, by decide +kernel⟩
abbrev op_law : Opts := { keep := false, P := [1, 2, 3, 4, 5, 6, 7, 8, 9, 10, 11, 12], ow := [("_law_take", [true, false]), ("_law_pick", [true, false]), ("_law_names", [true, false]), ("_law_log", [true, false, false]), ("_law_near", [true, false, false])], dv := ["great"] }
set_option maxHeartbeats 8000000 in
theorem bd_law {k : Nat} : bodyOf (sgOf ["_law_script", "_law_draw", "_law_turn", "_law_names_here", "_law_here", "_law_there", "_law_rows_here", "_law_others", "_law_apart", "_law_due", "_law_shown", "_law_told", "_law_many", "_law_row"] Ls_law BLl CSl KTf CLf) k op_law (mc_of mc_law) (defScope (topS 22)) (defBody (topS 22)) = some T_law12 := by rfl
theorem all_mk {l : PySem.W.OpenLaw} {w : World} {K : PySem.W.Frag} {h : Heap} {mg : Str → Option Value} {fa : Addr} (X : K.In h) (G : h.Ns mainGlobals mg) (hfa : mg "law" = some (.ref fa))
    {f0 : Addr} {od0 an0 : Option Addr} {sl0 : Array (Option Value)} {oc0 kV0 dc0 pm0 cd0 ct0 : Value}
    {f1 : Addr} {od1 an1 : Option Addr} {sl1 : Array (Option Value)} {oc1 kV1 dc1 pm1 cd1 ct1 : Value}
    {f2 : Addr} {od2 an2 : Option Addr} {sl2 : Array (Option Value)} {oc2 kV2 dc2 pm2 cd2 ct2 : Value}
    {f3 : Addr} {od3 an3 : Option Addr} {sl3 : Array (Option Value)} {oc3 kV3 dc3 pm3 cd3 ct3 : Value}
    {f4 : Addr} {od4 an4 : Option Addr} {sl4 : Array (Option Value)} {oc4 kV4 dc4 pm4 cd4 ct4 : Value}
    {f5 : Addr} {od5 an5 : Option Addr} {sl5 : Array (Option Value)} {oc5 kV5 dc5 pm5 cd5 ct5 : Value}
    {f6 : Addr} {od6 an6 : Option Addr} {sl6 : Array (Option Value)} {oc6 kV6 dc6 pm6 cd6 ct6 : Value}
    {f7 : Addr} {od7 an7 : Option Addr} {sl7 : Array (Option Value)} {oc7 kV7 dc7 pm7 cd7 ct7 : Value}
    {f8 : Addr} {od8 an8 : Option Addr} {sl8 : Array (Option Value)} {oc8 kV8 dc8 pm8 cd8 ct8 : Value}
    {f9 : Addr} {od9 an9 : Option Addr} {sl9 : Array (Option Value)} {oc9 kV9 dc9 pm9 cd9 ct9 : Value}
    {f10 : Addr} {od10 an10 : Option Addr} {sl10 : Array (Option Value)} {oc10 kV10 dc10 pm10 cd10 ct10 : Value}
    {f11 : Addr} {od11 an11 : Option Addr} {sl11 : Array (Option Value)} {oc11 kV11 dc11 pm11 cd11 ct11 : Value}
    {f12 : Addr} {od12 an12 : Option Addr} {sl12 : Array (Option Value)} {oc12 kV12 dc12 pm12 cd12 ct12 : Value}
    {f13 : Addr} {od13 an13 : Option Addr} {sl13 : Array (Option Value)} {oc13 kV13 dc13 pm13 cd13 ct13 : Value}
    {f14 : Addr} {od14 an14 : Option Addr} {sl14 : Array (Option Value)} {oc14 kV14 dc14 pm14 cd14 ct14 : Value}
    {tk0 : Tok}
    {tk1 : Tok}
    (a0 : PySem.W.nsIn K mainGlobals "is_name" = some (some (.ref f0))) (l0 : K.lookup f0 = some ⟨oc0, od0, .func (PySem.W.fnOf "is_name" "is_name" (defArgs (topS 6)) (defBody (topS 6)) (defScope (topS 6)) .none kV0 dc0 pm0 an0 cd0 ct0), sl0⟩) (c0 : PySem.W.codeIn K cd0 "is_name" = true) (k0 : PySem.W.keepIn K (.ref f0) = true)
    (a1 : PySem.W.nsIn K mainGlobals "place_behind" = some (some (.ref f1))) (l1 : K.lookup f1 = some ⟨oc1, od1, .func (PySem.W.fnOf "place_behind" "place_behind" (defArgs (topS 9)) (defBody (topS 9)) (defScope (topS 9)) .none kV1 dc1 pm1 an1 cd1 ct1), sl1⟩) (c1 : PySem.W.codeIn K cd1 "place_behind" = true) (k1 : PySem.W.keepIn K (.ref f1) = true)
    (a2 : PySem.W.nsIn K mainGlobals "_law_begun" = some (some (.ref f2))) (l2 : K.lookup f2 = some ⟨oc2, od2, .func (PySem.W.fnOf "_law_begun" "_law_begun" (defArgs (topS 14)) (defBody (topS 14)) (defScope (topS 14)) .none kV2 dc2 pm2 an2 cd2 ct2), sl2⟩) (c2 : PySem.W.codeIn K cd2 "_law_begun" = true) (k2 : PySem.W.keepIn K (.ref f2) = true)
    (a3 : PySem.W.nsIn K mainGlobals "_law_take" = some (some (.ref f3))) (l3 : K.lookup f3 = some ⟨oc3, od3, .func (PySem.W.fnOf "_law_take" "_law_take" (defArgs (topS 15)) (defBody (topS 15)) (defScope (topS 15)) .none kV3 dc3 pm3 an3 cd3 ct3), sl3⟩) (c3 : PySem.W.codeIn K cd3 "_law_take" = true) (k3 : PySem.W.keepIn K (.ref f3) = true)
    (a4 : PySem.W.nsIn K mainGlobals "_law_rows" = some (some (.ref f4))) (l4 : K.lookup f4 = some ⟨oc4, od4, .func (PySem.W.fnOf "_law_rows" "_law_rows" (defArgs (topS 19)) (defBody (topS 19)) (defScope (topS 19)) .none kV4 dc4 pm4 an4 cd4 ct4), sl4⟩) (c4 : PySem.W.codeIn K cd4 "_law_rows" = true) (k4 : PySem.W.keepIn K (.ref f4) = true)
    (a5 : PySem.W.nsIn K mainGlobals "_law_listed" = some (some (.ref f5))) (l5 : K.lookup f5 = some ⟨oc5, od5, .func (PySem.W.fnOf "_law_listed" "_law_listed" (defArgs (topS 20)) (defBody (topS 20)) (defScope (topS 20)) .none kV5 dc5 pm5 an5 cd5 ct5), sl5⟩) (c5 : PySem.W.codeIn K cd5 "_law_listed" = true) (k5 : PySem.W.keepIn K (.ref f5) = true)
    (a6 : PySem.W.nsIn K mainGlobals "first_wrong" = some (some (.ref f6))) (l6 : K.lookup f6 = some ⟨oc6, od6, .func (PySem.W.fnOf "first_wrong" "first_wrong" (defArgs (topS 7)) (defBody (topS 7)) (defScope (topS 7)) .none kV6 dc6 pm6 an6 cd6 ct6), sl6⟩) (c6 : PySem.W.codeIn K cd6 "first_wrong" = true) (k6 : PySem.W.keepIn K (.ref f6) = true)
    (a7 : PySem.W.nsIn K mainGlobals "_law_pick" = some (some (.ref f7))) (l7 : K.lookup f7 = some ⟨oc7, od7, .func (PySem.W.fnOf "_law_pick" "_law_pick" (defArgs (topS 16)) (defBody (topS 16)) (defScope (topS 16)) .none kV7 dc7 pm7 an7 cd7 ct7), sl7⟩) (c7 : PySem.W.codeIn K cd7 "_law_pick" = true) (k7 : PySem.W.keepIn K (.ref f7) = true)
    (a8 : PySem.W.nsIn K mainGlobals "need_log" = some (some (.ref f8))) (l8 : K.lookup f8 = some ⟨oc8, od8, .func (PySem.W.fnOf "need_log" "need_log" (defArgs (topS 8)) (defBody (topS 8)) (defScope (topS 8)) .none kV8 dc8 pm8 an8 cd8 ct8), sl8⟩) (c8 : PySem.W.codeIn K cd8 "need_log" = true) (k8 : PySem.W.keepIn K (.ref f8) = true)
    (a9 : PySem.W.nsIn K mainGlobals "_law_names" = some (some (.ref f9))) (l9 : K.lookup f9 = some ⟨oc9, od9, .func (PySem.W.fnOf "_law_names" "_law_names" (defArgs (topS 17)) (defBody (topS 17)) (defScope (topS 17)) .none kV9 dc9 pm9 an9 cd9 ct9), sl9⟩) (c9 : PySem.W.codeIn K cd9 "_law_names" = true) (k9 : PySem.W.keepIn K (.ref f9) = true)
    (a10 : PySem.W.nsIn K mainGlobals "_law_log" = some (some (.ref f10))) (l10 : K.lookup f10 = some ⟨oc10, od10, .func (PySem.W.fnOf "_law_log" "_law_log" (defArgs (topS 18)) (defBody (topS 18)) (defScope (topS 18)) .none kV10 dc10 pm10 an10 cd10 ct10), sl10⟩) (c10 : PySem.W.codeIn K cd10 "_law_log" = true) (k10 : PySem.W.keepIn K (.ref f10) = true)
    (a11 : PySem.W.nsIn K mainGlobals "_law_near" = some (some (.ref f11))) (l11 : K.lookup f11 = some ⟨oc11, od11, .func (PySem.W.fnOf "_law_near" "_law_near" (defArgs (topS 21)) (defBody (topS 21)) (defScope (topS 21)) .none kV11 dc11 pm11 an11 cd11 ct11), sl11⟩) (c11 : PySem.W.codeIn K cd11 "_law_near" = true) (k11 : PySem.W.keepIn K (.ref f11) = true)
    (a12 : PySem.W.nsIn K mainGlobals "parting_row" = some (some (.ref f12))) (l12 : K.lookup f12 = some ⟨oc12, od12, .func (PySem.W.fnOf "parting_row" "parting_row" (defArgs (topS 11)) (defBody (topS 11)) (defScope (topS 11)) .none kV12 dc12 pm12 an12 cd12 ct12), sl12⟩) (c12 : PySem.W.codeIn K cd12 "parting_row" = true) (k12 : PySem.W.keepIn K (.ref f12) = true)
    (a13 : PySem.W.nsIn K mainGlobals "greatest_k" = some (some (.ref f13))) (l13 : K.lookup f13 = some ⟨oc13, od13, .func (PySem.W.fnOf "greatest_k" "greatest_k" (defArgs (topS 12)) (defBody (topS 12)) (defScope (topS 12)) .none kV13 dc13 pm13 an13 cd13 ct13), sl13⟩) (c13 : PySem.W.codeIn K cd13 "greatest_k" = true) (k13 : PySem.W.keepIn K (.ref f13) = true)
    (a14 : PySem.W.nsIn K mainGlobals "law" = some (some (.ref f14))) (l14 : K.lookup f14 = some ⟨oc14, od14, .func (PySem.W.fnOf "law" "law" (defArgs (topS 22)) (defBody (topS 22)) (defScope (topS 22)) .none kV14 dc14 pm14 an14 cd14 ct14), sl14⟩) (c14 : PySem.W.codeIn K cd14 "law" = true) (k14 : PySem.W.keepIn K (.ref f14) = true)
    (z0 : PySem.W.nsIn K mainGlobals "len" = some none)
    (z1 : PySem.W.nsIn K mainGlobals "abs" = some none)
    (z2 : PySem.W.nsIn K mainGlobals "min" = some none)
    (z3 : PySem.W.nsIn K mainGlobals "all" = some none)
    (z4 : PySem.W.nsIn K mainGlobals "int" = some none)
    (z5 : PySem.W.nsIn K mainGlobals "str" = some none)
    (z6 : PySem.W.nsIn K mainGlobals "list" = some none)
    (z7 : PySem.W.nsIn K mainGlobals "tuple" = some none)
    (z8 : PySem.W.nsIn K mainGlobals "sorted" = some none)
    (z9 : PySem.W.nsIn K mainGlobals "repr" = some none)
    (z10 : PySem.W.nsIn K mainGlobals "isinstance" = some none)
    (z11 : PySem.W.nsIn K mainGlobals "range" = some none)
    (z12 : PySem.W.nsIn K mainGlobals "enumerate" = some none)
    (gc0 : PySem.W.nsIn K mainGlobals "LETTERS" = some (some (.str "abcdefghijklmnopqrstuvwxyz" tk0)))
    (gc1 : PySem.W.nsIn K mainGlobals "LONGEST_NAME" = some (some (.int (6) tk1))) :
    ∃ fd : FuncData, (∀ (s : Shared) (v : Value), BindsTo s fd ⟨[v], []⟩ [("_law_script", v)]) ∧ ∀ base : Heap, K.In base → base.Ns mainGlobals mg → FnG l.prog w K mg base 6 fa fd ["_law_script"] (liftC mg 1 C_law) := by
  have en : EnvOk K mg BLl CSl KTf CLf := by
    refine ⟨fun x hx => ?_, fun e he => ?_, (fun _ _ _ h => nomatch h), (fun _ h => nomatch h)⟩
    · simp only [BLl, List.mem_cons, List.not_mem_nil, or_false] at hx
      rcases hx with rfl | rfl | rfl | rfl | rfl | rfl | rfl | rfl | rfl | rfl | rfl | rfl | rfl
      · exact PySem.W.mg_none_of X G z0
      · exact PySem.W.mg_none_of X G z1
      · exact PySem.W.mg_none_of X G z2
      · exact PySem.W.mg_none_of X G z3
      · exact PySem.W.mg_none_of X G z4
      · exact PySem.W.mg_none_of X G z5
      · exact PySem.W.mg_none_of X G z6
      · exact PySem.W.mg_none_of X G z7
      · exact PySem.W.mg_none_of X G z8
      · exact PySem.W.mg_none_of X G z9
      · exact PySem.W.mg_none_of X G z10
      · exact PySem.W.mg_none_of X G z11
      · exact PySem.W.mg_none_of X G z12
    · simp only [CSl, List.mem_cons, List.not_mem_nil, or_false] at he
      rcases he with rfl | rfl
      · exact ⟨_, PySem.W.mg_of X G gc0, ⟨_, rfl⟩⟩
      · exact ⟨_, PySem.W.mg_of X G gc1, ⟨_, rfl⟩⟩
  have F0 := funx_mk (st := topS 6) l0 c0 k0
  have e_is_name : ∀ base : Heap, K.In base → base.Ns mainGlobals mg → EntOk l.prog w K mg base 1 "is_name" Fn_is_name := fun base hb hn => by
    refine ent_mk (k := 0) F0 (PySem.W.mg_of X G a0) (F0.binds (ps := ["value"]) fun _ _ _ _ _ _ us hl => match us, hl with | [_], _ => rfl) .nil .nil sc_is_name CPu_mono AllOk.nil en bd_is_name k_is_nameV (fun q hq => nomatch hq)
  have F1 := funx_mk (st := topS 9) l1 c1 k1
  have e_place_behind : ∀ base : Heap, K.In base → base.Ns mainGlobals mg → EntOk l.prog w K mg base 1 "place_behind" Fn_place_behind := fun base hb hn => by
    refine ent_mk (k := 0) F1 (PySem.W.mg_of X G a1) (F1.binds (ps := ["log", "name", "at"]) fun _ _ _ _ _ _ us hl => match us, hl with | [_, _, _], _ => rfl) .nil .nil sc_place_behind CPu_mono AllOk.nil en bd_place_behind k_place (fun q hq => nomatch hq)
  have F2 := funx_mk (st := topS 14) l2 c2 k2
  have e__law_begun : ∀ base : Heap, K.In base → base.Ns mainGlobals mg → EntOk l.prog w K mg base 1 "_law_begun" Fn__law_begun := fun base hb hn => by
    refine ent_mk (k := 0) F2 (PySem.W.mg_of X G a2) (F2.binds (ps := ["_law_script"]) fun _ _ _ _ _ _ us hl => match us, hl with | [_], _ => rfl) .nil .nil sc__law_begun CPu_mono AllOk.nil en bd__law_begun k_begun (fun q hq => nomatch hq)
  have F3 := funx_mk (st := topS 15) l3 c3 k3
  have e__law_take : ∀ base : Heap, K.In base → base.Ns mainGlobals mg → EntOk l.prog w K mg base 1 "_law_take" Fn__law_take := fun base hb hn => by
    refine ent_mk (k := 0) F3 (PySem.W.mg_of X G a3) (F3.binds (ps := ["_law_draw", "_law_many"]) fun _ _ _ _ _ _ us hl => match us, hl with | [_, _], _ => rfl) .nil .nil sc__law_take CDr_mono AllOk.nil en bd__law_take k_take (fun q hq => nomatch hq)
  have F4 := funx_mk (st := topS 19) l4 c4 k4
  have e__law_rows : ∀ base : Heap, K.In base → base.Ns mainGlobals mg → EntOk l.prog w K mg base 1 "_law_rows" Fn__law_rows := fun base hb hn => by
    refine ent_mk (k := 0) F4 (PySem.W.mg_of X G a4) (F4.binds (ps := ["_law_log_here", "_law_k"]) fun _ _ _ _ _ _ us hl => match us, hl with | [_, _], _ => rfl) .nil .nil sc__law_rows CPu_mono AllOk.nil en bd__law_rows k_lrows (fun q hq => nomatch hq)
  have F5 := funx_mk (st := topS 20) l5 c5 k5
  have e__law_listed : ∀ base : Heap, K.In base → base.Ns mainGlobals mg → EntOk l.prog w K mg base 1 "_law_listed" Fn__law_listed := fun base hb hn => by
    refine ent_mk (k := 0) F5 (PySem.W.mg_of X G a5) (F5.binds (ps := ["_law_rows_here"]) fun _ _ _ _ _ _ us hl => match us, hl with | [_], _ => rfl) .nil .nil sc__law_listed CPu_mono AllOk.nil en bd__law_listed k_listed (fun q hq => nomatch hq)
  have F6 := funx_mk (st := topS 7) l6 c6 k6
  have e_first_wrong : ∀ base : Heap, K.In base → base.Ns mainGlobals mg → EntOk l.prog w K mg base 2 "first_wrong" Fn_first_wrong := fun base hb hn => by
    refine ent_mk (k := 1) F6 (PySem.W.mg_of X G a6) (F6.binds (ps := ["items"]) fun _ _ _ _ _ _ us hl => match us, hl with | [_], _ => rfl) .nil .nil sc_first_wrong CPu_mono (AllOk.cons ((e_is_name base hb hn).up (by decide)) AllOk.nil) en bd_first_wrong k_first_wrongV (fun q hq => nomatch hq)
  have F7 := funx_mk (st := topS 16) l7 c7 k7
  have e__law_pick : ∀ base : Heap, K.In base → base.Ns mainGlobals mg → EntOk l.prog w K mg base 2 "_law_pick" Fn__law_pick := fun base hb hn => by
    refine ent_mk (k := 1) F7 (PySem.W.mg_of X G a7) (F7.binds (ps := ["_law_draw", "_law_some"]) fun _ _ _ _ _ _ us hl => match us, hl with | [_, _], _ => rfl) .nil .nil sc__law_pick CDr_mono (AllOk.cons ((e__law_take base hb hn).up (by decide)) AllOk.nil) en bd__law_pick k_pick (fun q hq => nomatch hq)
  have F8 := funx_mk (st := topS 8) l8 c8 k8
  have e_need_log : ∀ base : Heap, K.In base → base.Ns mainGlobals mg → EntOk l.prog w K mg base 3 "need_log" Fn_need_log := fun base hb hn => by
    refine ent_mk (k := 2) F8 (PySem.W.mg_of X G a8) (F8.binds (ps := ["log"]) fun _ _ _ _ _ _ us hl => match us, hl with | [_], _ => rfl) .nil .nil sc_need_log CPu_mono (AllOk.cons ((e_first_wrong base hb hn).up (by decide)) AllOk.nil) en bd_need_log k_need_log (fun q hq => nomatch hq)
  have F9 := funx_mk (st := topS 17) l9 c9 k9
  have e__law_names : ∀ base : Heap, K.In base → base.Ns mainGlobals mg → EntOk l.prog w K mg base 3 "_law_names" Fn__law_names := fun base hb hn => by
    refine ent_mk (k := 2) F9 (PySem.W.mg_of X G a9) (F9.binds (ps := ["_law_draw", "_law_many"]) fun _ _ _ _ _ _ us hl => match us, hl with | [_, _], _ => rfl) .nil .nil sc__law_names CDr_mono (AllOk.cons ((e__law_take base hb hn).up (by decide)) (AllOk.cons ((e__law_pick base hb hn).up (by decide)) AllOk.nil)) en bd__law_names k_names4 (fun q hq => nomatch hq)
  have F10 := funx_mk (st := topS 18) l10 c10 k10
  have e__law_log : ∀ base : Heap, K.In base → base.Ns mainGlobals mg → EntOk l.prog w K mg base 3 "_law_log" Fn__law_log := fun base hb hn => by
    refine ent_mk (k := 2) F10 (PySem.W.mg_of X G a10) (F10.binds (ps := ["_law_draw", "_law_names_here", "_law_most"]) fun _ _ _ _ _ _ us hl => match us, hl with | [_, _, _], _ => rfl) .nil .nil sc__law_log CDr_mono (AllOk.cons ((e__law_take base hb hn).up (by decide)) (AllOk.cons ((e__law_pick base hb hn).up (by decide)) AllOk.nil)) en bd__law_log k_log (fun q hq => nomatch hq)
  have F11 := funx_mk (st := topS 21) l11 c11 k11
  have e__law_near : ∀ base : Heap, K.In base → base.Ns mainGlobals mg → EntOk l.prog w K mg base 3 "_law_near" Fn__law_near := fun base hb hn => by
    refine ent_mk (k := 2) F11 (PySem.W.mg_of X G a11) (F11.binds (ps := ["_law_draw", "_law_names_here", "_law_log_here"]) fun _ _ _ _ _ _ us hl => match us, hl with | [_, _, _], _ => rfl) .nil .nil sc__law_near CDr_mono (AllOk.cons ((e__law_take base hb hn).up (by decide)) (AllOk.cons ((e__law_pick base hb hn).up (by decide)) AllOk.nil)) en bd__law_near k_near (fun q hq => nomatch hq)
  have F12 := funx_mk (st := topS 11) l12 c12 k12
  have e_parting_row : ∀ base : Heap, K.In base → base.Ns mainGlobals mg → EntOk l.prog w K mg base 4 "parting_row" Fn_parting_row := fun base hb hn => by
    refine ent_mk (k := 3) F12 (PySem.W.mg_of X G a12) (F12.binds (ps := ["one", "other"]) fun _ _ _ _ _ _ us hl => match us, hl with | [_, _], _ => rfl) .nil .nil sc_parting_row CPu_mono (AllOk.cons ((e_place_behind base hb hn).up (by decide)) (AllOk.cons ((e_need_log base hb hn).up (by decide)) AllOk.nil)) en bd_parting_row k_parting ?kw12
    case kw12 =>
    intro q hq
    simp only [List.mem_cons, List.not_mem_nil, or_false] at hq
    rcases hq with rfl
    · exact ⟨by decide, by decide, by decide, fun s us ws _ hu hw => match us, ws, hu, hw with | [], [w0, w1], _, _ => .of_eq rfl⟩
  have F13 := funx_mk (st := topS 12) l13 c13 k13
  have e_greatest_k : ∀ base : Heap, K.In base → base.Ns mainGlobals mg → EntOk l.prog w K mg base 5 "greatest_k" Fn_greatest_k := fun base hb hn => by
    refine ent_mk (k := 4) F13 (PySem.W.mg_of X G a13) (F13.binds (ps := ["one", "other"]) fun _ _ _ _ _ _ us hl => match us, hl with | [_, _], _ => rfl) .nil .nil sc_greatest_k CPu_mono (AllOk.cons ((e_parting_row base hb hn).up (by decide)) AllOk.nil) en bd_greatest_k k_greatest ?kw13
    case kw13 =>
    intro q hq
    simp only [List.mem_cons, List.not_mem_nil, or_false] at hq
    rcases hq with rfl
    · exact ⟨by decide, by decide, by decide, fun s us ws _ hu hw => match us, ws, hu, hw with | [], [w0, w1], _, _ => .of_eq rfl⟩
  have F14 := funx_mk (st := topS 22) l14 c14 k14
  have e_law : ∀ base : Heap, K.In base → base.Ns mainGlobals mg → EntOk l.prog w K mg base 6 "law" Fn_law := fun base hb hn => by
    refine ent_mk (k := 5) F14 (PySem.W.mg_of X G a14) (F14.binds (ps := ["_law_script"]) fun _ _ _ _ _ _ us hl => match us, hl with | [_], _ => rfl) .nil .nil sc_law CPu_mono (AllOk.cons ((e__law_begun base hb hn).up (by decide)) (AllOk.cons ((e__law_take base hb hn).up (by decide)) (AllOk.cons ((e__law_rows base hb hn).up (by decide)) (AllOk.cons ((e__law_listed base hb hn).up (by decide)) (AllOk.cons ((e__law_names base hb hn).up (by decide)) (AllOk.cons ((e__law_log base hb hn).up (by decide)) (AllOk.cons ((e__law_near base hb hn).up (by decide)) (AllOk.cons ((e_parting_row base hb hn).up (by decide)) (AllOk.cons ((e_greatest_k base hb hn).up (by decide)) AllOk.nil))))))))) en bd_law k_law12 (fun q hq => nomatch hq)
  have e := hfa.symm.trans (PySem.W.mg_of X G a14)
  cases e
  refine ⟨PySem.W.fnOf "law" "law" (defArgs (topS 22)) (defBody (topS 22)) (defScope (topS 22)) .none kV14 dc14 pm14 an14 cd14 ct14, fun s v => .of_eq rfl, fun base hb hn => ?_⟩
  exact fn_ok (Γ := sgOf ["_law_script", "_law_draw", "_law_turn", "_law_names_here", "_law_here", "_law_there", "_law_rows_here", "_law_others", "_law_apart", "_law_due", "_law_shown", "_law_told", "_law_many", "_law_row"] Ls_law BLl CSl KTf CLf) F14 sc_law (gok_of (AllOk.cons ((e__law_begun base hb hn).up (by decide)) (AllOk.cons ((e__law_take base hb hn).up (by decide)) (AllOk.cons ((e__law_rows base hb hn).up (by decide)) (AllOk.cons ((e__law_listed base hb hn).up (by decide)) (AllOk.cons ((e__law_names base hb hn).up (by decide)) (AllOk.cons ((e__law_log base hb hn).up (by decide)) (AllOk.cons ((e__law_near base hb hn).up (by decide)) (AllOk.cons ((e_parting_row base hb hn).up (by decide)) (AllOk.cons ((e_greatest_k base hb hn).up (by decide)) AllOk.nil))))))))) en) (bodyOf_at bd_law) k_law12
end VS
open PySem PySem.W PyProof.Rows
set_option maxRecDepth 100000 in
set_option maxHeartbeats 0 in
theorem PySem.Challenge.cw_glancelogs_k12_least_rows_that_part_logs_holds : PySem.Challenge.rw_glancelogs_k12_least_rows_that_part_logs.Holds := by
  w_on; o_law; k_head; (case hw => w_witness2)
  k_fill
  refine VS.walk_ofG (l := PySem.Challenge.rw_glancelogs_k12_least_rows_that_part_logs) (n := 63) (k := 6) (C := VS.C_law) (x := "_law_script") rfl (by decide) rfl ⟨rfl, by decide, by decide⟩ (fun w h Y => PySem.W.kIn_of Y) ?NL ?F VS.CPu_mono VS.law_c
  case NL =>
    intro w
    first | rfl | k_is
  case F =>
    intro w mg fa h KX G hmg
    refine' VS.all_mk KX G hmg ?a0 ?l0 ?c0 ?k0 ?a1 ?l1 ?c1 ?k1 ?a2 ?l2 ?c2 ?k2 ?a3 ?l3 ?c3 ?k3 ?a4 ?l4 ?c4 ?k4 ?a5 ?l5 ?c5 ?k5 ?a6 ?l6 ?c6 ?k6 ?a7 ?l7 ?c7 ?k7 ?a8 ?l8 ?c8 ?k8 ?a9 ?l9 ?c9 ?k9 ?a10 ?l10 ?c10 ?k10 ?a11 ?l11 ?c11 ?k11 ?a12 ?l12 ?c12 ?k12 ?a13 ?l13 ?c13 ?k13 ?a14 ?l14 ?c14 ?k14 ?z0 ?z1 ?z2 ?z3 ?z4 ?z5 ?z6 ?z7 ?z8 ?z9 ?z10 ?z11 ?z12 ?gc0 ?gc1
    (case a0 => k_is); (case l0 => k_is); (case c0 => k_is); (case k0 => k_is); (case a1 => k_is); (case l1 => k_is); (case c1 => k_is); (case k1 => k_is); (case a2 => k_is); (case l2 => k_is); (case c2 => k_is); (case k2 => k_is); (case a3 => k_is); (case l3 => k_is); (case c3 => k_is); (case k3 => k_is); (case a4 => k_is); (case l4 => k_is); (case c4 => k_is); (case k4 => k_is); (case a5 => k_is); (case l5 => k_is); (case c5 => k_is); (case k5 => k_is); (case a6 => k_is); (case l6 => k_is); (case c6 => k_is); (case k6 => k_is); (case a7 => k_is); (case l7 => k_is); (case c7 => k_is); (case k7 => k_is); (case a8 => k_is); (case l8 => k_is); (case c8 => k_is); (case k8 => k_is); (case a9 => k_is); (case l9 => k_is); (case c9 => k_is); (case k9 => k_is); (case a10 => k_is); (case l10 => k_is); (case c10 => k_is); (case k10 => k_is); (case a11 => k_is); (case l11 => k_is); (case c11 => k_is); (case k11 => k_is); (case a12 => k_is); (case l12 => k_is); (case c12 => k_is); (case k12 => k_is); (case a13 => k_is); (case l13 => k_is); (case c13 => k_is); (case k13 => k_is); (case a14 => k_is); (case l14 => k_is); (case c14 => k_is); (case k14 => k_is); (case z0 => k_is); (case z1 => k_is); (case z2 => k_is); (case z3 => k_is); (case z4 => k_is); (case z5 => k_is); (case z6 => k_is); (case z7 => k_is); (case z8 => k_is); (case z9 => k_is); (case z10 => k_is); (case z11 => k_is); (case z12 => k_is); (case gc0 => k_is); (case gc1 => k_is)
