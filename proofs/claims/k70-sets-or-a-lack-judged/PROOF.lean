import PyProof.Rows.All
import Wide.All
import OpenK.AllK
import Wide.FinOn
import HandS.ForMost
import HandS.ForExc
import HandS.Defaults
import HandS.CallSlots
import HandS.Wide
import HandS.Deep
import HandS.TupAny
import HandS.IsInst
import HandS.SetFor
import HandS.Zip
import HandS.Conv
import KE.KTupSum
import HandS.Style
import HandS.Head0
import HandS.Head1
import HandS.Head2
import HandS.HeadEnd
import HandS.HeadHook1
import HandS.HeadHook2
import HandS.SortInts
import HandS.Strs
import HandS.Set
import PySem.Challenge.RW_countwide_k70_whole_sets_or_a_lack_judge
set_option Elab.async false
set_option linter.all false
set_option maxRecDepth 100000
set_option maxHeartbeats 2000000
/-! The tree layer 1: values as trees, what is held. -/
namespace Tr
open PySem PySem.Spec PyProof.Rows L2

/-- a dict's keys, in their order: ints and texts, or tuples of them -/
inductive KD where
  | k (ks : List Key) | t (ks : List (List Key))
def KD.ho : KD → List V → HO
  | .k ks, vs => .dK (ks.zip vs)
  | .t ks, vs => .dT (ks.zip vs)
def KD.len : KD → Nat
  | .k ks => ks.length
  | .t ks => ks.length

/-- values as trees; o: owned by its holder alone -/
inductive D where
  | non | bl (b : Bool) | int (i : Int) | str (x : Str) | ty (n : String) | obj (a : Addr)
  | tup (ds : List D) | lst (o : Bool) (ds : List D) | scr (ns : List Int)
  | ins (o : Bool) (C : Addr) (ns : List Str) (ds : List D)
  | dct (o : Bool) (ks : KD) (ds : List D)

def D.flag : D → Bool
  | .lst o _ => o
  | .ins o _ _ _ => o
  | .dct o _ _ => o
  | _ => false
mutual
def D.frz : D → D
  | .lst true ds => .lst false (frzL ds)
  | .ins true C ns ds => .ins false C ns (frzL ds)
  | .dct true ks ds => .dct false ks (frzL ds)
  | d => d
def frzL : List D → List D
  | [] => []
  | d :: ds => d.frz :: frzL ds
end

abbrev AS := Addr → Prop
def LkL (K : PySem.W.Frag) (H : Hp) (a : Addr) (xs : List V) : Prop :=
  (∃ o, H a = some (.frz o (.lst xs))) ∨
    ∃ (o : Obj) (its : Array Value) (n : Nat), K.lookup a = some o ∧ o.cls = .type "list" ∧ o.dict = none ∧ o.data = .seq its n ∧ its.size ≤ sizeLine ∧ Vals xs its.toList
theorem LkL.seq {K : PySem.W.Frag} {H : Hp} {a : Addr} {xs : List V} (h : LkL K H a xs) : SqL K H a xs := by
  rcases h with ⟨o, h⟩ | h
  · exact .inl (.inr ⟨o, h⟩)
  · exact .inr h

def TkT (K : PySem.W.Frag) (H : Hp) (a : Addr) (xs : List V) : Prop :=
  H a = some (.tup xs) ∨
    ∃ (o : Obj) (its : Array Value) (n : Nat), K.lookup a = some o ∧ o.cls = .type "tuple" ∧ o.data = .seq its n ∧ its.size ≤ sizeLine ∧ Vals xs its.toList
theorem TkT.seq {K : PySem.W.Frag} {H : Hp} {a : Addr} {xs : List V} (h : TkT K H a xs) : SqT K H a xs := by
  rcases h with h | h
  · exact .inl (.inl h)
  · exact .inr h
mutual
def Rp (K : PySem.W.Frag) (Z : AS) (H : Hp) : D → V → List Addr → Prop
  | .non, v, fp => v = .non ∧ fp = []
  | .bl b, v, fp => v = .bl b ∧ fp = []
  | .int i, v, fp => v = .int i ∧ fp = []
  | .str x, v, fp => v = .str x ∧ fp = []
  | .ty n, v, fp => v = .ty n ∧ fp = []
  | .obj a, v, fp => v = .ref a ∧ fp = []
  | .tup ds, v, fp => fp = [] ∧ ∃ a vs, v = .ref a ∧ TkT K H a vs ∧ RpL K Z H ds vs []
  | .scr ns, v, fp => fp = [] ∧ ∃ a, v = .ref a ∧ LkL K H a (ns.map V.int)
  | .lst o ds, v, fp => (o = false ∧ fp = [] ∧ ∃ a vs, v = .ref a ∧ Z a ∧ H a = some (.lst vs) ∧ RpL K Z H ds vs []) ∨
      (o = true ∧ ∃ a vs fp', v = .ref a ∧ fp = a :: fp' ∧ ¬ Z a ∧ H a = some (.lst vs) ∧ RpL K Z H ds vs fp')
  | .ins o C ns ds, v, fp => (o = false ∧ fp = [] ∧ ∃ a dx fs, v = .ref a ∧ Z a ∧ H a = some (.ins C dx fs) ∧ fs.map (·.1) = ns ∧ ns.Nodup ∧ RpL K Z H ds (fs.map (·.2)) []) ∨
      (o = true ∧ ∃ a dx fs fp', v = .ref a ∧ fp = a :: fp' ∧ ¬ Z a ∧ H a = some (.ins C dx fs) ∧ fs.map (·.1) = ns ∧ ns.Nodup ∧ RpL K Z H ds (fs.map (·.2)) fp')
  | .dct o ks ds, v, fp => (o = false ∧ fp = [] ∧ ∃ a vs, v = .ref a ∧ Z a ∧ H a = some (ks.ho vs) ∧ ks.len = vs.length ∧ RpL K Z H ds vs []) ∨
      (o = true ∧ ∃ a vs fp', v = .ref a ∧ fp = a :: fp' ∧ ¬ Z a ∧ H a = some (ks.ho vs) ∧ ks.len = vs.length ∧ RpL K Z H ds vs fp')
def RpL (K : PySem.W.Frag) (Z : AS) (H : Hp) : List D → List V → List Addr → Prop
  | [], vs, fp => vs = [] ∧ fp = []
  | d :: ds, vs, fp => ∃ v vr f1 f2, vs = v :: vr ∧ fp = f1 ++ f2 ∧ Rp K Z H d v f1 ∧ RpL K Z H ds vr f2
end

theorem RpL_nil {K : PySem.W.Frag} {Z : AS} {H : Hp} {vs : List V} {fp : List Addr} : RpL K Z H [] vs fp ↔ vs = [] ∧ fp = [] := Iff.rfl
theorem RpL_cons {K : PySem.W.Frag} {Z : AS} {H : Hp} {d : D} {ds : List D} {vs : List V} {fp : List Addr} : RpL K Z H (d :: ds) vs fp ↔ ∃ v vr f1 f2, vs = v :: vr ∧ fp = f1 ++ f2 ∧ Rp K Z H d v f1 ∧ RpL K Z H ds vr f2 := Iff.rfl
theorem Rp_non {K : PySem.W.Frag} {Z : AS} {H : Hp} {v : V} {fp : List Addr} : Rp K Z H .non v fp ↔ v = .non ∧ fp = [] := Iff.rfl
theorem Rp_bl {K : PySem.W.Frag} {Z : AS} {H : Hp} {v : V} {fp : List Addr} {b : Bool} : Rp K Z H (.bl b) v fp ↔ v = .bl b ∧ fp = [] := Iff.rfl
theorem Rp_int {K : PySem.W.Frag} {Z : AS} {H : Hp} {v : V} {fp : List Addr} {i : Int} : Rp K Z H (.int i) v fp ↔ v = .int i ∧ fp = [] := Iff.rfl
theorem Rp_str {K : PySem.W.Frag} {Z : AS} {H : Hp} {v : V} {fp : List Addr} {x : Str} : Rp K Z H (.str x) v fp ↔ v = .str x ∧ fp = [] := Iff.rfl
theorem Rp_ty {K : PySem.W.Frag} {Z : AS} {H : Hp} {v : V} {fp : List Addr} {n : String} : Rp K Z H (.ty n) v fp ↔ v = .ty n ∧ fp = [] := Iff.rfl
theorem Rp_obj {K : PySem.W.Frag} {Z : AS} {H : Hp} {v : V} {fp : List Addr} {a : Addr} : Rp K Z H (.obj a) v fp ↔ v = .ref a ∧ fp = [] := Iff.rfl
theorem Rp_tup {K : PySem.W.Frag} {Z : AS} {H : Hp} {v : V} {fp : List Addr} {ds : List D} : Rp K Z H (.tup ds) v fp ↔ fp = [] ∧ ∃ a vs, v = .ref a ∧ TkT K H a vs ∧ RpL K Z H ds vs [] := Iff.rfl
theorem Rp_scr {K : PySem.W.Frag} {Z : AS} {H : Hp} {v : V} {fp : List Addr} {ns : List Int} : Rp K Z H (.scr ns) v fp ↔ fp = [] ∧ ∃ a, v = .ref a ∧ LkL K H a (ns.map V.int) := Iff.rfl
theorem Rp_lst {K : PySem.W.Frag} {Z : AS} {H : Hp} {v : V} {fp : List Addr} {o : Bool} {ds : List D} : Rp K Z H (.lst o ds) v fp ↔ (o = false ∧ fp = [] ∧ ∃ a vs, v = .ref a ∧ Z a ∧ H a = some (.lst vs) ∧ RpL K Z H ds vs []) ∨
      (o = true ∧ ∃ a vs fp', v = .ref a ∧ fp = a :: fp' ∧ ¬ Z a ∧ H a = some (.lst vs) ∧ RpL K Z H ds vs fp') := Iff.rfl
theorem Rp_ins {K : PySem.W.Frag} {Z : AS} {H : Hp} {v : V} {fp : List Addr} {o : Bool} {C : Addr} {ns : List Str} {ds : List D} : Rp K Z H (.ins o C ns ds) v fp ↔ (o = false ∧ fp = [] ∧ ∃ a dx fs, v = .ref a ∧ Z a ∧ H a = some (.ins C dx fs) ∧ fs.map (·.1) = ns ∧ ns.Nodup ∧ RpL K Z H ds (fs.map (·.2)) []) ∨
      (o = true ∧ ∃ a dx fs fp', v = .ref a ∧ fp = a :: fp' ∧ ¬ Z a ∧ H a = some (.ins C dx fs) ∧ fs.map (·.1) = ns ∧ ns.Nodup ∧ RpL K Z H ds (fs.map (·.2)) fp') := Iff.rfl

/-- never changed -/
theorem Rp_dct {K : PySem.W.Frag} {Z : AS} {H : Hp} {v : V} {fp : List Addr} {o : Bool} {ks : KD} {ds : List D} : Rp K Z H (.dct o ks ds) v fp ↔ (o = false ∧ fp = [] ∧ ∃ a vs, v = .ref a ∧ Z a ∧ H a = some (ks.ho vs) ∧ ks.len = vs.length ∧ RpL K Z H ds vs []) ∨
      (o = true ∧ ∃ a vs fp', v = .ref a ∧ fp = a :: fp' ∧ ¬ Z a ∧ H a = some (ks.ho vs) ∧ ks.len = vs.length ∧ RpL K Z H ds vs fp') := Iff.rfl
def Stab : HO → Prop
  | .tup _ => True
  | .frz _ _ => True
  | _ => False
section
variable {K : PySem.W.Frag} {Z Z' : AS} {H H' : Hp}
theorem TkT.keep {a : Addr} {xs : List V} (h : TkT K H a xs) (k : ∀ a o, H a = some o → Stab o → H' a = some o) : TkT K H' a xs := by
  rcases h with h | h
  · exact .inl (k _ _ h trivial)
  · exact .inr h
theorem LkL.keep {a : Addr} {xs : List V} (h : LkL K H a xs) (k : ∀ a o, H a = some o → Stab o → H' a = some o) : LkL K H' a xs := by
  rcases h with ⟨o, h⟩ | h
  · exact .inl ⟨o, k _ _ h trivial⟩
  · exact .inr h
/- what is kept is held on -/
mutual
theorem Rp.keep (kz : ∀ a, Z a → Z' a) (ks : ∀ a o, H a = some o → Stab o → H' a = some o) (kh : ∀ a o, H a = some o → Z a → H' a = some o) :
    ∀ (d : D) (v : V) (fp : List Addr), (∀ a ∈ fp, ¬ Z' a ∧ ∀ o, H a = some o → H' a = some o) → Rp K Z H d v fp → Rp K Z' H' d v fp
  | .non, v, fp, _, h => by simp only [Rp] at h ⊢; exact h
  | .bl b, v, fp, _, h => by simp only [Rp] at h ⊢; exact h
  | .int i, v, fp, _, h => by simp only [Rp] at h ⊢; exact h
  | .str x, v, fp, _, h => by simp only [Rp] at h ⊢; exact h
  | .ty n, v, fp, _, h => by simp only [Rp] at h ⊢; exact h
  | .obj a, v, fp, _, h => by simp only [Rp] at h ⊢; exact h
  | .scr ns, v, fp, _, h => by
    simp only [Rp] at h ⊢
    obtain ⟨e, a, ev, q⟩ := h
    exact ⟨e, a, ev, q.keep ks⟩
  | .tup ds, v, fp, kf, h => by
    simp only [Rp] at h ⊢
    obtain ⟨e, a, vs, ev, q, r⟩ := h
    exact ⟨e, a, vs, ev, q.keep ks, RpL.keep kz ks kh ds vs [] (fun a h => nomatch h) r⟩
  | .lst o ds, v, fp, kf, h => by
    simp only [Rp] at h ⊢
    rcases h with ⟨e, e2, a, vs, ev, za, q, r⟩ | ⟨e, a, vs, fp', ev, e2, za, q, r⟩
    · exact .inl ⟨e, e2, a, vs, ev, kz a za, kh a _ q za, RpL.keep kz ks kh ds vs [] (fun a h => nomatch h) r⟩
    · subst e2
      exact .inr ⟨e, a, vs, fp', ev, rfl, (kf a List.mem_cons_self).1, (kf a List.mem_cons_self).2 _ q, RpL.keep kz ks kh ds vs fp' (fun b hb => kf b (List.mem_cons_of_mem _ hb)) r⟩
  | .ins o C ns ds, v, fp, kf, h => by
    simp only [Rp] at h ⊢
    rcases h with ⟨e, e2, a, dx, fs, ev, za, q, en, nd, r⟩ | ⟨e, a, dx, fs, fp', ev, e2, za, q, en, nd, r⟩
    · exact .inl ⟨e, e2, a, dx, fs, ev, kz a za, kh a _ q za, en, nd, RpL.keep kz ks kh ds _ [] (fun a h => nomatch h) r⟩
    · subst e2
      exact .inr ⟨e, a, dx, fs, fp', ev, rfl, (kf a List.mem_cons_self).1, (kf a List.mem_cons_self).2 _ q, en, nd, RpL.keep kz ks kh ds _ fp' (fun b hb => kf b (List.mem_cons_of_mem _ hb)) r⟩
  | .dct o kk ds, v, fp, kf, h => by
    simp only [Rp] at h ⊢
    rcases h with ⟨e, e2, a, vs, ev, za, q, en, r⟩ | ⟨e, a, vs, fp', ev, e2, za, q, en, r⟩
    · exact .inl ⟨e, e2, a, vs, ev, kz a za, kh a _ q za, en, RpL.keep kz ks kh ds vs [] (fun a h => nomatch h) r⟩
    · subst e2
      exact .inr ⟨e, a, vs, fp', ev, rfl, (kf a List.mem_cons_self).1, (kf a List.mem_cons_self).2 _ q, en, RpL.keep kz ks kh ds vs fp' (fun b hb => kf b (List.mem_cons_of_mem _ hb)) r⟩
theorem RpL.keep (kz : ∀ a, Z a → Z' a) (ks : ∀ a o, H a = some o → Stab o → H' a = some o) (kh : ∀ a o, H a = some o → Z a → H' a = some o) :
    ∀ (ds : List D) (vs : List V) (fp : List Addr), (∀ a ∈ fp, ¬ Z' a ∧ ∀ o, H a = some o → H' a = some o) → RpL K Z H ds vs fp → RpL K Z' H' ds vs fp
  | [], vs, fp, _, h => by simp only [RpL] at h ⊢; exact h
  | d :: ds, vs, fp, kf, h => by
    simp only [RpL] at h ⊢
    obtain ⟨v, vr, f1, f2, e1, e2, r1, r2⟩ := h
    subst e2
    exact ⟨v, vr, f1, f2, e1, rfl, Rp.keep kz ks kh d v f1 (fun a ha => kf a (List.mem_append_left _ ha)) r1, RpL.keep kz ks kh ds vr f2 (fun a ha => kf a (List.mem_append_right _ ha)) r2⟩
end
/- what is held, frozen -/
mutual
theorem Rp.frz (kz : ∀ a, Z a → Z' a) : ∀ (d : D) (v : V) (fp : List Addr), (∀ a ∈ fp, Z' a) → Rp K Z H d v fp → Rp K Z' H d.frz v []
  | .non, v, fp, _, h => by have h := Rp_non.mp h; refine Rp_non.mpr ?_; exact ⟨h.1, rfl⟩
  | .bl b, v, fp, _, h => by have h := Rp_bl.mp h; refine Rp_bl.mpr ?_; exact ⟨h.1, rfl⟩
  | .int i, v, fp, _, h => by have h := Rp_int.mp h; refine Rp_int.mpr ?_; exact ⟨h.1, rfl⟩
  | .str x, v, fp, _, h => by have h := Rp_str.mp h; refine Rp_str.mpr ?_; exact ⟨h.1, rfl⟩
  | .ty n, v, fp, _, h => by have h := Rp_ty.mp h; refine Rp_ty.mpr ?_; exact ⟨h.1, rfl⟩
  | .obj a, v, fp, _, h => by have h := Rp_obj.mp h; refine Rp_obj.mpr ?_; exact ⟨h.1, rfl⟩
  | .scr ns, v, fp, _, h => by
    have h := Rp_scr.mp h; refine Rp_scr.mpr ?_
    exact ⟨rfl, h.2⟩
  | .tup ds, v, fp, _, h => by
    have h := Rp_tup.mp h; refine Rp_tup.mpr ?_
    obtain ⟨e, a, vs, ev, q, r⟩ := h
    have r' := RpL.keep kz (fun _ _ q _ => q) (fun _ _ q _ => q) ds vs [] (fun a h => nomatch h) r
    exact ⟨rfl, a, vs, ev, q, r'⟩
  | .lst true ds, v, fp, kf, h => by
    have h := Rp_lst.mp h; refine Rp_lst.mpr ?_
    rcases h with ⟨e, _⟩ | ⟨e, a, vs, fp', ev, e2, za, q, r⟩
    · cases e
    · subst e2
      exact .inl ⟨rfl, rfl, a, vs, ev, kf a List.mem_cons_self, q, RpL.frz kz ds vs fp' (fun b hb => kf b (List.mem_cons_of_mem _ hb)) r⟩
  | .lst false ds, v, fp, kf, h => by
    have h := Rp_lst.mp h; refine Rp_lst.mpr ?_
    rcases h with ⟨e, e2, a, vs, ev, za, q, r⟩ | ⟨e, _⟩
    · exact .inl ⟨rfl, rfl, a, vs, ev, kz a za, q, RpL.keep kz (fun _ _ q _ => q) (fun _ _ q _ => q) ds vs [] (fun a h => nomatch h) r⟩
    · cases e
  | .ins true C ns ds, v, fp, kf, h => by
    have h := Rp_ins.mp h; refine Rp_ins.mpr ?_
    rcases h with ⟨e, _⟩ | ⟨e, a, dx, fs, fp', ev, e2, za, q, en, nd, r⟩
    · cases e
    · subst e2
      exact .inl ⟨rfl, rfl, a, dx, fs, ev, kf a List.mem_cons_self, q, en, nd, RpL.frz kz ds _ fp' (fun b hb => kf b (List.mem_cons_of_mem _ hb)) r⟩
  | .ins false C ns ds, v, fp, kf, h => by
    have h := Rp_ins.mp h; refine Rp_ins.mpr ?_
    rcases h with ⟨e, e2, a, dx, fs, ev, za, q, en, nd, r⟩ | ⟨e, _⟩
    · exact .inl ⟨rfl, rfl, a, dx, fs, ev, kz a za, q, en, nd, RpL.keep kz (fun _ _ q _ => q) (fun _ _ q _ => q) ds _ [] (fun a h => nomatch h) r⟩
    · cases e
  | .dct true kk ds, v, fp, kf, h => by
    have h := Rp_dct.mp h; refine Rp_dct.mpr ?_
    rcases h with ⟨e, _⟩ | ⟨e, a, vs, fp', ev, e2, za, q, en, r⟩
    · cases e
    · subst e2
      exact .inl ⟨rfl, rfl, a, vs, ev, kf a List.mem_cons_self, q, en, RpL.frz kz ds vs fp' (fun b hb => kf b (List.mem_cons_of_mem _ hb)) r⟩
  | .dct false kk ds, v, fp, kf, h => by
    have h := Rp_dct.mp h; refine Rp_dct.mpr ?_
    rcases h with ⟨e, e2, a, vs, ev, za, q, en, r⟩ | ⟨e, _⟩
    · exact .inl ⟨rfl, rfl, a, vs, ev, kz a za, q, en, RpL.keep kz (fun _ _ q _ => q) (fun _ _ q _ => q) ds vs [] (fun a h => nomatch h) r⟩
    · cases e
theorem RpL.frz (kz : ∀ a, Z a → Z' a) : ∀ (ds : List D) (vs : List V) (fp : List Addr), (∀ a ∈ fp, Z' a) → RpL K Z H ds vs fp → RpL K Z' H (frzL ds) vs []
  | [], vs, fp, _, h => by simp only [RpL, frzL] at h ⊢; first | exact ⟨h.1, trivial⟩ | exact ⟨h.1, rfl⟩ | exact h.1
  | d :: ds, vs, fp, kf, h => by
    obtain ⟨v, vr, f1, f2, e1, e2, r1, r2⟩ := RpL_cons.mp h
    subst e2
    refine RpL_cons.mpr ⟨v, vr, [], [], e1, rfl, Rp.frz kz d v f1 (fun a ha => kf a (List.mem_append_left _ ha)) r1, RpL.frz kz ds vr f2 (fun a ha => kf a (List.mem_append_right _ ha)) r2⟩
end
mutual
theorem Rp.fp : ∀ (d : D) (v : V) (fp : List Addr), Rp K Z H d v fp → ∀ a ∈ fp, ¬ Z a ∧ ∃ o, H a = some o ∧ ¬ Stab o
  | .non, v, fp, h, a, ha => by simp only [Rp] at h; rw [h.2] at ha; cases ha
  | .bl b, v, fp, h, a, ha => by simp only [Rp] at h; rw [h.2] at ha; cases ha
  | .int i, v, fp, h, a, ha => by simp only [Rp] at h; rw [h.2] at ha; cases ha
  | .str x, v, fp, h, a, ha => by simp only [Rp] at h; rw [h.2] at ha; cases ha
  | .ty n, v, fp, h, a, ha => by simp only [Rp] at h; rw [h.2] at ha; cases ha
  | .obj _, v, fp, h, a, ha => by simp only [Rp] at h; rw [h.2] at ha; cases ha
  | .scr ns, v, fp, h, a, ha => by simp only [Rp] at h; rw [h.1] at ha; cases ha
  | .tup ds, v, fp, h, a, ha => by simp only [Rp] at h; rw [h.1] at ha; cases ha
  | .lst o ds, v, fp, h, b, hb => by
    simp only [Rp] at h
    rcases h with ⟨e, e2, _⟩ | ⟨e, a, vs, fp', ev, e2, za, q, r⟩
    · rw [e2] at hb; cases hb
    · subst e2
      rcases List.mem_cons.mp hb with rfl | hb
      · exact ⟨za, _, q, fun z => z⟩
      · exact RpL.fp ds vs fp' r b hb
  | .ins o C ns ds, v, fp, h, b, hb => by
    simp only [Rp] at h
    rcases h with ⟨e, e2, _⟩ | ⟨e, a, dx, fs, fp', ev, e2, za, q, en, nd, r⟩
    · rw [e2] at hb; cases hb
    · subst e2
      rcases List.mem_cons.mp hb with rfl | hb
      · exact ⟨za, _, q, fun z => z⟩
      · exact RpL.fp ds _ fp' r b hb
  | .dct o kk ds, v, fp, h, b, hb => by
    simp only [Rp] at h
    rcases h with ⟨e, e2, _⟩ | ⟨e, a, vs, fp', ev, e2, za, q, en, r⟩
    · rw [e2] at hb; cases hb
    · subst e2
      rcases List.mem_cons.mp hb with rfl | hb
      · exact ⟨za, _, q, fun z => by cases kk <;> exact z⟩
      · exact RpL.fp ds _ fp' r b hb
theorem RpL.fp : ∀ (ds : List D) (vs : List V) (fp : List Addr), RpL K Z H ds vs fp → ∀ a ∈ fp, ¬ Z a ∧ ∃ o, H a = some o ∧ ¬ Stab o
  | [], vs, fp, h, a, ha => by simp only [RpL] at h; rw [h.2] at ha; cases ha
  | d :: ds, vs, fp, h, a, ha => by
    simp only [RpL] at h
    obtain ⟨v, vr, f1, f2, e1, e2, r1, r2⟩ := h
    subst e2
    rcases List.mem_append.mp ha with ha | ha
    · exact Rp.fp d v f1 r1 a ha
    · exact RpL.fp ds vr f2 r2 a ha
end
theorem Rp.noflag {d : D} {v : V} {fp : List Addr} (h : Rp K Z H d v fp) (hf : d.flag = false) : fp = [] := by
  cases d <;> simp only [Rp, D.flag] at h hf <;> first
    | exact h.2
    | exact h.1
    | (subst hf; rcases h with ⟨_, e, _⟩ | ⟨e, _⟩; exact e; cases e)
theorem RpL.noflag : ∀ {ds : List D} {vs : List V} {fp : List Addr}, RpL K Z H ds vs fp → (∀ d ∈ ds, d.flag = false) → fp = []
  | [], vs, fp, h, _ => by simp only [RpL] at h; exact h.2
  | d :: ds, vs, fp, h, hf => by
    simp only [RpL] at h
    obtain ⟨v, vr, f1, f2, e1, e2, r1, r2⟩ := h
    rw [e2, r1.noflag (hf d List.mem_cons_self), RpL.noflag r2 fun x hx => hf x (List.mem_cons_of_mem _ hx)]
    rfl
theorem RpL.length : ∀ {ds : List D} {vs : List V} {fp : List Addr}, RpL K Z H ds vs fp → vs.length = ds.length
  | [], vs, fp, h => by rw [(RpL_nil.mp h).1]; rfl
  | d :: ds, vs, fp, h => by
    obtain ⟨v, vr, f1, f2, e1, e2, r1, r2⟩ := RpL_cons.mp h
    subst e1
    simp [RpL.length r2]
theorem RpL.app : ∀ {ds es : List D} {vs ws : List V} {f g : List Addr}, RpL K Z H ds vs f → RpL K Z H es ws g → RpL K Z H (ds ++ es) (vs ++ ws) (f ++ g)
  | [], es, vs, ws, f, g, h, r => by
    simp only [RpL] at h
    rw [h.1, h.2]; exact r
  | d :: ds, es, vs, ws, f, g, h, r => by
    simp only [RpL] at h
    obtain ⟨v, vr, f1, f2, e1, e2, r1, r2⟩ := h
    subst e1 e2
    show RpL K Z H (d :: (ds ++ es)) (v :: (vr ++ ws)) _
    simp only [RpL]
    exact ⟨v, vr ++ ws, f1, f2 ++ g, rfl, by simp, r1, RpL.app r2 r⟩
theorem RpL.cut : ∀ {ds es : List D} {vs : List V} {f : List Addr}, RpL K Z H (ds ++ es) vs f → ∃ v1 v2 f1 f2, vs = v1 ++ v2 ∧ f = f1 ++ f2 ∧ RpL K Z H ds v1 f1 ∧ RpL K Z H es v2 f2
  | [], es, vs, f, h => ⟨[], vs, [], f, rfl, rfl, by simp [RpL], h⟩
  | d :: ds, es, vs, f, h => by
    have h : RpL K Z H (d :: (ds ++ es)) vs f := h
    simp only [RpL] at h
    obtain ⟨v, vr, g1, g2, e1, e2, r1, r2⟩ := h
    obtain ⟨v1, v2, f1, f2, e3, e4, q1, q2⟩ := RpL.cut r2
    subst e1 e2 e3 e4
    refine ⟨v :: v1, v2, g1 ++ f1, f2, rfl, by simp, ?_, q2⟩
    simp only [RpL]
    exact ⟨v, v1, g1, f1, rfl, rfl, r1, q1⟩
/-- where none is owned, each can be read -/
theorem RpL.at : ∀ {ds : List D} {vs : List V} {fp : List Addr} {i : Nat} {d : D}, RpL K Z H ds vs fp → ds[i]? = some d → ∃ v f, vs[i]? = some v ∧ Rp K Z H d v f ∧ ∀ a ∈ f, a ∈ fp
  | [], vs, fp, i, d, h, e => by simp at e
  | d :: ds, vs, fp, 0, d', h, e => by
    simp only [RpL] at h
    obtain ⟨v, vr, f1, f2, e1, e2, r1, r2⟩ := h
    simp at e
    subst e e1 e2
    exact ⟨v, f1, rfl, r1, fun a ha => List.mem_append_left _ ha⟩
  | d :: ds, vs, fp, i + 1, d', h, e => by
    simp only [RpL] at h
    obtain ⟨v, vr, f1, f2, e1, e2, r1, r2⟩ := h
    subst e1 e2
    obtain ⟨w, f, q1, q2, q3⟩ := RpL.at (i := i) r2 (by simpa using e)
    exact ⟨w, f, by simpa using q1, q2, fun a ha => List.mem_append_right _ (q3 a ha)⟩
end

/-! ### what is held: a bag of values with their trees -/
abbrev Bag := List (V × D)
def RpB (K : PySem.W.Frag) (Z : AS) (H : Hp) (L : Bag) (M : List Addr) : Prop := RpL K Z H (L.map (·.2)) (L.map (·.1)) M
structure Hold (K : PySem.W.Frag) (ex : List Addr) (Z : AS) (H : Hp) (L : Bag) : Prop where
  rp : ∃ M, RpB K Z H L M ∧ M.Nodup ∧ ∀ a ∈ ex, a ∉ M
  ez : ∀ a ∈ ex, ¬ Z a ∧ ∀ o, H a = some o → ¬ Stab o
  zd : ∀ a, Z a → H a ≠ none
section
variable {K : PySem.W.Frag} {Z Z' : AS} {H H' : Hp} {ex : List Addr} {L L' : Bag}
theorem RpB.perm (p : L.Perm L') : ∀ {M : List Addr}, RpB K Z H L M → ∃ M', RpB K Z H L' M' ∧ M.Perm M' := by
  induction p with
  | nil => exact fun {M} h => ⟨M, h, .refl _⟩
  | @cons x l l' _ ih =>
    intro M h
    simp only [RpB, List.map_cons, RpL] at h
    obtain ⟨v, vr, f1, f2, e1, e2, r1, r2⟩ := h
    obtain ⟨rfl, rfl⟩ := List.cons.inj e1
    subst e2
    obtain ⟨M', q, p'⟩ := ih r2
    refine ⟨f1 ++ M', ?_, p'.append_left f1⟩
    simp only [RpB, List.map_cons, RpL]
    exact ⟨x.1, _, f1, M', rfl, rfl, r1, q⟩
  | swap x y l =>
    intro M h
    simp only [RpB, List.map_cons, RpL] at h
    obtain ⟨v, vr, f1, f2, e1, e2, r1, v', vr', g1, g2, e3, e4, r3, r4⟩ := h
    obtain ⟨rfl, rfl⟩ := List.cons.inj e1
    obtain ⟨rfl, rfl⟩ := List.cons.inj e3
    subst e2 e4
    refine ⟨g1 ++ (f1 ++ g2), ?_, ?_⟩
    · simp only [RpB, List.map_cons, RpL]
      exact ⟨_, _, g1, f1 ++ g2, rfl, rfl, r3, _, _, f1, g2, rfl, rfl, r1, r4⟩
    · rw [← List.append_assoc, ← List.append_assoc]
      exact List.Perm.append_right g2 List.perm_append_comm
  | trans _ _ ih1 ih2 =>
    intro M h
    obtain ⟨M1, q1, p1⟩ := ih1 h
    obtain ⟨M2, q2, p2⟩ := ih2 q1
    exact ⟨M2, q2, p1.trans p2⟩
theorem Hold.perm (h : Hold K ex Z H L) (p : L.Perm L') : Hold K ex Z H L' := by
  obtain ⟨M, r, nd, ne⟩ := h.rp
  obtain ⟨M', r', p'⟩ := RpB.perm p r
  exact ⟨⟨M', r', p'.nodup_iff.mp nd, fun a ha hm => ne a ha (p'.mem_iff.mpr hm)⟩, h.ez, h.zd⟩
theorem RpB.cons {x : V × D} {M : List Addr} : RpB K Z H (x :: L) M ↔ ∃ f1 f2, M = f1 ++ f2 ∧ Rp K Z H x.2 x.1 f1 ∧ RpB K Z H L f2 := by
  simp only [RpB, List.map_cons, RpL]
  constructor
  · rintro ⟨v, vr, f1, f2, e1, e2, r1, r2⟩
    obtain ⟨rfl, rfl⟩ := List.cons.inj e1
    exact ⟨f1, f2, e2, r1, r2⟩
  · rintro ⟨f1, f2, e2, r1, r2⟩
    exact ⟨_, _, f1, f2, rfl, e2, r1, r2⟩
theorem Hold.tail {x : V × D} (h : Hold K ex Z H (x :: L)) : Hold K ex Z H L := by
  obtain ⟨M, r, nd, ne⟩ := h.rp
  obtain ⟨f1, f2, e, _, r2⟩ := RpB.cons.mp r
  subst e
  exact ⟨⟨f2, r2, (List.nodup_append.mp nd).2.1, fun a ha hm => ne a ha (List.mem_append_right _ hm)⟩, h.ez, h.zd⟩
theorem Hold.drop {L1 : Bag} (h : Hold K ex Z H (L1 ++ L)) : Hold K ex Z H L := by
  induction L1 with
  | nil => exact h
  | cons x L1 ih => exact ih h.tail
theorem Hold.sub (h : Hold K ex Z H L) (s : ∃ L1, (L1 ++ L').Perm L) : Hold K ex Z H L' := by
  obtain ⟨L1, p⟩ := s
  exact (h.perm p.symm).drop
theorem Hold.less {a : Addr} (h : Hold K (a :: ex) Z H L) : Hold K ex Z H L := by
  obtain ⟨M, r, nd, ne⟩ := h.rp
  exact ⟨⟨M, r, nd, fun b hb => ne b (List.mem_cons_of_mem _ hb)⟩, fun b hb => h.ez b (List.mem_cons_of_mem _ hb), h.zd⟩
/-- a shared thing is held twice -/
theorem Hold.dup {v : V} {d : D} (h : Hold K ex Z H ((v, d) :: L)) (hf : d.flag = false) : Hold K ex Z H ((v, d) :: (v, d) :: L) := by
  obtain ⟨M, r, nd, ne⟩ := h.rp
  obtain ⟨f1, f2, e, r1, r2⟩ := RpB.cons.mp r
  have e1 : f1 = [] := r1.noflag hf
  subst e1
  subst e
  exact ⟨⟨[] ++ ([] ++ _), RpB.cons.mpr ⟨[], _, rfl, r1, RpB.cons.mpr ⟨[], _, rfl, r1, r2⟩⟩, nd, ne⟩, h.ez, h.zd⟩
theorem Hold.rep {v : V} {d : D} (h : Hold K ex Z H ((v, d) :: L)) : ∃ fp, Rp K Z H d v fp := by
  obtain ⟨M, r, nd, ne⟩ := h.rp
  obtain ⟨f1, f2, e, r1, r2⟩ := RpB.cons.mp r
  exact ⟨f1, r1⟩
/-- a shared thing that may be read besides -/
theorem Hold.add {v : V} {d : D} (h : Hold K ex Z H L) (r : Rp K Z H d v []) : Hold K ex Z H ((v, d) :: L) := by
  obtain ⟨M, q, nd, ne⟩ := h.rp
  exact ⟨⟨[] ++ M, RpB.cons.mpr ⟨[], M, rfl, r, q⟩, nd, ne⟩, h.ez, h.zd⟩
theorem Hold.freeze {v : V} {d : D} (h : Hold K ex Z H ((v, d) :: L)) : ∃ Z', (∀ a, Z a → Z' a) ∧ Hold K ex Z' H ((v, d.frz) :: L) := by
  obtain ⟨M, r, nd, ne⟩ := h.rp
  obtain ⟨f1, f2, e, r1, r2⟩ := RpB.cons.mp r
  subst e
  have nd2 := List.nodup_append.mp nd
  refine ⟨fun a => Z a ∨ a ∈ f1, fun a z => .inl z, ⟨f2, ?_, nd2.2.1, fun a ha hm => ne a ha (List.mem_append_right _ hm)⟩, fun a ha => ⟨fun z => ?_, (h.ez a ha).2⟩, fun a z => ?_⟩
  · refine RpB.cons.mpr ⟨[], _, rfl, Rp.frz (fun a z => .inl z) d v f1 (fun a z => .inr z) r1, ?_⟩
    refine RpL.keep (fun a z => .inl z) (fun _ _ q _ => q) (fun _ _ q _ => q) _ _ f2 (fun a ha => ⟨fun z => ?_, fun _ q => q⟩) r2
    rcases z with z | z
    · exact (RpL.fp _ _ _ r2 a ha).1 z
    · exact nd2.2.2 a z a ha rfl
  · rcases z with z | z
    · exact (h.ez a ha).1 z
    · exact ne a ha (List.mem_append_left _ z)
  · rcases z with z | z
    · exact h.zd a z
    · obtain ⟨_, o, q, _⟩ := Rp.fp d v f1 r1 a z
      rw [q]
      exact fun q => nomatch q
/-! ### objects made and changed: taken in hand, then laid down -/
/-- a new address is in hand -/
theorem Hold.new {p : Addr} (h : Hold K ex Z H L) (hp : H p = none) : Hold K (p :: ex) Z H L := by
  obtain ⟨M, r, nd, ne⟩ := h.rp
  refine ⟨⟨M, r, nd, fun a ha hm => ?_⟩, fun a ha => ?_, h.zd⟩
  · rcases List.mem_cons.mp ha with rfl | ha
    · obtain ⟨_, o, q, _⟩ := RpL.fp _ _ _ r a hm
      rw [hp] at q; cases q
    · exact ne a ha hm
  · rcases List.mem_cons.mp ha with rfl | ha
    · exact ⟨fun z => h.zd a z hp, fun o q => by rw [hp] at q; cases q⟩
    · exact h.ez a ha
/-- the heap changes at what is in hand alone -/
theorem Hold.at {p : Addr} {o : HO} (h : Hold K (p :: ex) Z H L) (hns : ¬ Stab o) : Hold K (p :: ex) Z (upd H p o) L := by
  obtain ⟨M, r, nd, ne⟩ := h.rp
  have hz := h.ez p List.mem_cons_self
  have k : ∀ a u, a ≠ p → H a = some u → upd H p o a = some u := fun a u n q => by rw [upd_ne n]; exact q
  refine ⟨⟨M, ?_, nd, ne⟩, fun a ha => ⟨(h.ez a ha).1, fun u q => ?_⟩, fun a z => ?_⟩
  · refine RpL.keep (fun a z => z) (fun a u q s => k a u (fun e => ?_) q) (fun a u q z => k a u (fun e => ?_) q) _ _ M (fun a ha => ⟨(RpL.fp _ _ _ r a ha).1, fun u q => k a u (fun e => ?_) q⟩) r
    · subst e; exact hz.2 u q s
    · subst e; exact hz.1 z
    · subst e; exact ne a List.mem_cons_self ha
  · by_cases e : a = p
    · subst e; rw [upd_same] at q; cases q; exact hns
    · rw [upd_ne e] at q; exact (h.ez a ha).2 u q
  · by_cases e : a = p
    · subst e; rw [upd_same]; exact fun q => nomatch q
    · rw [upd_ne e]; exact h.zd a z
/-- the heap grows elsewhere (or changes where nothing is held) -/
theorem Hold.grow {p : Addr} {o : HO} (h : Hold K ex Z H L) (hp : H p = none) (hns : ¬ Stab o) : Hold K ex Z (upd H p o) L := ((h.new hp).at hns).less
theorem Hold.growS {p : Addr} {o : HO} (h : Hold K [] Z H L) (hp : H p = none) : Hold K [] Z (upd H p o) L := by
  obtain ⟨M, r, nd, ne⟩ := h.rp
  have k : ∀ a u, H a = some u → upd H p o a = some u := fun a u q => by rw [upd_ne (ne_of_none q hp)]; exact q
  refine ⟨⟨M, RpL.keep (fun a z => z) (fun a u q s => k a u q) (fun a u q z => k a u q) _ _ M (fun a ha => ⟨(RpL.fp _ _ _ r a ha).1, fun u q => k a u q⟩) r, nd, ne⟩, (fun a ha => absurd ha (by simp)), fun a z => ?_⟩
  by_cases e : a = p
  · subst e; rw [upd_same]; exact fun q => nomatch q
  · rw [upd_ne e]; exact h.zd a z
theorem RpB.app {L1 : Bag} {M : List Addr} : RpB K Z H (L1 ++ L) M ↔ ∃ f1 f2, M = f1 ++ f2 ∧ RpB K Z H L1 f1 ∧ RpB K Z H L f2 := by
  induction L1 generalizing M with
  | nil =>
    constructor
    · exact fun h => ⟨[], M, rfl, ⟨rfl, rfl⟩, h⟩
    · rintro ⟨f1, f2, e, ⟨_, e1⟩, r⟩
      subst e e1
      exact r
  | cons x L1 ih =>
    show RpB K Z H (x :: (L1 ++ L)) M ↔ _
    rw [RpB.cons]
    constructor
    · rintro ⟨f1, f2, e, r1, r2⟩
      obtain ⟨g1, g2, e2, q1, q2⟩ := ih.mp r2
      subst e e2
      exact ⟨f1 ++ g1, g2, by simp, RpB.cons.mpr ⟨f1, g1, rfl, r1, q1⟩, q2⟩
    · rintro ⟨f1, f2, e, r1, r2⟩
      obtain ⟨g1, g2, e2, q1, q2⟩ := RpB.cons.mp r1
      subst e e2
      exact ⟨g1, g2 ++ f2, by simp, q1, ih.mpr ⟨g2, f2, rfl, q2, r2⟩⟩
/-- an owned list is taken in hand -/
theorem Hold.takeL {v : V} {ds : List D} (h : Hold K ex Z H ((v, .lst true ds) :: L)) : ∃ a vs, v = .ref a ∧ H a = some (.lst vs) ∧ vs.length = ds.length ∧ Hold K (a :: ex) Z H (vs.zip ds ++ L) := by
  obtain ⟨M, r, nd, ne⟩ := h.rp
  obtain ⟨f1, f2, e, r1, r2⟩ := RpB.cons.mp r
  subst e
  simp only [Rp] at r1
  rcases r1 with ⟨e, _⟩ | ⟨_, a, vs, fp', ev, e2, za, q, r3⟩
  · cases e
  subst e2
  have hl := r3.length
  have hb : RpB K Z H (vs.zip ds) fp' := by
    show RpL K Z H ((vs.zip ds).map (·.2)) ((vs.zip ds).map (·.1)) fp'
    have e1 : (vs.zip ds).map (·.2) = ds := by rw [← List.unzip_snd, List.unzip_zip hl]
    have e2 : (vs.zip ds).map (·.1) = vs := by rw [← List.unzip_fst, List.unzip_zip hl]
    rw [e1, e2]; exact r3
  have nd' : (a :: (fp' ++ f2)).Nodup := nd
  have ndc := List.nodup_cons.mp nd'
  refine ⟨a, vs, ev, q, hl, ⟨fp' ++ f2, RpB.app.mpr ⟨fp', f2, rfl, hb, r2⟩, ndc.2, fun b hb hm => ?_⟩, fun b hb => ?_, h.zd⟩
  · rcases List.mem_cons.mp hb with rfl | hb
    · exact ndc.1 hm
    · exact ne b hb (List.mem_cons_of_mem _ hm)
  · rcases List.mem_cons.mp hb with rfl | hb
    · exact ⟨za, fun o e => by rw [q] at e; cases e; exact fun z => z⟩
    · exact h.ez b hb
/-- a list is laid down -/
theorem Hold.layL {p : Addr} {vs : List V} {ds : List D} (h : Hold K (p :: ex) Z H (vs.zip ds ++ L)) (hl : vs.length = ds.length) (hx : p ∉ ex) : Hold K ex Z (upd H p (.lst vs)) ((.ref p, .lst true ds) :: L) := by
  have h' := h.at (o := .lst vs) (fun z => z)
  obtain ⟨M, r, nd, ne⟩ := h'.rp
  obtain ⟨f1, f2, e, r1, r2⟩ := RpB.app.mp r
  subst e
  have e1 : (vs.zip ds).map (·.2) = ds := by rw [← List.unzip_snd, List.unzip_zip hl]
  have e2 : (vs.zip ds).map (·.1) = vs := by rw [← List.unzip_fst, List.unzip_zip hl]
  have r1' : RpL K Z (upd H p (.lst vs)) ds vs f1 := by
    have q : RpL K Z (upd H p (.lst vs)) ((vs.zip ds).map (·.2)) ((vs.zip ds).map (·.1)) f1 := r1
    rw [e1, e2] at q; exact q
  refine ⟨⟨p :: (f1 ++ f2), ?_, List.nodup_cons.mpr ⟨ne p List.mem_cons_self, nd⟩, fun a ha hm => ?_⟩, fun a ha => h'.ez a (List.mem_cons_of_mem _ ha), h'.zd⟩
  · refine RpB.cons.mpr ⟨p :: f1, f2, rfl, ?_, r2⟩
    exact Rp_lst.mpr (.inr ⟨rfl, p, vs, f1, rfl, rfl, (h'.ez p List.mem_cons_self).1, upd_same, r1'⟩)
  · rcases List.mem_cons.mp hm with rfl | hm
    · exact hx ha
    · exact ne a (List.mem_cons_of_mem _ ha) hm
/-- a tuple is made -/
theorem Hold.mkTup {p : Addr} {vs : List V} {ds : List D} (h : Hold K [] Z H (vs.zip ds ++ L)) (hp : H p = none) (hl : vs.length = ds.length) (hf : ∀ d ∈ ds, d.flag = false) : Hold K [] Z (upd H p (.tup vs)) ((.ref p, .tup ds) :: L) := by
  have h' := h.growS (o := .tup vs) hp
  obtain ⟨M, r, nd, ne⟩ := h'.rp
  obtain ⟨f1, f2, e, r1, r2⟩ := RpB.app.mp r
  subst e
  have e1 : (vs.zip ds).map (·.2) = ds := by rw [← List.unzip_snd, List.unzip_zip hl]
  have e2 : (vs.zip ds).map (·.1) = vs := by rw [← List.unzip_fst, List.unzip_zip hl]
  have r1' : RpL K Z (upd H p (.tup vs)) ds vs f1 := by
    have q : RpL K Z (upd H p (.tup vs)) ((vs.zip ds).map (·.2)) ((vs.zip ds).map (·.1)) f1 := r1
    rw [e1, e2] at q; exact q
  have e0 : f1 = [] := RpL.noflag r1' hf
  subst e0
  refine ⟨⟨f2, RpB.cons.mpr ⟨[], f2, rfl, ?_, r2⟩, nd, ne⟩, h'.ez, h'.zd⟩
  exact Rp_tup.mpr ⟨rfl, p, vs, rfl, .inl upd_same, r1'⟩
end
end Tr

set_option maxHeartbeats 2000000
/-! The tree layer 2: a frame's slots, the judgements. -/
namespace Tr
abbrev Sg := L2.St
open PySem PySem.Spec PyProof.Rows L2

abbrev DE := List (Option D)
def slots : Sg → DE → Bag
  | x :: σ, some d :: e => (x.getD .non, d) :: slots σ e
  | _ :: σ, none :: e => slots σ e
  | _, _ => []
def fits : Sg → DE → Prop
  | [], [] => True
  | x :: σ, some _ :: e => (∃ v, x = some v) ∧ fits σ e
  | _ :: σ, none :: e => fits σ e
  | _, _ => False
structure SR (K : PySem.W.Frag) (Z : AS) (H : Hp) (σ : Sg) (e : DE) (tmp : Bag) : Prop where
  fit : fits σ e
  hold : Hold K [] Z H (slots σ e ++ tmp)
theorem fits.len : ∀ {σ : Sg} {e : DE}, fits σ e → σ.length = e.length
  | [], [], _ => rfl
  | x :: σ, some _ :: e, h => by simp [fits.len h.2]
  | x :: σ, none :: e, h => by simp [fits.len (σ := σ) (e := e) h]
  | [], _ :: _, h => h.elim
  | _ :: _, [], h => h.elim
/-- a slot is emptied -/
theorem slot_out : ∀ {σ : Sg} {e : DE} {i : Nat} {d : D}, fits σ e → e[i]? = some (some d) → ∃ v, σ[i]? = some (some v) ∧ fits σ (e.set i none) ∧ (slots σ e).Perm ((v, d) :: slots σ (e.set i none))
  | [], [], i, d, _, h => by simp at h
  | [], _ :: _, _, _, h, _ => h.elim
  | _ :: _, [], _, _, h, _ => h.elim
  | x :: σ, some d' :: e, 0, d, h, hi => by
    simp at hi
    subst hi
    obtain ⟨⟨v, rfl⟩, h2⟩ := h
    exact ⟨v, rfl, h2, .refl _⟩
  | x :: σ, none :: e, 0, d, h, hi => by simp at hi
  | x :: σ, some d' :: e, i + 1, d, h, hi => by
    obtain ⟨v, h1, h2, h3⟩ := slot_out (i := i) h.2 (by simpa using hi)
    refine ⟨v, by simpa using h1, ⟨h.1, h2⟩, ?_⟩
    show ((x.getD .non, d') :: slots σ e).Perm ((v, d) :: (x.getD .non, d') :: slots σ (e.set i none))
    exact (h3.cons _).trans (List.Perm.swap _ _ _)
  | x :: σ, none :: e, i + 1, d, h, hi => by
    obtain ⟨v, h1, h2, h3⟩ := slot_out (i := i) (σ := σ) (e := e) h (by simpa using hi)
    exact ⟨v, by simpa using h1, h2, h3⟩
/-- an empty slot is filled -/
theorem slot_in : ∀ {σ : Sg} {e : DE} {i : Nat} {v : V} {d : D}, fits σ e → e[i]? = some none → fits (σ.set i (some v)) (e.set i (some d)) ∧ (slots (σ.set i (some v)) (e.set i (some d))).Perm ((v, d) :: slots σ e)
  | [], [], i, v, d, _, h => by simp at h
  | [], _ :: _, _, _, _, h, _ => h.elim
  | _ :: _, [], _, _, _, h, _ => h.elim
  | x :: σ, some d' :: e, 0, v, d, h, hi => by simp at hi
  | x :: σ, none :: e, 0, v, d, h, hi => ⟨⟨⟨v, rfl⟩, h⟩, .refl _⟩
  | x :: σ, some d' :: e, i + 1, v, d, h, hi => by
    obtain ⟨h2, h3⟩ := slot_in (i := i) (v := v) (d := d) h.2 (by simpa using hi)
    refine ⟨⟨h.1, h2⟩, ?_⟩
    show ((x.getD .non, d') :: slots _ _).Perm ((v, d) :: (x.getD .non, d') :: slots σ e)
    exact (h3.cons _).trans (List.Perm.swap _ _ _)
  | x :: σ, none :: e, i + 1, v, d, h, hi => slot_in (i := i) (σ := σ) (e := e) (v := v) (d := d) h (by simpa using hi)
theorem set_same {α : Type} : ∀ {l : List α} {i : Nat} {x : α}, l[i]? = some x → l.set i x = l
  | [], _, _, h => by simp at h
  | _ :: _, 0, _, h => by simp at h; subst h; rfl
  | _ :: l, i + 1, x, h => by
    show _ :: l.set i x = _
    rw [set_same (by simpa using h)]
section
variable {K : PySem.W.Frag} {Z Z' : AS} {H H' : Hp} {σ σ' : Sg} {e e' : DE} {tmp tmp' : Bag} {i : Nat} {v : V} {d : D}
theorem SR.out (h : SR K Z H σ e tmp) (hi : e[i]? = some (some d)) : ∃ v, σ[i]? = some (some v) ∧ SR K Z H σ (e.set i none) ((v, d) :: tmp) := by
  obtain ⟨v, h1, h2, h3⟩ := slot_out h.fit hi
  refine ⟨v, h1, h2, h.hold.perm ?_⟩
  exact (h3.append_right tmp).trans (List.perm_middle (a := (v, d))).symm
theorem SR.put (h : SR K Z H σ e ((v, d) :: tmp)) (hi : e[i]? = some none) : SR K Z H (σ.set i (some v)) (e.set i (some d)) tmp := by
  obtain ⟨h1, h2⟩ := slot_in (v := v) (d := d) h.fit hi
  exact ⟨h1, h.hold.perm ((List.perm_middle (a := (v, d))).trans (h2.symm.append_right tmp))⟩
theorem SR.back (h : SR K Z H σ e ((v, d) :: tmp)) (hi : e[i]? = some none) (hv : σ[i]? = some (some v)) : SR K Z H σ (e.set i (some d)) tmp := by
  have q := h.put hi
  rwa [set_same hv] at q
/-- a slot's holding is dropped -/
theorem SR.clear (h : SR K Z H σ e tmp) (i : Nat) : SR K Z H σ (e.set i none) tmp := by
  cases hi : e[i]? with
  | none =>
    have : e.length ≤ i := List.getElem?_eq_none_iff.mp hi
    rw [List.set_eq_of_length_le this]; exact h
  | some x =>
    cases x with
    | none => rw [set_same hi]; exact h
    | some d =>
      obtain ⟨v, h1, h2⟩ := h.out hi
      exact ⟨h2.fit, h2.hold.sub ⟨[(v, d)], (List.perm_middle (l₁ := slots σ (e.set i none)) (l₂ := tmp) (a := (v, d))).symm⟩⟩
theorem SR.assign (h : SR K Z H σ e ((v, d) :: tmp)) (hi : i < e.length) : SR K Z H (σ.set i (some v)) (e.set i (some d)) tmp := by
  have q := (h.clear i).put (i := i) (by rw [List.getElem?_set_self hi])
  rwa [List.set_set] at q
theorem SR.perm (h : SR K Z H σ e tmp) (p : tmp.Perm tmp') : SR K Z H σ e tmp' := ⟨h.fit, h.hold.perm (p.append_left _)⟩
theorem SR.tail {x : V × D} (h : SR K Z H σ e (x :: tmp)) : SR K Z H σ e tmp := ⟨h.fit, (h.hold.perm (List.perm_middle (a := x))).tail⟩
theorem SR.drop {l : Bag} (h : SR K Z H σ e (l ++ tmp)) : SR K Z H σ e tmp := by
  induction l with
  | nil => exact h
  | cons x l ih => exact ih h.tail
theorem SR.take {l : Bag} (h : SR K Z H σ e (tmp ++ l)) : SR K Z H σ e tmp := (h.perm List.perm_append_comm).drop
theorem SR.bag (h : SR K Z H σ e tmp) : Hold K [] Z H (tmp ++ slots σ e) := h.hold.perm List.perm_append_comm
theorem SR.of (f : fits σ e) (h : Hold K [] Z H (tmp ++ slots σ e)) : SR K Z H σ e tmp := ⟨f, h.perm List.perm_append_comm⟩
theorem SR.rd (h : SR K Z H σ e tmp) (hi : e[i]? = some (some d)) : ∃ v fp, σ[i]? = some (some v) ∧ Rp K Z H d v fp := by
  obtain ⟨v, h1, h2⟩ := h.out hi
  obtain ⟨fp, r⟩ := h2.bag.rep
  exact ⟨v, fp, h1, r⟩
theorem SR.freeze (h : SR K Z H σ e ((v, d) :: tmp)) : ∃ Z', SR K Z' H σ e ((v, d.frz) :: tmp) := by
  obtain ⟨Z', _, q⟩ := Hold.freeze h.bag
  exact ⟨Z', .of h.fit q⟩
end

/-! ### results -/
/-- what is wanted of an exception, at the slots -/
abbrev XW := Sg → XK
structure Exn where
  cls : Addr
  arg : Option (Str × D)
inductive Rs (α : Type) where
  | ok (a : α) | exn (x : Exn) | stuck
inductive Res (α : Type) where
  | ok (a : α) (e : DE) | exn (x : Exn) (e : DE) | stuck
def Res.bind {α β : Type} (r : Res α) (k : α → DE → Res β) : Res β := match r with
  | .ok a e => k a e
  | .exn x e => .exn x e
  | .stuck => .stuck
def Rs.at {α : Type} (r : Rs α) (e : DE) : Res α := match r with
  | .ok a => .ok a e
  | .exn x => .exn x e
  | .stuck => .stuck
inductive SRes where
  | nx (e : DE) | rt (d : D) (e : DE) | bk (e : DE) | ct (e : DE) | exn (x : Exn) (e : DE) | stuck
def Res.toS {α : Type} (r : Res α) (k : α → DE → SRes) : SRes := match r with
  | .ok a e => k a e
  | .exn x e => .exn x e
  | .stuck => .stuck
@[simp] theorem Res.bind_ok {α β : Type} (a : α) (e : DE) (k : α → DE → Res β) : (Res.ok a e).bind k = k a e := (rfl)
@[simp] theorem Res.bind_exn {α β : Type} (x : Exn) (e : DE) (k : α → DE → Res β) : (Res.exn x e).bind k = .exn x e := (rfl)
@[simp] theorem Res.bind_stuck {α β : Type} (k : α → DE → Res β) : (Res.stuck : Res α).bind k = .stuck := (rfl)
@[simp] theorem Res.toS_ok {α : Type} (a : α) (e : DE) (k : α → DE → SRes) : (Res.ok a e).toS k = k a e := (rfl)
@[simp] theorem Res.toS_exn {α : Type} (x : Exn) (e : DE) (k : α → DE → SRes) : (Res.exn x e : Res α).toS k = .exn x e := (rfl)
@[simp] theorem Res.toS_stuck {α : Type} (k : α → DE → SRes) : (Res.stuck : Res α).toS k = .stuck := (rfl)
@[simp] theorem Rs.at_ok {α : Type} (a : α) (e : DE) : (Rs.ok a).at e = .ok a e := (rfl)
@[simp] theorem Rs.at_exn {α : Type} (x : Exn) (e : DE) : (Rs.exn x : Rs α).at e = .exn x e := (rfl)
@[simp] theorem Rs.at_stuck {α : Type} (e : DE) : (Rs.stuck : Rs α).at e = .stuck := (rfl)

def XR (K : PySem.W.Frag) (Z : AS) (H : Hp) (x : Exn) (c : Value) (o : Option Addr) : Prop :=
  c = .ref x.cls ∧ match x.arg with
    | none => o = none
    | some (n, d) => ∃ a v, o = some a ∧ H a = some (.xd [(n, v)]) ∧ Rp K Z H d v []

/-- an operand: a value at hand, or a slot that is read late -/
inductive L where
  | v (d : D) | s (i : Nat)
def lget : L → DE → Option D
  | .v d, _ => some d
  | .s i, e => e.getD i none
def lbag : L → V → Bag
  | .v d, x => [(x, d)]
  | .s _, _ => []
def lok (σ : Sg) : L → V → Prop
  | .v _, _ => True
  | .s i, x => σ[i]? = some (some x)
theorem getD_some {e : DE} {i : Nat} {d : D} (h : e.getD i none = some d) : e[i]? = some (some d) := by
  rw [List.getD_eq_getElem?_getD] at h
  cases q : e[i]? with
  | none => rw [q] at h; cases h
  | some x => rw [q] at h; exact congrArg some h

section
variable {K : PySem.W.Frag} {Z : AS} {H : Hp} {σ : Sg} {e : DE} {tmp : Bag}
theorem lread {l : L} {v : V} {d : D} (h : SR K Z H σ e (lbag l v ++ tmp)) (k : lok σ l v) (g : lget l e = some d) : ∃ fp, Rp K Z H d v fp := by
  cases l with
  | v d' =>
    cases g
    exact Hold.rep (L := tmp ++ slots σ e) h.bag
  | s i =>
    have h : SR K Z H σ e tmp := h
    obtain ⟨w, fp, q, r⟩ := h.rd (getD_some g)
    have k : σ[i]? = some (some v) := k
    rw [k] at q
    cases q
    exact ⟨fp, r⟩
end

def PostE (K : PySem.W.Frag) (W : XW) (σ : Sg) (tmp : Bag) (Q : VK) : Res D → Prop
  | .ok d e' => ∀ Z' H' v, SR K Z' H' σ e' ((v, d) :: tmp) → Q v H'
  | .exn x e' => ∀ Z' H' c o, SR K Z' H' σ e' tmp → XR K Z' H' x c o → W σ c o H'
  | .stuck => False
def PostX (K : PySem.W.Frag) (W : XW) (σ : Sg) (tmp : Bag) (Q : VK) : Res L → Prop
  | .ok l e' => ∀ Z' H' v, SR K Z' H' σ e' (lbag l v ++ tmp) → lok σ l v → Q v H'
  | .exn x e' => ∀ Z' H' c o, SR K Z' H' σ e' tmp → XR K Z' H' x c o → W σ c o H'
  | .stuck => False
def PostT (K : PySem.W.Frag) (W : XW) (σ : Sg) (tmp : Bag) (Q : Bool → Hp → Prop) : Res Bool → Prop
  | .ok b e' => ∀ Z' H', SR K Z' H' σ e' tmp → Q b H'
  | .exn x e' => ∀ Z' H' c o, SR K Z' H' σ e' tmp → XR K Z' H' x c o → W σ c o H'
  | .stuck => False
def lbags : List L → List V → Bag
  | l :: ls, v :: vs => lbag l v ++ lbags ls vs
  | _, _ => []
def loks (σ : Sg) : List L → List V → Prop
  | l :: ls, v :: vs => lok σ l v ∧ loks σ ls vs
  | [], [] => True
  | _, _ => False
def PostA (K : PySem.W.Frag) (W : XW) (σ : Sg) (tmp : Bag) (Q : List V → Hp → Prop) : Res (List L) → Prop
  | .ok ls e' => ∀ Z' H' vs, SR K Z' H' σ e' (lbags ls vs ++ tmp) → loks σ ls vs → Q vs H'
  | .exn x e' => ∀ Z' H' c o, SR K Z' H' σ e' tmp → XR K Z' H' x c o → W σ c o H'
  | .stuck => False
def Fx (fx : List Nat) (σ σ' : Sg) : Prop := ∀ i ∈ fx, σ'[i]? = σ[i]?
theorem Fx.refl {fx : List Nat} {σ : Sg} : Fx fx σ σ := fun _ _ => rfl
theorem Fx.trans {fx : List Nat} {σ σ1 σ2 : Sg} (a : Fx fx σ σ1) (b : Fx fx σ1 σ2) : Fx fx σ σ2 := fun i hi => (b i hi).trans (a i hi)
def PostS (K : PySem.W.Frag) (W : XW) (fx : List Nat) (σ : Sg) (tmp : Bag) (D : Ends) : SRes → Prop
  | .nx e' => ∀ Z' H' σ', SR K Z' H' σ' e' tmp → Fx fx σ σ' → D.nx σ' H'
  | .rt d e' => ∀ Z' H' σ' v, SR K Z' H' σ' e' ((v, d) :: tmp) → Fx fx σ σ' → D.rt v H'
  | .bk e' => ∀ Z' H' σ', SR K Z' H' σ' e' tmp → Fx fx σ σ' → D.bk σ' H'
  | .ct e' => ∀ Z' H' σ', SR K Z' H' σ' e' tmp → Fx fx σ σ' → D.ct σ' H'
  | .exn x e' => ∀ Z' H' σ' c o, SR K Z' H' σ' e' tmp → Fx fx σ σ' → XR K Z' H' x c o → W σ' c o H'
  | .stuck => False

def SndE (K : PySem.W.Frag) (W : XW) (t : TE) (f : DE → Res D) : Prop := ∀ Z σ H e tmp Q, SR K Z H σ e tmp → PostE K W σ tmp Q (f e) → t σ H Q
def SndX (K : PySem.W.Frag) (W : XW) (t : TE) (f : DE → Res L) : Prop := ∀ Z σ H e tmp Q, SR K Z H σ e tmp → PostX K W σ tmp Q (f e) → t σ H Q
def SndT (K : PySem.W.Frag) (W : XW) (t : TT) (f : DE → Res Bool) : Prop := ∀ Z σ H e tmp Q, SR K Z H σ e tmp → PostT K W σ tmp Q (f e) → t σ H Q
def SndA (K : PySem.W.Frag) (W : XW) (t : TA) (f : DE → Res (List L)) : Prop := ∀ Z σ H e tmp Q, SR K Z H σ e tmp → PostA K W σ tmp Q (f e) → t σ H Q
def SndS (K : PySem.W.Frag) (W : XW) (fx : List Nat) (t : TS) (f : DE → SRes) : Prop := ∀ Z σ H e tmp D, SR K Z H σ e tmp → PostS K W fx σ tmp D (f e) → t D σ H

structure VE (X : Cx) (W : XW) (e : Expr) (f : DE → Res D) : Prop where
  ex : ∃ t, PE X e t ∧ SndE X.K W t f
structure VX (X : Cx) (W : XW) (e : Expr) (f : DE → Res L) : Prop where
  ex : ∃ t, PE X e t ∧ SndX X.K W t f
structure VT (X : Cx) (W : XW) (e : Expr) (f : DE → Res Bool) : Prop where
  ex : ∃ t, PT X e t ∧ SndT X.K W t f
structure VW (X : Cx) (W : XW) (e : Expr) (f : DE → Res Bool) : Prop where
  ex : ∃ t, PW X e t ∧ SndT X.K W t f
structure VA (X : Cx) (W : XW) (es : List Expr) (f : DE → Res (List L)) : Prop where
  ex : ∃ t, PA X es t ∧ SndA X.K W t f
  len : ∀ e ls e1, f e = .ok ls e1 → ls.length = es.length
structure VS (X : Cx) (W : XW) (fx : List Nat) (st : Stmt) (f : DE → SRes) : Prop where
  ex : ∃ t, PS X st t ∧ SndS X.K W fx t f
structure VSs (X : Cx) (W : XW) (fx : List Nat) (st : List Stmt) (f : DE → SRes) : Prop where
  ex : ∃ t, PSs X st t ∧ SndS X.K W fx t f

/-! ### the operators, by values -/
def PostV (K : PySem.W.Frag) (W : XK) (B : Bag) (Q : VK) : Rs D → Prop
  | .ok d => ∀ Z' H' v, Hold K [] Z' H' ((v, d) :: B) → Q v H'
  | .exn x => ∀ Z' H' c o, Hold K [] Z' H' B → XR K Z' H' x c o → W c o H'
  | .stuck => False
def OpS (K : PySem.W.Frag) (r : R2) (g : D → D → Rs D) : Prop :=
  ∀ Z H B Q W d1 v1 f1 d2 v2 f2, Hold K [] Z H B → Rp K Z H d1 v1 f1 → Rp K Z H d2 v2 f2 → PostV K W B Q (g d1 d2) → r v1 v2 H Q
def UnS (K : PySem.W.Frag) (r : V → Hp → VK → Prop) (g : D → Rs D) : Prop :=
  ∀ Z H B Q W d1 v1 f1, Hold K [] Z H B → Rp K Z H d1 v1 f1 → PostV K W B Q (g d1) → r v1 H Q
inductive RpF (K : PySem.W.Frag) (Z : AS) (H : Hp) : List D → List V → Prop where
  | nil : RpF K Z H [] []
  | cons {d v fp ds vs} (h : Rp K Z H d v fp) (t : RpF K Z H ds vs) : RpF K Z H (d :: ds) (v :: vs)
def CallS (K : PySem.W.Frag) (r : List V → Hp → VK → Prop) (g : List D → Rs D) : Prop :=
  ∀ Z H B Q W ds vs, Hold K [] Z H B → RpF K Z H ds vs → PostV K W B Q (g ds) → r vs H Q

theorem PostV.to {K : PySem.W.Frag} {W : XW} {σ : Sg} {e : DE} {tmp1 tmp : Bag} {Q : VK} {r : Rs D} (f : fits σ e) (h : PostE K W σ tmp Q (r.at e)) : PostV K (W σ) (tmp1 ++ tmp ++ slots σ e) Q r := by
  cases r with
  | ok d =>
    intro Z' H' v q
    refine h Z' H' v (.of f ?_)
    refine q.sub ⟨tmp1, ?_⟩
    simp only [List.cons_append, List.append_assoc]
    exact List.perm_middle
  | exn x => exact fun Z' H' c o q xr => h Z' H' c o (.of f (Hold.drop (by rw [List.append_assoc] at q; exact q))) xr
  | stuck => exact h

def eOp2 (g : D → D → Rs D) (fa fb : DE → Res L) : DE → Res D := fun e => (fa e).bind fun la e1 => (fb e1).bind fun lb e2 => match lget la e2, lget lb e2 with
  | some da, some db => (g da db).at e2
  | _, _ => .stuck
section
variable {X : Cx} {W : XW} {a b c : Expr} {fa fb fc : DE → Res L} {pos : Pos}
theorem snd_op2 {K : PySem.W.Frag} {ta tb : TE} {r : R2} {g : D → D → Rs D} (ha : SndX K W ta fa) (hb : SndX K W tb fb) (hr : OpS K r g) : SndE K W (tOp r ta tb) (eOp2 g fa fb) := by
  intro Z σ H e tmp Q sr po
  refine ha Z σ H e tmp _ sr ?_
  unfold eOp2 at po
  cases h1 : fa e with
  | stuck => rw [h1] at po; exact po
  | exn x e1 => rw [h1] at po; exact po
  | ok la e1 =>
    rw [h1] at po
    intro Z1 H1 v1 sr1 k1
    refine hb Z1 σ H1 e1 (lbag la v1 ++ tmp) _ sr1 ?_
    have po : PostE K W σ tmp Q ((fb e1).bind _) := po
    cases h2 : fb e1 with
    | stuck => rw [h2] at po; exact po
    | exn x e2 => rw [h2] at po; exact fun Z' H' c o q xr => po Z' H' c o q.drop xr
    | ok lb e2 =>
      rw [h2] at po
      intro Z2 H2 v2 sr2 k2
      have po : PostE K W σ tmp Q (match lget la e2, lget lb e2 with
        | some da, some db => (g da db).at e2
        | _, _ => .stuck) := po
      cases ga : lget la e2 with
      | none => rw [ga] at po; exact po.elim
      | some da =>
        cases gb : lget lb e2 with
        | none => rw [ga, gb] at po; exact po.elim
        | some db =>
          rw [ga, gb] at po
          obtain ⟨f2, r2⟩ := lread sr2 k2 gb
          have sr3 : SR K Z2 H2 σ e2 (lbag la v1 ++ (lbag lb v2 ++ tmp)) := sr2.perm (by
            rw [← List.append_assoc, ← List.append_assoc]
            exact List.Perm.append_right _ List.perm_append_comm)
          obtain ⟨f1, r1⟩ := lread sr3 k1 ga
          refine hr Z2 H2 ((lbag la v1 ++ lbag lb v2) ++ tmp ++ slots σ e2) Q (W σ) da v1 f1 db v2 f2 ?_ r1 r2 (PostV.to sr2.fit po)
          have q := sr3.bag
          rw [← List.append_assoc] at q
          exact q
theorem ve_op {op : Operator} {r : R2} {g : D → D → Rs D} (ho : OpR X (binaryOp op) r) (hr : OpS X.K r g) (ha : VX X W a fa) (hb : VX X W b fb) : VE X W (.BinOp a op b pos) (eOp2 g fa fb) := by
  obtain ⟨ta, pa, sa⟩ := ha.ex
  obtain ⟨tb, pb, sb⟩ := hb.ex
  exact ⟨_, pe_op ho pa pb, snd_op2 sa sb hr⟩
theorem ve_cmp {op : CmpOp} {r : R2} {g : D → D → Rs D} (ho : OpR X (compareOp op) r) (hr : OpS X.K r g) (ha : VX X W a fa) (hb : VX X W b fb) (hm : behindInMarks op b = false) : VE X W (.Compare a [op] [b] pos) (eOp2 g fa fb) := by
  obtain ⟨ta, pa, sa⟩ := ha.ex
  obtain ⟨tb, pb, sb⟩ := hb.ex
  exact ⟨_, pe_cmpR ho pa pb hm, snd_op2 sa sb hr⟩
end
end Tr

set_option maxHeartbeats 2000000
/-! The tree layer 3: calls of own defs. -/
namespace Tr
open PySem PySem.Spec PyProof.Rows L2

/-! ### a def's promise -/
inductive FR where
  | ok (d : D) (ds : List D) | exn (x : Exn) (ds : List D) | stuck
def PostF (K : PySem.W.Frag) (vs : List V) (tmp : Bag) (Q : VK) (E : XK) : FR → Prop
  | .ok d ds' => ∀ Z' H' v, Hold K [] Z' H' ((v, d) :: (vs.zip ds' ++ tmp)) → Q v H'
  | .exn x ds' => ∀ Z' H' c o, Hold K [] Z' H' (vs.zip ds' ++ tmp) → XR K Z' H' x c o → E c o H'
  | .stuck => False
def spG (K : PySem.W.Frag) (n : Nat) (G : List D → FR) : Sp := fun vs H Q E =>
  ∃ Z ds tmp, ds.length = n ∧ vs.length = n ∧ Hold K [] Z H (vs.zip ds ++ tmp) ∧ PostF K vs tmp Q E (G ds)

def take : List L → DE → Option (List D × DE)
  | [], e => some ([], e)
  | .v d :: ls, e => (take ls e).map fun p => (d :: p.1, p.2)
  | .s i :: ls, e => match e.getD i none with
    | some d => if d.flag = true then (take ls (e.set i none)).map fun p => (d :: p.1, p.2) else (take ls e).map fun p => (d :: p.1, p.2)
    | none => none
def give : List L → List D → List D → DE → DE
  | .s i :: ls, d :: ds, d' :: ds', e => if d.flag = true then (give ls ds ds' e).set i (some d') else give ls ds ds' e
  | .v _ :: ls, _ :: ds, _ :: ds', e => give ls ds ds' e
  | _, _, _, e => e
section
variable {K : PySem.W.Frag} {Z : AS} {H : Hp} {σ : Sg}
theorem zip_mid {v : V} {d : D} {vs : List V} {ds : List D} {tmp : Bag} : (vs.zip ds ++ (v, d) :: tmp).Perm ((v :: vs).zip (d :: ds) ++ tmp) := List.perm_middle
theorem SR.add {e : DE} {tmp : Bag} {v : V} {d : D} (h : SR K Z H σ e tmp) (r : Rp K Z H d v []) : SR K Z H σ e ((v, d) :: tmp) := .of h.fit (h.bag.add r)
theorem RpF.length {ds : List D} {vs : List V} (h : RpF K Z H ds vs) : vs.length = ds.length := by
  induction h with
  | nil => rfl
  | cons _ _ ih => simp [ih]
theorem zip_cut {α β : Type} : ∀ (vs ws : List α) (es : List β), (vs ++ ws).zip es = vs.zip es ++ ws.zip (es.drop vs.length)
  | [], ws, es => rfl
  | v :: vs, ws, [] => by simp
  | v :: vs, ws, e :: es => by
    show (v, e) :: (vs ++ ws).zip es = (v, e) :: (vs.zip es ++ ws.zip (es.drop vs.length))
    rw [zip_cut vs ws es]
theorem take_ok : ∀ {ls : List L} {vs : List V} {e e' : DE} {ds : List D} {tmp : Bag}, SR K Z H σ e (lbags ls vs ++ tmp) → loks σ ls vs → take ls e = some (ds, e') → SR K Z H σ e' (vs.zip ds ++ tmp) ∧ vs.length = ds.length
  | [], [], e, e', ds, tmp, h, _, t => by
    simp only [take, Option.some.injEq, Prod.mk.injEq] at t
    obtain ⟨rfl, rfl⟩ := t
    exact ⟨h, rfl⟩
  | [], _ :: _, _, _, _, _, _, k, _ => k.elim
  | .v d :: ls, [], _, _, _, _, _, k, _ => k.elim
  | .s i :: ls, [], _, _, _, _, _, k, _ => k.elim
  | .v d :: ls, v :: vs, e, e', ds, tmp, h, k, t => by
    simp only [take, Option.map_eq_some_iff] at t
    obtain ⟨⟨ds1, e1⟩, t1, t2⟩ := t
    obtain ⟨rfl, rfl⟩ := Prod.mk.inj t2
    have h' : SR K Z H σ e (lbags ls vs ++ (v, d) :: tmp) := h.perm (List.perm_middle (a := (v, d))).symm
    obtain ⟨q, ql⟩ := take_ok h' k.2 t1
    exact ⟨q.perm zip_mid, by simp [ql]⟩
  | .s i :: ls, v :: vs, e, e', ds, tmp, h, k, t => by
    have h : SR K Z H σ e (lbags ls vs ++ tmp) := h
    have kv : σ[i]? = some (some v) := k.1
    unfold take at t
    cases g : e.getD i none with
    | none => rw [g] at t; cases t
    | some d =>
      rw [g] at t
      have gi := getD_some g
      by_cases hf : d.flag = true
      · simp only [hf, if_true, Option.map_eq_some_iff] at t
        obtain ⟨⟨ds1, e1⟩, t1, t2⟩ := t
        obtain ⟨rfl, rfl⟩ := Prod.mk.inj t2
        obtain ⟨w, hw, h1⟩ := h.out gi
        rw [kv] at hw; cases hw
        have h' : SR K Z H σ (e.set i none) (lbags ls vs ++ (v, d) :: tmp) := h1.perm (List.perm_middle (a := (v, d))).symm
        obtain ⟨q, ql⟩ := take_ok h' k.2 t1
        exact ⟨q.perm zip_mid, by simp [ql]⟩
      · have hf : d.flag = false := by simpa using hf
        simp only [hf, Bool.false_eq_true, if_false, Option.map_eq_some_iff] at t
        obtain ⟨⟨ds1, e1⟩, t1, t2⟩ := t
        obtain ⟨rfl, rfl⟩ := Prod.mk.inj t2
        obtain ⟨w, fp, hw, r⟩ := h.rd gi
        rw [kv] at hw; cases hw
        have e0 := r.noflag hf
        subst e0
        have h' : SR K Z H σ e (lbags ls vs ++ (v, d) :: tmp) := (h.add r).perm (List.perm_middle (a := (v, d))).symm
        obtain ⟨q, ql⟩ := take_ok h' k.2 t1
        exact ⟨q.perm zip_mid, by simp [ql]⟩
theorem give_none : ∀ {ls : List L} {e e' : DE} {ds ds' : List D} {i : Nat}, take ls e = some (ds, e') → e[i]? = some none → (give ls ds ds' e')[i]? = some none
  | [], e, e', ds, ds', i, t, h => by
    simp only [take, Option.some.injEq, Prod.mk.injEq] at t
    obtain ⟨rfl, rfl⟩ := t
    simpa [give] using h
  | .v d :: ls, e, e', ds, ds', i, t, h => by
    simp only [take, Option.map_eq_some_iff] at t
    obtain ⟨⟨ds1, e1⟩, t1, t2⟩ := t
    obtain ⟨rfl, rfl⟩ := Prod.mk.inj t2
    cases ds' with
    | nil =>
      have q := give_none (ds' := []) t1 h
      cases ls <;> cases ds1 <;> first | exact q | (rename_i l _; cases l <;> exact q) | (rename_i l _ _ _; cases l <;> exact q)
    | cons d' ds' => exact give_none (ds' := ds') t1 h
  | .s j :: ls, e, e', ds, ds', i, t, h => by
    unfold take at t
    cases g : e.getD j none with
    | none => rw [g] at t; cases t
    | some d =>
      rw [g] at t
      have gi := getD_some g
      have hij : j ≠ i := by rintro rfl; rw [h] at gi; cases gi
      by_cases hf : d.flag = true
      · simp only [hf, if_true, Option.map_eq_some_iff] at t
        obtain ⟨⟨ds1, e1⟩, t1, t2⟩ := t
        obtain ⟨rfl, rfl⟩ := Prod.mk.inj t2
        have h1 : (e.set j none)[i]? = some none := by rw [List.getElem?_set_ne hij]; exact h
        cases ds' with
        | nil =>
          have q := give_none (ds' := []) t1 h1
          cases ls <;> cases ds1 <;> first | exact q | (rename_i l _; cases l <;> exact q) | (rename_i l _ _ _; cases l <;> exact q)
        | cons d' ds' =>
          have q := give_none (ds' := ds') t1 h1
          simp only [give, hf, if_true]
          rw [List.getElem?_set_ne hij]; exact q
      · have hf : d.flag = false := by simpa using hf
        simp only [hf, Bool.false_eq_true, if_false, Option.map_eq_some_iff] at t
        obtain ⟨⟨ds1, e1⟩, t1, t2⟩ := t
        obtain ⟨rfl, rfl⟩ := Prod.mk.inj t2
        cases ds' with
        | nil =>
          have q := give_none (ds' := []) t1 h
          cases ls <;> cases ds1 <;> first | exact q | (rename_i l _; cases l <;> exact q) | (rename_i l _ _ _; cases l <;> exact q)
        | cons d' ds' =>
          have q := give_none (ds' := ds') t1 h
          simp only [give, hf, Bool.false_eq_true, if_false]
          exact q
theorem give_nil : ∀ {ls : List L} {ds : List D} {e : DE}, give ls ds [] e = e
  | [], ds, e => by simp [give]
  | .v _ :: ls, [], e => by simp [give]
  | .v _ :: ls, _ :: ds, e => by simp [give]
  | .s _ :: ls, [], e => by simp [give]
  | .s _ :: ls, _ :: ds, e => by simp [give]
theorem give_ok : ∀ {ls : List L} {vs : List V} {e e' : DE} {ds ds' : List D} {tmp : Bag}, SR K Z H σ e' (vs.zip ds' ++ tmp) → loks σ ls vs → take ls e = some (ds, e') → SR K Z H σ (give ls ds ds' e') tmp
  | [], vs, e, e', ds, ds', tmp, h, _, t => by
    have : give [] ds ds' e' = e' := by simp [give]
    rw [this]; exact h.drop
  | .v d :: ls, [], _, _, _, _, _, _, k, _ => k.elim
  | .s i :: ls, [], _, _, _, _, _, _, k, _ => k.elim
  | l :: ls, v :: vs, e, e', ds, [], tmp, h, k, t => by rw [give_nil]; exact h.drop
  | .v d :: ls, v :: vs, e, e', ds, d' :: ds', tmp, h, k, t => by
    simp only [take, Option.map_eq_some_iff] at t
    obtain ⟨⟨ds1, e1⟩, t1, t2⟩ := t
    obtain ⟨rfl, rfl⟩ := Prod.mk.inj t2
    show SR K Z H σ (give ls ds1 ds' e1) tmp
    exact give_ok (vs := vs) (tmp := tmp) (show SR K Z H σ e1 (vs.zip ds' ++ tmp) from SR.tail (x := (v, d')) h) k.2 t1
  | .s i :: ls, v :: vs, e, e', ds, d' :: ds', tmp, h, k, t => by
    have kv : σ[i]? = some (some v) := k.1
    unfold take at t
    cases g : e.getD i none with
    | none => rw [g] at t; cases t
    | some d =>
      rw [g] at t
      have gi := getD_some g
      have hil : i < e.length := (List.getElem?_eq_some_iff.mp gi).1
      by_cases hf : d.flag = true
      · simp only [hf, if_true, Option.map_eq_some_iff] at t
        obtain ⟨⟨ds1, e1⟩, t1, t2⟩ := t
        obtain ⟨rfl, rfl⟩ := Prod.mk.inj t2
        have q := give_ok (tmp := (v, d') :: tmp) (h.perm zip_mid.symm) k.2 t1
        have z := give_none (ds' := ds') t1 (i := i) (by rw [List.getElem?_set_self hil])
        simp only [give, hf, if_true]
        exact q.back z kv
      · have hf : d.flag = false := by simpa using hf
        simp only [hf, Bool.false_eq_true, if_false, Option.map_eq_some_iff] at t
        obtain ⟨⟨ds1, e1⟩, t1, t2⟩ := t
        obtain ⟨rfl, rfl⟩ := Prod.mk.inj t2
        have q := give_ok (tmp := tmp) (show SR K Z H σ e1 (vs.zip ds' ++ tmp) from SR.tail (x := (v, d')) h) k.2 t1
        simp only [give, hf, Bool.false_eq_true, if_false]
        exact q
end

def eCall (G : List D → FR) (dds : List D) (fa : DE → Res (List L)) : DE → Res D := fun e => (fa e).bind fun ls e1 => match take ls e1 with
  | some (ds, e2) => match G (ds ++ dds) with
    | .ok d ds' => .ok d (give ls ds ds' e2)
    | .exn x ds' => .exn x (give ls ds ds' e2)
    | .stuck => .stuck
  | none => .stuck
section
variable {X : Cx} {W : XW} {CX : CXT} {k n : Nat} {f : Addr} {fd : FuncData} {ps : List Str} {dvs : List V} {dsv : List Value} {x : Str} {p pos : Pos} {e : Expr} {es : List Expr} {G : List D → FR} {dds : List D} {fa : DE → Res (List L)}
/-- what a call asks, met: ls the operands, dvs further values that are held -/
theorem call_post2 {K : PySem.W.Frag} {σ : Sg} {tmp : Bag} {Q : VK} {ls : List L} {vs : List V} {e1 : DE} {Z : AS} {H : Hp} {dvs : List V} (sr : SR K Z H σ e1 (lbags ls vs ++ (dvs.zip dds ++ tmp))) (kk : loks σ ls vs) (hdl : dvs.length = dds.length)
    (po : PostE K W σ tmp Q (match take ls e1 with
      | some (ds, e2) => match G (ds ++ dds) with
        | .ok d ds' => .ok d (give ls ds ds' e2)
        | .exn x ds' => .exn x (give ls ds ds' e2)
        | .stuck => .stuck
      | none => .stuck)) (hl : vs.length + dvs.length = n) : spG K n G (vs ++ dvs) H Q (W σ) := by
  cases t : take ls e1 with
  | none => rw [t] at po; exact po.elim
  | some q =>
    obtain ⟨ds, e2⟩ := q
    rw [t] at po
    obtain ⟨sr2, ql⟩ := take_ok sr kk t
    have hz : ∀ (es : List D), (vs ++ dvs).zip (ds ++ es) = vs.zip ds ++ dvs.zip es := fun es => List.zip_append ql
    have hold : Hold K [] Z H ((vs ++ dvs).zip (ds ++ dds) ++ (tmp ++ slots σ e2)) := by
      rw [hz]
      have b := sr2.bag
      simpa [List.append_assoc] using b
    refine ⟨Z, ds ++ dds, tmp ++ slots σ e2, by rw [List.length_append, ← ql, ← hdl]; exact hl, by rw [List.length_append]; exact hl, hold, ?_⟩
    have po : PostE K W σ tmp Q (match G (ds ++ dds) with
        | .ok d ds' => .ok d (give ls ds ds' e2)
        | .exn x ds' => .exn x (give ls ds ds' e2)
        | .stuck => .stuck) := po
    -- the arguments' part of what is held behind
    have split : ∀ {Z' : AS} {H' : Hp} {ds' : List D} {B : Bag}, Hold K [] Z' H' ((vs ++ dvs).zip ds' ++ B) → Hold K [] Z' H' (vs.zip ds' ++ B) := by
      intro Z' H' ds' B h
      have z : (vs ++ dvs).zip ds' = vs.zip ds' ++ dvs.zip (ds'.drop vs.length) := zip_cut vs dvs ds'
      rw [z, List.append_assoc] at h
      exact h.sub ⟨dvs.zip (ds'.drop vs.length), by rw [← List.append_assoc, ← List.append_assoc]; exact List.Perm.append_right _ List.perm_append_comm⟩
    cases g : G (ds ++ dds) with
    | stuck => rw [g] at po; exact po
    | ok d ds' =>
      rw [g] at po
      intro Z' H' v hh
      have h1 : Hold K [] Z' H' (vs.zip ds' ++ ((v, d) :: tmp ++ slots σ e2)) := split (hh.perm (by
        simp only [List.cons_append]
        exact (List.perm_middle (a := (v, d))).symm))
      have s1 : SR K Z' H' σ e2 (vs.zip ds' ++ (v, d) :: tmp) := .of sr2.fit (by rw [List.append_assoc]; exact h1)
      exact po Z' H' v (give_ok s1 kk t)
    | exn x ds' =>
      rw [g] at po
      intro Z' H' c o hh xr
      have s1 : SR K Z' H' σ e2 (vs.zip ds' ++ tmp) := .of sr2.fit (by rw [List.append_assoc]; exact split hh)
      exact po Z' H' c o (give_ok s1 kk t) xr
theorem Hold.addF {K : PySem.W.Frag} {Z : AS} {H : Hp} {dds : List D} {dvs : List V} {B : Bag} (h : RpF K Z H dds dvs) : (∀ d ∈ dds, d.flag = false) → Hold K [] Z H B → Hold K [] Z H (dvs.zip dds ++ B) := by
  induction h with
  | nil => exact fun _ b => b
  | @cons d v fp ds' vs' h t ih =>
    intro hf b
    have e0 := h.noflag (hf d List.mem_cons_self)
    subst e0
    exact (ih (fun x hx => hf x (List.mem_cons_of_mem _ hx)) b).add h
theorem call_post {K : PySem.W.Frag} {σ : Sg} {tmp : Bag} {Q : VK} {ls : List L} {vs : List V} {e1 : DE} {Z : AS} {H : Hp} {dvs : List V} (sr : SR K Z H σ e1 (lbags ls vs ++ tmp)) (kk : loks σ ls vs) (hd : RpF K Z H dds dvs) (hd0 : ∀ d ∈ dds, d.flag = false)
    (po : PostE K W σ tmp Q (match take ls e1 with
      | some (ds, e2) => match G (ds ++ dds) with
        | .ok d ds' => .ok d (give ls ds ds' e2)
        | .exn x ds' => .exn x (give ls ds ds' e2)
        | .stuck => .stuck
      | none => .stuck)) (hl : vs.length + dvs.length = n) : spG K n G (vs ++ dvs) H Q (W σ) := by
  refine call_post2 (Z := Z) (.of sr.fit ?_) kk hd.length po hl
  have b := Hold.addF hd hd0 sr.bag
  refine b.perm ?_
  simp only [List.append_assoc]
  exact List.perm_append_comm_assoc _ _ _
theorem ve_call (F : FnOk X.prog X.w X.K X.mg X.base CX k f fd ps (spG X.K n G)) (hr : Room k X.A) (hg : Gl X x) (hm : X.mg x = some (.ref f)) (hk : PySem.W.keepIn X.K (.ref f) = true) (hb : Binds X.K fd ps dsv) (hd : Vals dvs dsv)
    (hdd : ∀ Z H, RpF X.K Z H dds dvs) (hd0 : ∀ d ∈ dds, d.flag = false) (hx : ∀ σ, PassesAt CX X σ (W σ)) (ha : VA X W (e :: es) fa) (hn : (e :: es).length + dds.length = n)
    (hdb : (x == ("__debug__" : Str)) = false := by decide) (he : starEach (e :: es) X.env = (false, eval e X.env) :: starEach es X.env := by rfl) (hpl : (backTo pos (starEach es X.env)).any (·.1) = false := by rfl) :
    VE X W (.Call (.Name x p) (e :: es) [] pos) (eCall G dds fa) := by
  obtain ⟨ta, pa, sa⟩ := ha.ex
  refine ⟨_, pe_callSD F hr hg hm hk hb hd hx pa hdb he hpl, fun Z σ H e' tmp Q sr po => ?_⟩
  refine sa Z σ H e' tmp _ sr ?_
  unfold eCall at po
  cases h1 : fa e' with
  | stuck => rw [h1] at po; exact po
  | exn x e1 => rw [h1] at po; exact po
  | ok ls e1 =>
    rw [h1] at po
    intro Z1 H1 vs sr1 kk
    have hlen : vs.length = ls.length := by
      clear po sr1 h1
      induction ls generalizing vs with
      | nil => cases vs with
        | nil => rfl
        | cons _ _ => exact kk.elim
      | cons l ls ih => cases vs with
        | nil => exact kk.elim
        | cons v vs => simp [ih vs kk.2]
    have hdl : dvs.length = dds.length := by
      exact (hdd Z H).length
    exact call_post sr1 kk (hdd Z1 H1) hd0 po (by rw [hlen, hdl, ha.len _ _ _ h1]; exact hn)
end

/-! ### a def's body -/
def back (fx : List Nat) : Nat → List D → DE → Option (List D)
  | _, [], _ => some []
  | i, d :: ds, o :: e => (if fx.contains i = true then o else if d.flag = true then none else some d).bind fun d' => (back fx (i + 1) ds e).map (d' :: ·)
  | _, _ :: _, [] => none
def fin (fx : List Nat) (ds : List D) (e : DE) (k : List D → FR) : FR := match back fx 0 ds e with
  | some ds' => k ds'
  | none => .stuck
def fnG0 (fx : List Nat) (n m : Nat) (fb : DE → SRes) : List D → FR := fun ds => match fb (ds.map some ++ List.replicate (m - n) none) with
  | .nx e => fin fx ds e (.ok .non)
  | .rt d e => fin fx ds e (.ok d)
  | .exn x e => fin fx ds e (.exn x)
  | _ => .stuck
/-- the same, sealed against unfolding -/
noncomputable def fnG (fx : List Nat) (n m : Nat) (fb : DE → SRes) : List D → FR := Classical.choose (p := fun f => f = fnG0 fx n m fb) ⟨_, rfl⟩
theorem fnG_eq (fx : List Nat) (n m : Nat) (fb : DE → SRes) : fnG fx n m fb = fnG0 fx n m fb := Classical.choose_spec (p := fun f => f = fnG0 fx n m fb) ⟨_, rfl⟩
def keepB (fx : List Nat) : Nat → List V → List D → Bag
  | i, v :: vs, d :: ds => if fx.contains i = true then keepB fx (i + 1) vs ds else if d.flag = true then keepB fx (i + 1) vs ds else (v, d) :: keepB fx (i + 1) vs ds
  | _, _, _ => []
section
variable {K : PySem.W.Frag} {Z : AS} {H : Hp}
theorem back_ok {fx : List Nat} : ∀ {ds : List D} {vs : List V} {i : Nat} {σ : Sg} {e : DE} {ds' : List D} {B : Bag}, fits σ e → vs.length = ds.length → (∀ k, fx.contains (i + k) = true → ∀ v, vs[k]? = some v → σ[k]? = some (some v)) →
    back fx i ds e = some ds' → Hold K [] Z H (slots σ e ++ (keepB fx i vs ds ++ B)) → Hold K [] Z H (vs.zip ds' ++ B)
  | [], [], i, σ, e, ds', B, f, _, hv, hb, h => by
    have e1 : ds' = [] := by cases e <;> (simp [back] at hb; exact hb)
    subst e1
    exact h.drop
  | [], _ :: _, _, _, _, _, _, _, l, _, _, _ => by simp at l
  | _ :: _, [], _, _, _, _, _, _, l, _, _, _ => by simp at l
  | d :: ds, v :: vs, i, σ, [], ds', B, f, l, hv, hb, h => by simp [back] at hb
  | d :: ds, v :: vs, i, [], _ :: _, ds', B, f, l, hv, hb, h => f.elim
  | d :: ds, v :: vs, i, x :: σ, o :: e, ds', B, f, l, hv, hb, h => by
    simp only [back, Option.bind_eq_some_iff, Option.map_eq_some_iff] at hb
    obtain ⟨d', h1, ds1, h2, rfl⟩ := hb
    have l' : vs.length = ds.length := by simpa using l
    have hv' : ∀ k, fx.contains (i + 1 + k) = true → ∀ w, vs[k]? = some w → σ[k]? = some (some w) := fun k hk w hw => by
      have q := hv (k + 1) (by rw [show i + (k + 1) = i + 1 + k by omega]; exact hk) w (by simpa using hw)
      simpa using q
    have f' : fits σ e := by
      cases o with
      | none => exact f
      | some _ => exact f.2
    by_cases hc : fx.contains i = true
    · rw [if_pos hc] at h1
      subst h1
      have hx := hv 0 (by simpa using hc) v rfl
      have hx : x = some v := by simpa using hx
      subst hx
      have hk : keepB fx i (v :: vs) (d :: ds) = keepB fx (i + 1) vs ds := by simp only [keepB, hc, if_true]
      rw [hk] at h
      have h3 : Hold K [] Z H (slots σ e ++ (keepB fx (i + 1) vs ds ++ (v, d') :: B)) := by
        refine h.perm ?_
        show ((v, d') :: (slots σ e ++ (keepB fx (i + 1) vs ds ++ B))).Perm _
        rw [← List.append_assoc, ← List.append_assoc]
        exact (List.perm_middle (a := (v, d'))).symm
      exact (back_ok f' l' hv' h2 h3).perm List.perm_middle
    · rw [if_neg hc] at h1
      by_cases hf : d.flag = true
      · rw [if_pos hf] at h1; cases h1
      · rw [if_neg hf] at h1
        cases h1
        have hk : keepB fx i (v :: vs) (d :: ds) = (v, d) :: keepB fx (i + 1) vs ds := by simp only [keepB, hc, hf, if_false]; rfl
        rw [hk] at h
        have h3 : Hold K [] Z H (slots σ e ++ (keepB fx (i + 1) vs ds ++ (v, d) :: B)) := by
          have h4 : Hold K [] Z H (slots σ e ++ ((v, d) :: keepB fx (i + 1) vs ds ++ B)) := by
            cases o with
            | none => exact h
            | some d2 => exact Hold.tail h
          refine h4.perm (List.Perm.append_left _ ?_)
          exact (List.perm_middle (a := (v, d))).symm
        exact (back_ok f' l' hv' h2 h3).perm List.perm_middle
theorem keep_in {fx : List Nat} : ∀ {ds : List D} {vs : List V} {i : Nat} {B : Bag}, vs.length = ds.length → Hold K [] Z H (vs.zip ds ++ B) → Hold K [] Z H (vs.zip ds ++ (keepB fx i vs ds ++ B))
  | [], [], i, B, _, h => h
  | [], _ :: _, _, _, l, _ => by simp at l
  | _ :: _, [], _, _, l, _ => by simp at l
  | d :: ds, v :: vs, i, B, l, h => by
    have l' : vs.length = ds.length := by simpa using l
    have h0 : Hold K [] Z H (vs.zip ds ++ (v, d) :: B) := h.perm (List.perm_middle (a := (v, d))).symm
    have h1 := keep_in (fx := fx) (i := i + 1) l' h0
    have h2 : Hold K [] Z H ((v, d) :: (vs.zip ds ++ (keepB fx (i + 1) vs ds ++ B))) := by
      refine h1.perm ?_
      rw [← List.append_assoc, ← List.append_assoc]
      exact List.perm_middle
    by_cases hc : fx.contains i = true
    · have hk : keepB fx i (v :: vs) (d :: ds) = keepB fx (i + 1) vs ds := by simp only [keepB, hc, if_true]
      rw [hk]; exact h2
    · by_cases hf : d.flag = true
      · have hk : keepB fx i (v :: vs) (d :: ds) = keepB fx (i + 1) vs ds := by simp only [keepB, hc, hf, if_false, if_true]; rfl
        rw [hk]; exact h2
      · have hk : keepB fx i (v :: vs) (d :: ds) = (v, d) :: keepB fx (i + 1) vs ds := by simp only [keepB, hc, hf, if_false]; rfl
        rw [hk]
        have h3 := h2.dup (by simpa using hf)
        refine h3.perm ?_
        show ((v, d) :: (v, d) :: (vs.zip ds ++ (keepB fx (i + 1) vs ds ++ B))).Perm ((v, d) :: (vs.zip ds ++ ((v, d) :: keepB fx (i + 1) vs ds ++ B)))
        exact (List.perm_middle (a := (v, d))).symm.cons _
theorem slots_none : ∀ {n : Nat} {σ : Sg}, slots σ (List.replicate n none) = []
  | 0, [] => rfl
  | 0, _ :: _ => rfl
  | n + 1, [] => rfl
  | n + 1, _ :: σ => slots_none (n := n) (σ := σ)
theorem start_slots : ∀ {vs : List V} {ds : List D} {n : Nat}, vs.length = ds.length → slots (vs.map some ++ List.replicate n none) (ds.map some ++ List.replicate n none) = vs.zip ds ∧ fits (vs.map some ++ List.replicate n none) (ds.map some ++ List.replicate n none)
  | [], [], n, _ => by
    refine ⟨slots_none, ?_⟩
    show fits (List.replicate n none) (List.replicate n none)
    induction n with
    | zero => trivial
    | succ n ih => exact ih
  | [], _ :: _, _, l => by simp at l
  | _ :: _, [], _, l => by simp at l
  | v :: vs, d :: ds, n, l => by
    obtain ⟨h1, h2⟩ := start_slots (vs := vs) (ds := ds) (n := n) (by simpa using l)
    exact ⟨congrArg ((v, d) :: ·) h1, ⟨v, rfl⟩, h2⟩
end
section
variable {P : Program} {w : World} {K : PySem.W.Frag} {mg : Str → Option Value} {base : Heap} {CX : CXT}
theorem fn_ok {x qual : Str} {params : Arguments} {body : List Stmt} {scope : Scope} {dvs : List V} {kws : List (Str × V)} {f : Addr} {fd : FuncData} {N ps : List Str} {k : Nat} {fx : List Nat} {fb : DE → SRes}
    (F : FunD K x qual params body scope dvs kws f fd) (S : FnScope N ps scope)
    (hb : ∀ (cdv : Value) (A : Around) (outer : List Env) (s : Shared) (H : Hp) (E : XK), Room k (A.deeper (envOfC qual scope s.heap.objs.size f cdv)) → VSs (cxOf CX P w K mg base N qual scope f cdv A outer s H E) (fun _ => E) fx body fb) :
    FnOk P w K mg base CX (k + 1) f fd ps (spG K ps.length (fnG fx ps.length N.length fb)) := by
  refine F.ok S (fun vs H Q E h => ?_) (fun cdv A outer s H vs Q E hr h => ?_)
  · obtain ⟨Z, ds, tmp, _, e, _⟩ := h
    exact e
  · obtain ⟨t, pt, st⟩ := (hb cdv A outer s H E hr).ex
    refine ⟨t, pt, ?_⟩
    obtain ⟨Z, ds, tmp, l1, l2, hold, po⟩ := h
    have l3 : vs.length = ds.length := l2.trans l1.symm
    obtain ⟨s1, s2⟩ := start_slots (n := N.length - ps.length) l3
    have hst : L2.start N vs = vs.map some ++ List.replicate (N.length - ps.length) none := by unfold L2.start; rw [l2]
    rw [hst]
    have sr : SR K Z H (vs.map some ++ List.replicate (N.length - ps.length) none) (ds.map some ++ List.replicate (N.length - ps.length) none) (keepB fx 0 vs ds ++ tmp) := ⟨s2, by rw [s1]; exact keep_in l3 hold⟩
    refine st Z _ H _ _ _ sr ?_
    have fin_ok : ∀ {Z' : AS} {H' : Hp} {σ' : Sg} {e' : DE} {B : Bag} {ds' : List D}, SR K Z' H' σ' e' (B ++ (keepB fx 0 vs ds ++ tmp)) → Fx fx (vs.map some ++ List.replicate (N.length - ps.length) none) σ' → back fx 0 ds e' = some ds' → Hold K [] Z' H' (B ++ (vs.zip ds' ++ tmp)) := by
      intro Z' H' σ' e' B ds' q fxh hb
      have h1 : Hold K [] Z' H' (slots σ' e' ++ (keepB fx 0 vs ds ++ (B ++ tmp))) := q.hold.perm (List.Perm.append_left _ (List.perm_append_comm_assoc _ _ _))
      have h2 := back_ok q.fit l3 (fun k hk v hv => ?_) hb h1
      · exact h2.perm (List.perm_append_comm_assoc _ _ _)
      · rw [Nat.zero_add] at hk
        have hm : k ∈ fx := by simpa using hk
        rw [fxh k hm]
        have hlt : k < vs.length := (List.getElem?_eq_some_iff.mp hv).1
        rw [List.getElem?_append_left (by simpa using hlt), List.getElem?_map, hv]
        rfl
    rw [fnG_eq] at po
    unfold fnG0 at po
    cases hfb : fb (ds.map some ++ List.replicate (N.length - ps.length) none) with
    | stuck => rw [hfb] at po; exact po
    | bk e' => rw [hfb] at po; exact po.elim
    | ct e' => rw [hfb] at po; exact po.elim
    | nx e' =>
      rw [hfb] at po
      have po : PostF K vs tmp Q E (fin fx ds e' (.ok .non)) := po
      unfold fin at po
      cases hb : back fx 0 ds e' with
      | none => rw [hb] at po; exact po.elim
      | some ds' =>
        rw [hb] at po
        intro Z' H' σ' q fxh
        refine po Z' H' V.non ?_
        have q2 : SR K Z' H' σ' e' ([(V.non, D.non)] ++ (keepB fx 0 vs ds ++ tmp)) := q.add (Rp_non.mpr ⟨rfl, rfl⟩)
        exact fin_ok q2 fxh hb
    | rt d e' =>
      rw [hfb] at po
      have po : PostF K vs tmp Q E (fin fx ds e' (.ok d)) := po
      unfold fin at po
      cases hb : back fx 0 ds e' with
      | none => rw [hb] at po; exact po.elim
      | some ds' =>
        rw [hb] at po
        intro Z' H' σ' v q fxh
        refine po Z' H' v ?_
        have q2 : SR K Z' H' σ' e' ([(v, d)] ++ (keepB fx 0 vs ds ++ tmp)) := q
        exact fin_ok q2 fxh hb
    | exn xx e' =>
      rw [hfb] at po
      have po : PostF K vs tmp Q E (fin fx ds e' (.exn xx)) := po
      unfold fin at po
      cases hb : back fx 0 ds e' with
      | none => rw [hb] at po; exact po.elim
      | some ds' =>
        rw [hb] at po
        intro Z' H' σ' c o q fxh xr
        refine po Z' H' c o ?_ xr
        have q2 : SR K Z' H' σ' e' ([] ++ (keepB fx 0 vs ds ++ tmp)) := q
        exact fin_ok q2 fxh hb
end
end Tr

set_option maxHeartbeats 2000000
/-! The tree layer 4: expressions. -/
namespace Tr
open PySem PySem.Spec PyProof.Rows L2
section
variable {X : Cx} {W : XW} {a b c e : Expr} {es : List Expr} {pos : Pos}

/-! ### operands, names, constants -/
def xSlot (i : Nat) : DE → Res L := fun e => match e.getD i none with
  | some _ => .ok (.s i) e
  | none => .stuck
def xOf (f : DE → Res D) : DE → Res L := fun e => (f e).bind fun d e1 => .ok (.v d) e1
theorem vx_slot (i : Nat) {x : Str} (hN : X.N[i]? = some x := by rfl) (hv : Vis X.env.scope x := by first | exact Or.inl rfl | exact Or.inr (Or.inl rfl) | exact Or.inr (Or.inr rfl)) (hd : (x == ("__debug__" : Str)) = false := by decide)
    (hcd : (x == ("__classdict__" : Str)) = false := by decide) : VX X W (.Name x pos) (xSlot i) := by
  refine ⟨_, pe_var hN hv hd hcd, fun Z σ H e tmp Q sr po => ?_⟩
  unfold xSlot at po
  cases g : e.getD i none with
  | none => rw [g] at po; exact po.elim
  | some d =>
    rw [g] at po
    obtain ⟨v, fp, hs, r⟩ := sr.rd (getD_some g)
    exact ⟨v, hs, po Z H v sr hs⟩
theorem vx_of {f : DE → Res D} (h : VE X W e f) : VX X W e (xOf f) := by
  obtain ⟨t, p, s⟩ := h.ex
  refine ⟨t, p, fun Z σ H e' tmp Q sr po => s Z σ H e' tmp Q sr ?_⟩
  unfold xOf at po
  cases h1 : f e' with
  | stuck => rw [h1] at po; exact po
  | exn x e1 => rw [h1] at po; exact po
  | ok d e1 => rw [h1] at po; exact fun Z' H' v q => po Z' H' v q trivial
def eC (d : D) : DE → Res D := fun e => .ok d e
theorem snd_c {K : PySem.W.Frag} {v : V} {d : D} (h : ∀ Z H, Rp K Z H d v []) : SndE K W (tC v) (eC d) := fun Z σ H e tmp Q sr po => po Z H v (sr.add (h Z H))
theorem ve_int {i j} : VE X W (.Constant (.int i) j pos) (eC (.int i)) := ⟨_, pe_int, snd_c fun _ _ => Rp_int.mpr ⟨rfl, rfl⟩⟩
theorem ve_bl {i j} : VE X W (.Constant (.bool i) j pos) (eC (.bl i)) := ⟨_, pe_bl, snd_c fun _ _ => Rp_bl.mpr ⟨rfl, rfl⟩⟩
theorem ve_non {j} : VE X W (.Constant .none j pos) (eC .non) := ⟨_, pe_non, snd_c fun _ _ => Rp_non.mpr ⟨rfl, rfl⟩⟩
theorem ve_str {i j} : VE X W (.Constant (.str i) j pos) (eC (.str i)) := ⟨_, pe_str, snd_c fun _ _ => Rp_str.mpr ⟨rfl, rfl⟩⟩
theorem ve_globI {x : Str} {i : Int} {u : Value} (hg : Gl X x) (hm : X.mg x = some u) (r : RelV (.int i) u) (hd : (x == ("__debug__" : Str)) = false := by decide) : VE X W (.Name x pos) (eC (.int i)) := ⟨_, pe_glob hg hm r hd, snd_c fun _ _ => Rp_int.mpr ⟨rfl, rfl⟩⟩
theorem ve_globS {x : Str} {i : Str} {u : Value} (hg : Gl X x) (hm : X.mg x = some u) (r : RelV (.str i) u) (hd : (x == ("__debug__" : Str)) = false := by decide) : VE X W (.Name x pos) (eC (.str i)) := ⟨_, pe_glob hg hm r hd, snd_c fun _ _ => Rp_str.mpr ⟨rfl, rfl⟩⟩
theorem ve_globO {x : Str} {i : Addr} (hg : Gl X x) (hm : X.mg x = some (.ref i)) (hd : (x == ("__debug__" : Str)) = false := by decide) : VE X W (.Name x pos) (eC (.obj i)) := ⟨_, pe_glob (v := .ref i) hg hm rfl hd, snd_c fun _ _ => Rp_obj.mpr ⟨rfl, rfl⟩⟩
theorem ve_bltT {x : Str} {n : String} (hg : Gl X x) (hm : X.mg x = none) (hv : bootBuiltins x = some (.type n)) (hn : x ≠ "__name__" := by decide) (hd : (x == ("__debug__" : Str)) = false := by decide) : VE X W (.Name x pos) (eC (.ty n)) :=
  ⟨_, pe_bltn (v := .ty n) hg hm hv rfl hn hd, snd_c fun _ _ => Rp_ty.mpr ⟨rfl, rfl⟩⟩
/-- a name's value used: what it owned is frozen -/
def eUse (i : Nat) : DE → Res D := fun e => match e.getD i none with
  | some d => if d.flag = true then .ok d.frz (e.set i (some d.frz)) else .ok d e
  | none => .stuck
theorem ve_use (i : Nat) {x : Str} (hN : X.N[i]? = some x := by rfl) (hv : Vis X.env.scope x := by first | exact Or.inl rfl | exact Or.inr (Or.inl rfl) | exact Or.inr (Or.inr rfl)) (hd : (x == ("__debug__" : Str)) = false := by decide)
    (hcd : (x == ("__classdict__" : Str)) = false := by decide) : VE X W (.Name x pos) (eUse i) := by
  refine ⟨_, pe_var hN hv hd hcd, fun Z σ H e tmp Q sr po => ?_⟩
  unfold eUse at po
  cases g : e.getD i none with
  | none => rw [g] at po; exact po.elim
  | some d =>
    rw [g] at po
    have gi := getD_some g
    by_cases hf : d.flag = true
    · simp only [hf, if_true] at po
      obtain ⟨v, hs, h1⟩ := sr.out gi
      obtain ⟨Z', h2⟩ := h1.freeze
      have ff : d.frz.flag = false := by cases d <;> first | rfl | (rename_i o _; cases o <;> rfl) | (rename_i o _ _; cases o <;> rfl) | (rename_i o _ _ _; cases o <;> rfl)
      have h3 : SR X.K Z' H σ (e.set i none) ((v, d.frz) :: (v, d.frz) :: tmp) := .of h2.fit (Hold.dup h2.bag ff)
      have h4 := h3.back (i := i) (by rw [List.getElem?_set_self (List.getElem?_eq_some_iff.mp gi).1]) hs
      rw [List.set_set] at h4
      exact ⟨v, hs, po Z' H v h4⟩
    · simp only [hf, if_false] at po
      have hf : d.flag = false := by simpa using hf
      obtain ⟨v, fp, hs, r⟩ := sr.rd gi
      have e0 := r.noflag hf
      subst e0
      exact ⟨v, hs, po Z H v (sr.add r)⟩
/-- a name's value handed on, with what it owns; the slot is empty then -/
def eMove (i : Nat) : DE → Res D := fun e => match e.getD i none with
  | some d => .ok d (e.set i none)
  | none => .stuck
theorem ve_move (i : Nat) {x : Str} (hN : X.N[i]? = some x := by rfl) (hv : Vis X.env.scope x := by first | exact Or.inl rfl | exact Or.inr (Or.inl rfl) | exact Or.inr (Or.inr rfl)) (hd : (x == ("__debug__" : Str)) = false := by decide)
    (hcd : (x == ("__classdict__" : Str)) = false := by decide) : VE X W (.Name x pos) (eMove i) := by
  refine ⟨_, pe_var hN hv hd hcd, fun Z σ H e tmp Q sr po => ?_⟩
  unfold eMove at po
  cases g : e.getD i none with
  | none => rw [g] at po; exact po.elim
  | some d =>
    rw [g] at po
    obtain ⟨v, hs, h1⟩ := sr.out (getD_some g)
    exact ⟨v, hs, po Z H v h1⟩

/-! ### tests -/
def tOfE (f : DE → Res D) : DE → Res Bool := fun e => (f e).bind fun d e1 => match d with
  | .bl b => .ok b e1
  | _ => .stuck
theorem snd_test {K : PySem.W.Frag} {t : TE} {f : DE → Res D} (h : SndE K W t f) : SndT K W (tTest t) (tOfE f) := by
  intro Z σ H e tmp Q sr po
  refine h Z σ H e tmp _ sr ?_
  unfold tOfE at po
  cases h1 : f e with
  | stuck => rw [h1] at po; exact po
  | exn x e1 => rw [h1] at po; exact po
  | ok d e1 =>
    rw [h1] at po
    intro Z' H' v q
    cases d with
    | bl b =>
      obtain ⟨fp, r⟩ := q.bag.rep
      obtain ⟨rfl, _⟩ := Rp_bl.mp r
      exact ⟨b, rfl, po Z' H' q.tail⟩
    | _ => exact po.elim
theorem vt_val {f : DE → Res D} (h : VE X W e f) (he : ∀ whole, isTrue e X.env whole = (do let v ← whole; standAt e.pos; holding [v] (truthy v)) := by intro _; rfl) : VT X W e (tOfE f) := by
  obtain ⟨t, p, s⟩ := h.ex
  exact ⟨_, pt_val p he, snd_test s⟩
theorem vt_cmp {op : CmpOp} {r : R2} {g : D → D → Rs D} {fa fb : DE → Res L} (ho : OpR X (compareOp op) r) (hr : OpS X.K r g) (ha : VX X W a fa) (hb : VX X W b fb) (hm : behindInMarks op b = false) : VT X W (.Compare a [op] [b] pos) (tOfE (eOp2 g fa fb)) := by
  obtain ⟨ta, pa, sa⟩ := ha.ex
  obtain ⟨tb, pb, sb⟩ := hb.ex
  exact ⟨_, pt_cmpR ho pa pb hm, snd_test (snd_op2 sa sb hr)⟩
def tNotF (f : DE → Res Bool) : DE → Res Bool := fun e => (f e).bind fun b e1 => .ok (!b) e1
theorem vt_not {f : DE → Res Bool} (h : VT X W a f) : VT X W (.UnaryOp .Not a pos) (tNotF f) := by
  obtain ⟨t, p, s⟩ := h.ex
  refine ⟨_, pt_not p, fun Z σ H e tmp Q sr po => s Z σ H e tmp _ sr ?_⟩
  unfold tNotF at po
  cases h1 : f e with
  | stuck => rw [h1] at po; exact po
  | exn x e1 => rw [h1] at po; exact po
  | ok d e1 => rw [h1] at po; exact po
theorem vw_and1 {f : DE → Res Bool} (h : VT X W a f) : VW X W (.BoolOp .And [a] pos) f := by
  obtain ⟨t, p, s⟩ := h.ex
  exact ⟨_, pw_and1 p, s⟩
theorem vw_or1 {f : DE → Res Bool} (h : VT X W a f) : VW X W (.BoolOp .Or [a] pos) f := by
  obtain ⟨t, p, s⟩ := h.ex
  exact ⟨_, pw_or1 p, s⟩
def tAndF (f g : DE → Res Bool) : DE → Res Bool := fun e => (f e).bind fun b e1 => if b = true then g e1 else .ok false e1
def tOrF (f g : DE → Res Bool) : DE → Res Bool := fun e => (f e).bind fun b e1 => if b = true then .ok true e1 else g e1
theorem vw_and {rest : List Expr} {f g : DE → Res Bool} (h : VT X W a f) (h2 : VW X W (.BoolOp .And (b :: rest) pos) g) : VW X W (.BoolOp .And (a :: b :: rest) pos) (tAndF f g) := by
  obtain ⟨t, p, s⟩ := h.ex
  obtain ⟨t2, p2, s2⟩ := h2.ex
  refine ⟨_, pw_and p p2, fun Z σ H e tmp Q sr po => s Z σ H e tmp _ sr ?_⟩
  unfold tAndF at po
  cases h1 : f e with
  | stuck => rw [h1] at po; exact po
  | exn x e1 => rw [h1] at po; exact po
  | ok d e1 =>
    rw [h1] at po
    intro Z' H' q
    cases d with
    | true => rw [if_pos rfl]; exact s2 Z' σ H' e1 tmp Q q po
    | false => rw [if_neg Bool.false_ne_true]; exact po Z' H' q
theorem vw_or {rest : List Expr} {f g : DE → Res Bool} (h : VT X W a f) (h2 : VW X W (.BoolOp .Or (b :: rest) pos) g) : VW X W (.BoolOp .Or (a :: b :: rest) pos) (tOrF f g) := by
  obtain ⟨t, p, s⟩ := h.ex
  obtain ⟨t2, p2, s2⟩ := h2.ex
  refine ⟨_, pw_or p p2, fun Z σ H e tmp Q sr po => s Z σ H e tmp _ sr ?_⟩
  unfold tOrF at po
  cases h1 : f e with
  | stuck => rw [h1] at po; exact po
  | exn x e1 => rw [h1] at po; exact po
  | ok d e1 =>
    rw [h1] at po
    intro Z' H' q
    cases d with
    | true => rw [if_pos rfl]; exact po Z' H' q
    | false => rw [if_neg Bool.false_ne_true]; exact s2 Z' σ H' e1 tmp Q q po
theorem vt_w {f : DE → Res Bool} (h : VW X W e f) : VT X W e f := by
  obtain ⟨t, p, s⟩ := h.ex
  exact ⟨_, p.pt, s⟩
/-- a op b op' c -/
def eChain (g g' : D → D → Rs D) (fa fb fc : DE → Res L) : DE → Res D := fun e => (fa e).bind fun la e1 => (fb e1).bind fun lb e2 => match lget la e2, lget lb e2 with
  | some da, some db => ((g da db).at e2).bind fun d e3 => match d with
    | .bl true => (fc e3).bind fun lc e4 => match lget lb e4, lget lc e4 with
      | some db, some dc => (g' db dc).at e4
      | _, _ => .stuck
    | .bl false => .ok (.bl false) e3
    | _ => .stuck
  | _, _ => .stuck
theorem snd_chain {K : PySem.W.Frag} {fa fb fc : DE → Res L} {ta tb tc : TE} {r r' : R2} {g g' : D → D → Rs D} (ha : SndX K W ta fa) (hb : SndX K W tb fb) (hc : SndX K W tc fc) (hr : OpS K r g) (hr' : OpS K r' g') : SndE K W (tChain r r' ta tb tc) (eChain g g' fa fb fc) := by
  intro Z σ H e tmp Q sr po
  refine ha Z σ H e tmp _ sr ?_
  unfold eChain at po
  cases h1 : fa e with
  | stuck => rw [h1] at po; exact po
  | exn x e1 => rw [h1] at po; exact po
  | ok la e1 =>
    rw [h1, Res.bind_ok] at po
    intro Z1 H1 v1 sr1 k1
    refine hb Z1 σ H1 e1 (lbag la v1 ++ tmp) _ sr1 ?_
    cases h2 : fb e1 with
    | stuck => rw [h2] at po; exact po
    | exn x e2 => rw [h2] at po; exact fun Z' H' c o q xr => po Z' H' c o q.drop xr
    | ok lb e2 =>
      rw [h2, Res.bind_ok] at po
      intro Z2 H2 v2 sr2 k2
      cases ga : lget la e2 with
      | none => simp only [ga] at po; exact po.elim
      | some da =>
        cases gb : lget lb e2 with
        | none => simp only [ga, gb] at po; exact po.elim
        | some db =>
          simp only [ga, gb] at po
          obtain ⟨f2, r2⟩ := lread sr2 k2 gb
          have sr3 : SR K Z2 H2 σ e2 (lbag la v1 ++ (lbag lb v2 ++ tmp)) := sr2.perm (by
            rw [← List.append_assoc, ← List.append_assoc]
            exact List.Perm.append_right _ List.perm_append_comm)
          obtain ⟨f1, r1⟩ := lread sr3 k1 ga
          refine hr Z2 H2 ((lbag la v1) ++ (lbag lb v2 ++ tmp) ++ slots σ e2) _ (W σ) da v1 f1 db v2 f2 sr3.bag r1 r2 ?_
          cases hg : g da db with
          | stuck => rw [hg] at po; exact po
          | exn x =>
            rw [hg] at po
            exact fun Z' H' c o q xr => po Z' H' c o (SR.of sr2.fit (Hold.drop (L1 := lbag la v1 ++ lbag lb v2) (by simpa [List.append_assoc] using q))) xr
          | ok d =>
            rw [hg, Rs.at_ok, Res.bind_ok] at po
            intro Z' H' v q
            cases d with
            | bl k =>
              obtain ⟨fp, rb⟩ := q.rep
              obtain ⟨rfl, _⟩ := Rp_bl.mp rb
              refine ⟨k, rfl, ?_⟩
              have sr4 : SR K Z' H' σ e2 (lbag lb v2 ++ tmp) := .of sr2.fit (Hold.drop (L1 := lbag la v1) (by simpa [List.append_assoc] using q.tail))
              cases k with
              | false =>
                rw [if_neg Bool.false_ne_true]
                exact po Z' H' _ (sr4.drop.add (Rp_bl.mpr ⟨rfl, rfl⟩))
              | true =>
                rw [if_pos rfl]
                have po : PostE K W σ tmp Q ((fc e2).bind fun lc e4 => match lget lb e4, lget lc e4 with
                  | some db, some dc => (g' db dc).at e4
                  | _, _ => .stuck) := po
                refine hc Z' σ H' e2 (lbag lb v2 ++ tmp) _ sr4 ?_
                cases h4 : fc e2 with
                | stuck => rw [h4] at po; exact po
                | exn x e4 => rw [h4] at po; exact fun Z' H' c o q xr => po Z' H' c o q.drop xr
                | ok lc e4 =>
                  rw [h4, Res.bind_ok] at po
                  intro Z5 H5 v5 sr5 k5
                  cases gb5 : lget lb e4 with
                  | none => simp only [gb5] at po; exact po.elim
                  | some db5 =>
                    cases gc : lget lc e4 with
                    | none => simp only [gb5, gc] at po; exact po.elim
                    | some dc =>
                      simp only [gb5, gc] at po
                      obtain ⟨f5, r5⟩ := lread sr5 k5 gc
                      have sr6 : SR K Z5 H5 σ e4 (lbag lb v2 ++ (lbag lc v5 ++ tmp)) := sr5.perm (by
                        rw [← List.append_assoc, ← List.append_assoc]
                        exact List.Perm.append_right _ List.perm_append_comm)
                      obtain ⟨f6, r6⟩ := lread sr6 k2 gb5
                      refine hr' Z5 H5 ((lbag lb v2 ++ lbag lc v5) ++ tmp ++ slots σ e4) Q (W σ) db5 v2 f6 dc v5 f5 ?_ r6 r5 (PostV.to sr5.fit po)
                      have q := sr6.bag
                      rw [← List.append_assoc] at q
                      exact q
            | _ => exact po.elim
theorem ve_chain {op op' : CmpOp} {r r' : R2} {g g' : D → D → Rs D} {fa fb fc : DE → Res L} (ho : OpR X (compareOp op) r) (ho' : OpR X (compareOp op') r') (hr : OpS X.K r g) (hr' : OpS X.K r' g') (ha : VX X W a fa) (hb : VX X W b fb) (hc : VX X W c fc)
    (hm : lastMarks [op, op'] [b, c] = false := by with_unfolding_all rfl) : VE X W (.Compare a [op, op'] [b, c] pos) (eChain g g' fa fb fc) := by
  obtain ⟨ta, pa, sa⟩ := ha.ex
  obtain ⟨tb, pb, sb⟩ := hb.ex
  obtain ⟨tc, pc, sc⟩ := hc.ex
  exact ⟨_, pe_chain ho ho' pa pb pc hm, snd_chain sa sb sc hr hr'⟩
theorem vt_chain {op op' : CmpOp} {r r' : R2} {g g' : D → D → Rs D} {fa fb fc : DE → Res L} (ho : OpR X (compareOp op) r) (ho' : OpR X (compareOp op') r') (hr : OpS X.K r g) (hr' : OpS X.K r' g') (ha : VX X W a fa) (hb : VX X W b fb) (hc : VX X W c fc)
    (hm : lastMarks [op, op'] [b, c] = false := by with_unfolding_all rfl) : VT X W (.Compare a [op, op'] [b, c] pos) (tOfE (eChain g g' fa fb fc)) := by
  obtain ⟨ta, pa, sa⟩ := ha.ex
  obtain ⟨tb, pb, sb⟩ := hb.ex
  obtain ⟨tc, pc, sc⟩ := hc.ex
  exact ⟨_, pt_chain ho ho' pa pb pc hm, snd_test (snd_chain sa sb sc hr hr')⟩

/-! ### and, or, not, if as values -/
theorem ve_one {op} {f : DE → Res D} (h : VE X W a f) : VE X W (.BoolOp op [a] pos) f := by
  obtain ⟨t, p, s⟩ := h.ex
  exact ⟨_, pe_one p, s⟩
def eAnd (f g : DE → Res D) : DE → Res D := fun e => (f e).bind fun d e1 => match d with
  | .bl b => if b = true then g e1 else .ok (.bl false) e1
  | _ => .stuck
def eOr (f g : DE → Res D) : DE → Res D := fun e => (f e).bind fun d e1 => match d with
  | .bl b => if b = true then .ok (.bl true) e1 else g e1
  | _ => .stuck
def eNot (f : DE → Res D) : DE → Res D := fun e => (f e).bind fun d e1 => match d with
  | .bl b => .ok (.bl (!b)) e1
  | _ => .stuck
theorem ve_and {rest : List Expr} {f g : DE → Res D} (h : VE X W a f) (h2 : VE X W (.BoolOp .And (b :: rest) pos) g) : VE X W (.BoolOp .And (a :: b :: rest) pos) (eAnd f g) := by
  obtain ⟨t, p, s⟩ := h.ex
  obtain ⟨t2, p2, s2⟩ := h2.ex
  refine ⟨_, pe_and p p2, fun Z σ H e tmp Q sr po => s Z σ H e tmp _ sr ?_⟩
  unfold eAnd at po
  cases h1 : f e with
  | stuck => rw [h1] at po; exact po
  | exn x e1 => rw [h1] at po; exact po
  | ok d e1 =>
    rw [h1] at po
    intro Z' H' v q
    cases d with
    | bl k =>
      obtain ⟨fp, r⟩ := q.bag.rep
      obtain ⟨rfl, _⟩ := Rp_bl.mp r
      refine ⟨k, rfl, ?_⟩
      cases k with
      | true => rw [if_pos rfl]; exact s2 Z' σ H' e1 tmp Q q.tail po
      | false => rw [if_neg Bool.false_ne_true]; exact po Z' H' _ q
    | _ => exact po.elim
theorem ve_or {rest : List Expr} {f g : DE → Res D} (h : VE X W a f) (h2 : VE X W (.BoolOp .Or (b :: rest) pos) g) : VE X W (.BoolOp .Or (a :: b :: rest) pos) (eOr f g) := by
  obtain ⟨t, p, s⟩ := h.ex
  obtain ⟨t2, p2, s2⟩ := h2.ex
  refine ⟨_, pe_or p p2, fun Z σ H e tmp Q sr po => s Z σ H e tmp _ sr ?_⟩
  unfold eOr at po
  cases h1 : f e with
  | stuck => rw [h1] at po; exact po
  | exn x e1 => rw [h1] at po; exact po
  | ok d e1 =>
    rw [h1] at po
    intro Z' H' v q
    cases d with
    | bl k =>
      obtain ⟨fp, r⟩ := q.bag.rep
      obtain ⟨rfl, _⟩ := Rp_bl.mp r
      refine ⟨k, rfl, ?_⟩
      cases k with
      | true => rw [if_pos rfl]; exact po Z' H' _ q
      | false => rw [if_neg Bool.false_ne_true]; exact s2 Z' σ H' e1 tmp Q q.tail po
    | _ => exact po.elim
theorem ve_not {f : DE → Res D} (h : VE X W a f) : VE X W (.UnaryOp .Not a pos) (eNot f) := by
  obtain ⟨t, p, s⟩ := h.ex
  refine ⟨_, pe_not p, fun Z σ H e tmp Q sr po => s Z σ H e tmp _ sr ?_⟩
  unfold eNot at po
  cases h1 : f e with
  | stuck => rw [h1] at po; exact po
  | exn x e1 => rw [h1] at po; exact po
  | ok d e1 =>
    rw [h1] at po
    intro Z' H' v q
    cases d with
    | bl k =>
      obtain ⟨fp, r⟩ := q.bag.rep
      obtain ⟨rfl, _⟩ := Rp_bl.mp r
      exact ⟨k, rfl, po Z' H' _ (q.tail.add (Rp_bl.mpr ⟨rfl, rfl⟩))⟩
    | _ => exact po.elim
def eIf (t : DE → Res Bool) (f g : DE → Res D) : DE → Res D := fun e => (t e).bind fun b e1 => if b = true then f e1 else g e1
theorem ve_if {t : DE → Res Bool} {f g : DE → Res D} (hc : VT X W c t) (ha : VE X W a f) (hb : VE X W b g) : VE X W (.IfExp c a b pos) (eIf t f g) := by
  obtain ⟨t0, p0, s0⟩ := hc.ex
  obtain ⟨t1, p1, s1⟩ := ha.ex
  obtain ⟨t2, p2, s2⟩ := hb.ex
  refine ⟨_, pe_ifExp p0 p1 p2, fun Z σ H e tmp Q sr po => s0 Z σ H e tmp _ sr ?_⟩
  unfold eIf at po
  cases h1 : t e with
  | stuck => rw [h1] at po; exact po
  | exn x e1 => rw [h1] at po; exact po
  | ok d e1 =>
    rw [h1] at po
    intro Z' H' q
    cases d with
    | true => rw [if_pos rfl]; exact s1 Z' σ H' e1 tmp Q q po
    | false => rw [if_neg Bool.false_ne_true]; exact s2 Z' σ H' e1 tmp Q q po
def eUn (g : D → Rs D) (fa : DE → Res L) : DE → Res D := fun e => (fa e).bind fun la e1 => match lget la e1 with
  | some da => (g da).at e1
  | none => .stuck
theorem snd_un {K : PySem.W.Frag} {ta : TE} {fa : DE → Res L} {r : V → Hp → VK → Prop} {g : D → Rs D} (ha : SndX K W ta fa) (hr : UnS K r g) : SndE K W (tUn r ta) (eUn g fa) := by
  intro Z σ H e tmp Q sr po
  refine ha Z σ H e tmp _ sr ?_
  unfold eUn at po
  cases h1 : fa e with
  | stuck => rw [h1] at po; exact po
  | exn x e1 => rw [h1] at po; exact po
  | ok la e1 =>
    rw [h1, Res.bind_ok] at po
    intro Z1 H1 v1 sr1 k1
    cases ga : lget la e1 with
    | none => simp only [ga] at po; exact po.elim
    | some da =>
      simp only [ga] at po
      obtain ⟨f1, r1⟩ := lread sr1 k1 ga
      exact hr Z1 H1 (lbag la v1 ++ tmp ++ slots σ e1) Q (W σ) da v1 f1 sr1.bag r1 (PostV.to sr1.fit po)
theorem ve_un {op : UnaryOp} {fa : DE → Res L} {r : V → Hp → VK → Prop} {g : D → Rs D} (ho : UnR X (unaryOp op) r) (hr : UnS X.K r g) (ha : VX X W a fa) : VE X W (.UnaryOp op a pos) (eUn g fa) := by
  obtain ⟨ta, pa, sa⟩ := ha.ex
  exact ⟨_, pe_un ho pa, snd_un sa hr⟩

/-! ### arguments, displays, calls of what is built in -/
def aNil : DE → Res (List L) := fun e => .ok [] e
def aCons (f : DE → Res L) (g : DE → Res (List L)) : DE → Res (List L) := fun e => (f e).bind fun l e1 => (g e1).bind fun ls e2 => .ok (l :: ls) e2
theorem va_nil : VA X W [] aNil := ⟨⟨_, pa_nil, fun Z σ H e tmp Q sr po => po Z H [] sr trivial⟩, fun e ls e1 h => by cases h; rfl⟩
theorem va_cons {f : DE → Res L} {g : DE → Res (List L)} (ha : VX X W e f) (hr : VA X W es g) (hs : starEach (e :: es) X.env = (false, eval e X.env) :: starEach es X.env := by rfl) : VA X W (e :: es) (aCons f g) := by
  obtain ⟨t, p, s⟩ := ha.ex
  obtain ⟨t2, p2, s2⟩ := hr.ex
  refine ⟨⟨_, pa_cons p p2 hs, fun Z σ H e tmp Q sr po => s Z σ H e tmp _ sr ?_⟩, fun e' ls e1 h => ?_⟩
  rotate_left
  · unfold aCons at h
    cases h1 : f e' with
    | stuck => rw [h1] at h; cases h
    | exn x e2 => rw [h1] at h; cases h
    | ok l e2 =>
      rw [h1, Res.bind_ok] at h
      cases h2 : g e2 with
      | stuck => rw [h2] at h; cases h
      | exn x e3 => rw [h2] at h; cases h
      | ok ls' e3 =>
        rw [h2, Res.bind_ok] at h
        cases h
        simp [hr.len _ _ _ h2]
  unfold aCons at po
  cases h1 : f e with
  | stuck => rw [h1] at po; exact po
  | exn x e1 => rw [h1] at po; exact po
  | ok l e1 =>
    rw [h1, Res.bind_ok] at po
    intro Z1 H1 v1 sr1 k1
    refine s2 Z1 σ H1 e1 (lbag l v1 ++ tmp) _ sr1 ?_
    cases h2 : g e1 with
    | stuck => rw [h2] at po; exact po
    | exn x e2 => rw [h2] at po; exact fun Z' H' c o q xr => po Z' H' c o q.drop xr
    | ok ls e2 =>
      rw [h2, Res.bind_ok] at po
      intro Z2 H2 vs sr2 k2
      refine po Z2 H2 (v1 :: vs) (sr2.perm ?_) ⟨k1, k2⟩
      show (lbags ls vs ++ (lbag l v1 ++ tmp)).Perm ((lbag l v1 ++ lbags ls vs) ++ tmp)
      rw [List.append_assoc]
      exact List.perm_append_comm_assoc _ _ _
/-- the operands' trees, all at hand -/
def vals : List L → Option (List D)
  | [] => some []
  | .v d :: ls => (vals ls).map (d :: ·)
  | .s _ :: _ => none
def lgets : List L → DE → Option (List D)
  | [], _ => some []
  | l :: ls, e => match lget l e with
    | some d => (lgets ls e).map (d :: ·)
    | none => none
theorem vals_ok {K : PySem.W.Frag} {Z : AS} {H : Hp} {σ : Sg} : ∀ {ls : List L} {vs : List V} {ds : List D}, vals ls = some ds → loks σ ls vs → lbags ls vs = vs.zip ds ∧ vs.length = ds.length
  | [], [], ds, h, _ => by simp only [vals, Option.some.injEq] at h; subst h; exact ⟨rfl, rfl⟩
  | [], _ :: _, _, _, k => k.elim
  | .v d :: ls, [], _, _, k => k.elim
  | .s i :: ls, _, _, h, _ => by simp [vals] at h
  | .v d :: ls, v :: vs, ds, h, k => by
    simp only [vals, Option.map_eq_some_iff] at h
    obtain ⟨ds1, h1, rfl⟩ := h
    obtain ⟨q1, q2⟩ := vals_ok (K := K) (Z := Z) (H := H) (σ := σ) h1 k.2
    exact ⟨by show (v, d) :: lbags ls vs = (v, d) :: vs.zip ds1; rw [q1], by simp [q2]⟩
theorem lgets_ok {K : PySem.W.Frag} {Z : AS} {H : Hp} {σ : Sg} {e : DE} : ∀ {ls : List L} {vs : List V} {ds : List D} {tmp : Bag}, SR K Z H σ e (lbags ls vs ++ tmp) → loks σ ls vs → lgets ls e = some ds → RpF K Z H ds vs
  | [], [], ds, tmp, _, _, h => by simp only [lgets, Option.some.injEq] at h; subst h; exact .nil
  | [], _ :: _, _, _, _, k, _ => k.elim
  | _ :: _, [], _, _, _, k, _ => k.elim
  | l :: ls, v :: vs, ds, tmp, sr, k, h => by
    unfold lgets at h
    cases g : lget l e with
    | none => rw [g] at h; cases h
    | some d =>
      rw [g] at h
      simp only [Option.map_eq_some_iff] at h
      obtain ⟨ds1, h1, rfl⟩ := h
      have sr1 : SR K Z H σ e (lbag l v ++ (lbags ls vs ++ tmp)) := by rw [← List.append_assoc]; exact sr
      obtain ⟨fp, r⟩ := lread sr1 k.1 g
      have sr2 : SR K Z H σ e (lbags ls vs ++ (lbag l v ++ tmp)) := sr1.perm (List.perm_append_comm_assoc _ _ _)
      exact .cons r (lgets_ok sr2 k.2 h1)
def eTup (fa : DE → Res (List L)) : DE → Res D := fun e => (fa e).bind fun ls e1 => match vals ls with
  | some ds => if ds.length ≤ sizeLine then .ok (.tup (frzL ds)) e1 else .stuck
  | none => .stuck
def eLst (fa : DE → Res (List L)) : DE → Res D := fun e => (fa e).bind fun ls e1 => match vals ls with
  | some ds => if ds.length ≤ sizeLine then .ok (.lst true ds) e1 else .stuck
  | none => .stuck
theorem frzL_length : ∀ ds : List D, (frzL ds).length = ds.length
  | [] => rfl
  | d :: ds => by show (d.frz :: frzL ds).length = _; simp [frzL_length ds]
theorem frz_flag (d : D) : d.frz.flag = false := by cases d <;> first | rfl | (rename_i o _; cases o <;> rfl) | (rename_i o _ _; cases o <;> rfl) | (rename_i o _ _ _; cases o <;> rfl)
theorem frzL_flag : ∀ {ds : List D} {d : D}, d ∈ frzL ds → d.flag = false
  | [], d, h => by cases h
  | x :: ds, d, h => by
    have h : d ∈ x.frz :: frzL ds := h
    rcases List.mem_cons.mp h with rfl | h
    · exact frz_flag x
    · exact frzL_flag h
theorem Hold.freezes {K : PySem.W.Frag} {Z : AS} {H : Hp} : ∀ {vs : List V} {ds : List D} {B : Bag}, Hold K [] Z H (vs.zip ds ++ B) → ∃ Z', (∀ a, Z a → Z' a) ∧ Hold K [] Z' H (vs.zip (frzL ds) ++ B)
  | [], ds, B, h => ⟨Z, fun _ z => z, by cases ds <;> exact h⟩
  | _ :: _, [], B, h => ⟨Z, fun _ z => z, h⟩
  | v :: vs, d :: ds, B, h => by
    obtain ⟨Z1, z1, h1⟩ := Hold.freeze (v := v) (d := d) h
    obtain ⟨Z2, z2, h2⟩ := Hold.freezes (B := (v, d.frz) :: B) (h1.perm (List.perm_middle (a := (v, d.frz))).symm)
    exact ⟨Z2, fun a z => z2 a (z1 a z), h2.perm List.perm_middle⟩
theorem ve_tup {x1 : Nat} {fa : DE → Res (List L)} (ha : VA X W es fa) : VE X W (.Tuple es x1 pos) (eTup fa) := by
  obtain ⟨t, p, s⟩ := ha.ex
  refine ⟨_, pe_tup p, fun Z σ H e tmp Q sr po => s Z σ H e tmp _ sr ?_⟩
  unfold eTup at po
  cases h1 : fa e with
  | stuck => rw [h1] at po; exact po
  | exn x e1 => rw [h1] at po; exact po
  | ok ls e1 =>
    rw [h1, Res.bind_ok] at po
    intro Z1 H1 vs sr1 k1
    cases hv : vals ls with
    | none => simp only [hv] at po; exact po.elim
    | some ds =>
      simp only [hv] at po
      obtain ⟨q1, q2⟩ := vals_ok (K := X.K) (Z := Z1) (H := H1) hv k1
      by_cases hz : ds.length ≤ sizeLine
      · rw [if_pos hz] at po
        refine ⟨by rw [q2]; exact hz, fun p hp => ?_⟩
        rw [q1] at sr1
        have b := sr1.bag
        rw [List.append_assoc] at b
        obtain ⟨Z2, _, b2⟩ := Hold.freezes b
        exact po Z2 _ _ (.of sr1.fit (Hold.mkTup b2 hp (by rw [frzL_length, q2]) fun d hd => frzL_flag hd))
      · rw [if_neg hz] at po; exact po.elim
theorem ve_lst {fa : DE → Res (List L)} (ha : VA X W es fa) : VE X W (.List es pos) (eLst fa) := by
  obtain ⟨t, p, s⟩ := ha.ex
  refine ⟨_, pe_lst p, fun Z σ H e tmp Q sr po => s Z σ H e tmp _ sr ?_⟩
  unfold eLst at po
  cases h1 : fa e with
  | stuck => rw [h1] at po; exact po
  | exn x e1 => rw [h1] at po; exact po
  | ok ls e1 =>
    rw [h1, Res.bind_ok] at po
    intro Z1 H1 vs sr1 k1
    cases hv : vals ls with
    | none => simp only [hv] at po; exact po.elim
    | some ds =>
      simp only [hv] at po
      obtain ⟨q1, q2⟩ := vals_ok (K := X.K) (Z := Z1) (H := H1) hv k1
      by_cases hz : ds.length ≤ sizeLine
      · rw [if_pos hz] at po
        refine ⟨by rw [q2]; exact hz, fun p hp => ?_⟩
        rw [q1] at sr1
        have b := sr1.bag
        rw [List.append_assoc] at b
        exact po Z1 _ _ (.of sr1.fit (Hold.layL (b.new hp) q2 (by simp)))
      · rw [if_neg hz] at po; exact po.elim
/-- a built-in called: its operands' trees are read, nothing is changed -/
def eBlt (g : List D → Rs D) (fa : DE → Res (List L)) : DE → Res D := fun e => (fa e).bind fun ls e1 => match lgets ls e1 with
  | some ds => (g ds).at e1
  | none => .stuck
theorem snd_blt {K : PySem.W.Frag} {t : TA} {fa : DE → Res (List L)} {r : List V → Hp → VK → Prop} {g : List D → Rs D} (ha : SndA K W t fa) (hr : CallS K r g) : SndE K W (tCB r t) (eBlt g fa) := by
  intro Z σ H e tmp Q sr po
  refine ha Z σ H e tmp _ sr ?_
  unfold eBlt at po
  cases h1 : fa e with
  | stuck => rw [h1] at po; exact po
  | exn x e1 => rw [h1] at po; exact po
  | ok ls e1 =>
    rw [h1, Res.bind_ok] at po
    intro Z1 H1 vs sr1 k1
    cases hv : lgets ls e1 with
    | none => simp only [hv] at po; exact po.elim
    | some ds =>
      simp only [hv] at po
      exact hr Z1 H1 (lbags ls vs ++ tmp ++ slots σ e1) Q (W σ) ds vs sr1.bag (lgets_ok sr1 k1 hv) (PostV.to sr1.fit po)
theorem ve_callB {id : String} {x : Str} {p : Pos} {fa : DE → Res (List L)} {r : List V → Hp → VK → Prop} {g : List D → Rs D} (hc : CallR X (.builtin id) r) (hr : CallS X.K r g) (hg : Gl X x) (hm : X.mg x = none) (hv : bootBuiltins x = some (.builtin id)) (ha : VA X W (e :: es) fa) (hn : x ≠ "__name__" := by decide) (hdb : (x == ("__debug__" : Str)) = false := by decide)
    (he : starEach (e :: es) X.env = (false, eval e X.env) :: starEach es X.env := by rfl) (hpl : (backTo pos (starEach es X.env)).any (·.1) = false := by rfl) : VE X W (.Call (.Name x p) (e :: es) [] pos) (eBlt g fa) := by
  obtain ⟨t, p, s⟩ := ha.ex
  exact ⟨_, pe_callB hc hg hm hv p hn hdb he hpl, snd_blt s hr⟩
theorem ve_callTy {T : String} {x : Str} {p : Pos} {fa : DE → Res (List L)} {r : List V → Hp → VK → Prop} {g : List D → Rs D} (hc : CallR X (.type T) r) (hr : CallS X.K r g) (hg : Gl X x) (hm : X.mg x = none) (hv : bootBuiltins x = some (.type T)) (ha : VA X W (e :: es) fa) (hn : x ≠ "__name__" := by decide) (hdb : (x == ("__debug__" : Str)) = false := by decide)
    (he : starEach (e :: es) X.env = (false, eval e X.env) :: starEach es X.env := by rfl) (hpl : (backTo pos (starEach es X.env)).any (·.1) = false := by rfl) : VE X W (.Call (.Name x p) (e :: es) [] pos) (eBlt g fa) := by
  obtain ⟨t, p, s⟩ := ha.ex
  exact ⟨_, pe_callTy hc hg hm hv p hn hdb he hpl, snd_blt s hr⟩
theorem ve_ix {r : R2} {g : D → D → Rs D} {fa fb : DE → Res L} (hi : IxR X r) (hr : OpS X.K r g) (ha : VX X W a fa) (hb : VX X W b fb) (hs : PlainIx b := by exact fun _ _ => rfl) : VE X W (.Subscript a b pos) (eOp2 g fa fb) := by
  obtain ⟨ta, pa, sa⟩ := ha.ex
  obtain ⟨tb, pb, sb⟩ := hb.ex
  exact ⟨_, pe_ix hi pa pb hs, snd_op2 sa sb hr⟩
end
end Tr

set_option maxHeartbeats 2000000
/-! The tree layer 5: statements, loops, comprehensions. -/
namespace Tr
open PySem PySem.Spec PyProof.Rows L2

/-! ### canonical readings -/
def tF (K : PySem.W.Frag) (W : XW) (f : DE → Res D) : TE := fun σ H Q => ∃ Z e tmp, SR K Z H σ e tmp ∧ PostE K W σ tmp Q (f e)
def tFT (K : PySem.W.Frag) (W : XW) (f : DE → Res Bool) : TT := fun σ H Q => ∃ Z e tmp, SR K Z H σ e tmp ∧ PostT K W σ tmp Q (f e)
theorem VE.pe {X : Cx} {W : XW} {e : Expr} {f : DE → Res D} (h : VE X W e f) : PE X e (tF X.K W f) := by
  obtain ⟨t, p, s⟩ := h.ex
  exact ⟨fun pins s0 σ H Q I ⟨Z, e', tmp, sr, po⟩ => p.run pins s0 σ H Q I (s Z σ H e' tmp Q sr po)⟩
theorem VT.pt {X : Cx} {W : XW} {e : Expr} {f : DE → Res Bool} (h : VT X W e f) : PT X e (tFT X.K W f) := by
  obtain ⟨t, p, s⟩ := h.ex
  exact ⟨fun pins s0 σ H Q I ⟨Z, e', tmp, sr, po⟩ => p.run pins s0 σ H Q I (s Z σ H e' tmp Q sr po)⟩

section
variable {X : Cx} {W : XW} {fx : List Nat} {a b c e : Expr} {es : List Expr} {pos : Pos} {st : Stmt} {rest : List Stmt}
theorem Fx.set {σ : Sg} {i : Nat} {v : Option V} (h : fx.contains i = false) : Fx fx σ (σ.set i v) := fun j hj => by
  have : i ≠ j := by
    rintro rfl
    have : fx.contains i = true := by simpa using hj
    rw [h] at this; cases this
  rw [List.getElem?_set_ne this]
theorem PostS.mono {K : PySem.W.Frag} {σ σ' : Sg} {tmp : Bag} {D : Ends} (k : Fx fx σ σ') : ∀ {r : SRes}, PostS K W fx σ tmp D r → PostS K W fx σ' tmp D r
  | .nx _, h => fun Z H σ2 q f => h Z H σ2 q (k.trans f)
  | .rt _ _, h => fun Z H σ2 v q f => h Z H σ2 v q (k.trans f)
  | .bk _, h => fun Z H σ2 q f => h Z H σ2 q (k.trans f)
  | .ct _, h => fun Z H σ2 q f => h Z H σ2 q (k.trans f)
  | .exn _ _, h => fun Z H σ2 c o q f x => h Z H σ2 c o q (k.trans f) x
  | .stuck, h => h

theorem Hold.mid {K : PySem.W.Frag} {ex : List Addr} {Z : AS} {H : Hp} {x : V × D} {L1 L : Bag} (h : Hold K ex Z H (x :: (L1 ++ L))) : Hold K ex Z H (x :: L) := (h.perm (List.perm_middle (a := x)).symm).drop
/-! ### blocks, small statements -/
def sNil : DE → SRes := fun e => .nx e
def SRes.seq (r : SRes) (k : DE → SRes) : SRes := match r with
  | .nx e => k e
  | r => r
@[simp] theorem SRes.seq_nx (e : DE) (k : DE → SRes) : (SRes.nx e).seq k = k e := (rfl)
@[simp] theorem SRes.seq_rt (d : D) (e : DE) (k : DE → SRes) : (SRes.rt d e).seq k = .rt d e := (rfl)
@[simp] theorem SRes.seq_bk (e : DE) (k : DE → SRes) : (SRes.bk e).seq k = .bk e := (rfl)
@[simp] theorem SRes.seq_ct (e : DE) (k : DE → SRes) : (SRes.ct e).seq k = .ct e := (rfl)
@[simp] theorem SRes.seq_exn (x : Exn) (e : DE) (k : DE → SRes) : (SRes.exn x e).seq k = .exn x e := (rfl)
@[simp] theorem SRes.seq_stuck (k : DE → SRes) : SRes.stuck.seq k = .stuck := (rfl)
def sCons (f g : DE → SRes) : DE → SRes := fun e => (f e).seq g
theorem vss_nil : VSs X W fx [] sNil := ⟨_, pss_nil, fun Z σ H e tmp D sr po => po Z H σ sr .refl⟩
theorem vss_one {f : DE → SRes} (h : VS X W fx st f) : VSs X W fx [st] f := by
  obtain ⟨t, p, s⟩ := h.ex
  exact ⟨_, pss_one p, s⟩
theorem vss_cons {f g : DE → SRes} (h : VS X W fx st f) (h2 : VSs X W fx rest g) : VSs X W fx (st :: rest) (sCons f g) := by
  obtain ⟨t, p, s⟩ := h.ex
  obtain ⟨t2, p2, s2⟩ := h2.ex
  refine ⟨_, pss_cons p p2, fun Z σ H e tmp D sr po => s Z σ H e tmp _ sr ?_⟩
  unfold sCons at po
  cases h1 : f e with
  | nx e1 =>
    rw [h1] at po
    exact fun Z' H' σ' q k => s2 Z' σ' H' e1 tmp D q (PostS.mono k po)
  | rt d e1 => rw [h1] at po; exact po
  | bk e1 => rw [h1] at po; exact po
  | ct e1 => rw [h1] at po; exact po
  | exn x e1 => rw [h1] at po; exact po
  | stuck => rw [h1] at po; exact po
theorem vs_pass : VS X W fx (.Pass pos) sNil := ⟨_, ps_pass, fun Z σ H e tmp D sr po => po Z H σ sr .refl⟩
theorem vs_break : VS X W fx (.Break pos) (fun e => .bk e) := ⟨_, ps_break, fun Z σ H e tmp D sr po => po Z H σ sr .refl⟩
theorem vs_continue : VS X W fx (.Continue pos) (fun e => .ct e) := ⟨_, ps_continue, fun Z σ H e tmp D sr po => po Z H σ sr .refl⟩
theorem vs_never : VS X W fx st (fun _ => .stuck) := ⟨_, ps_never, fun Z σ H e tmp D sr po => po⟩
theorem vss_never {sts : List Stmt} : VSs X W fx sts (fun _ => .stuck) := ⟨_, pss_never, fun Z σ H e tmp D sr po => po⟩
theorem vs_doc {x j pos pos'} : VS X W fx (.Expr (.Constant (.str x) j pos) pos') sNil := ⟨_, ps_doc, fun Z σ H e tmp D sr po => po Z H σ sr .refl⟩
def sExpr (f : DE → Res D) : DE → SRes := fun e => (f e).toS fun _ e1 => .nx e1
theorem vs_expr {f : DE → Res D} (h : VE X W e f) (hs : swapsWith e none pos.line X.env = pure false := by rfl) : VS X W fx (.Expr e pos) (sExpr f) := by
  obtain ⟨t, p, s⟩ := h.ex
  refine ⟨_, ps_expr p hs, fun Z σ H e tmp D sr po => s Z σ H e tmp _ sr ?_⟩
  unfold sExpr at po
  cases h1 : f e with
  | stuck => rw [h1] at po; exact po
  | exn x e1 => rw [h1] at po; exact fun Z' H' c o q xr => po Z' H' σ c o q .refl xr
  | ok d e1 => rw [h1] at po; exact fun Z' H' v q => po Z' H' σ q.tail .refl
def sRet (f : DE → Res D) : DE → SRes := fun e => (f e).toS fun d e1 => .rt d e1
theorem vs_ret {f : DE → Res D} (h : VE X W e f) : VS X W fx (.Return (some e) pos) (sRet f) := by
  obtain ⟨t, p, s⟩ := h.ex
  refine ⟨_, ps_ret p, fun Z σ H e tmp D sr po => s Z σ H e tmp _ sr ?_⟩
  unfold sRet at po
  cases h1 : f e with
  | stuck => rw [h1] at po; exact po
  | exn x e1 => rw [h1] at po; exact fun Z' H' c o q xr => po Z' H' σ c o q .refl xr
  | ok d e1 => rw [h1] at po; exact fun Z' H' v q => po Z' H' σ v q .refl
def sRetN : DE → SRes := fun e => .rt .non e
theorem vs_retN : VS X W fx (.Return none pos) sRetN := ⟨_, ps_retN, fun Z σ H e tmp D sr po => po Z H σ .non (sr.add (Rp_non.mpr ⟨rfl, rfl⟩)) .refl⟩
def sIf (t : DE → Res Bool) (f g : DE → SRes) : DE → SRes := fun e => (t e).toS fun b e1 => if b = true then f e1 else g e1
theorem vs_if {sa sb : List Stmt} {t : DE → Res Bool} {f g : DE → SRes} (hc : VT X W c t) (ha : VSs X W fx sa f) (hb : VSs X W fx sb g) : VS X W fx (.If c sa sb pos) (sIf t f g) := by
  obtain ⟨t0, p0, s0⟩ := hc.ex
  obtain ⟨t1, p1, s1⟩ := ha.ex
  obtain ⟨t2, p2, s2⟩ := hb.ex
  refine ⟨_, ps_if p0 p1 p2, fun Z σ H e tmp D sr po => s0 Z σ H e tmp _ sr ?_⟩
  unfold sIf at po
  cases h1 : t e with
  | stuck => rw [h1] at po; exact po
  | exn x e1 => rw [h1] at po; exact fun Z' H' c o q xr => po Z' H' σ c o q .refl xr
  | ok d e1 =>
    rw [h1] at po
    intro Z' H' q
    cases d with
    | true => rw [if_pos rfl]; exact s1 Z' σ H' e1 tmp D q po
    | false => rw [if_neg Bool.false_ne_true]; exact s2 Z' σ H' e1 tmp D q po
def sSet (i : Nat) (f : DE → Res D) : DE → SRes := fun e => (f e).toS fun d e1 => if i < e1.length then .nx (e1.set i (some d)) else .stuck
theorem snd_set {K : PySem.W.Frag} {t : TE} {i : Nat} {f : DE → Res D} (h : SndE K W t f) (hf : fx.contains i = false) : SndS K W fx (tAsg t (gName i)) (sSet i f) := by
  refine fun Z σ H e tmp D sr po => h Z σ H e tmp _ sr ?_
  unfold sSet at po
  cases h1 : f e with
  | stuck => rw [h1] at po; exact po
  | exn x e1 => rw [h1] at po; exact fun Z' H' c o q xr => po Z' H' σ c o q .refl xr
  | ok d e1 =>
    rw [h1, Res.toS_ok] at po
    intro Z' H' v q
    by_cases hi : i < e1.length
    · rw [if_pos hi] at po
      exact po Z' H' (σ.set i (some v)) (q.assign hi) (.set hf)
    · rw [if_neg hi] at po; exact po.elim
theorem vs_set (i : Nat) {x : Str} {f : DE → Res D} {pos' : Pos} (h : VE X W e f) (hN : X.N.Nodup) (hi : X.N[i]? = some x := by rfl) (hx : Loc X.env.scope x := by first | exact Or.inl rfl | exact Or.inr rfl) (hfx : fx.contains i = false := by rfl)
    (hs : swapsWith e (some (.Name x pos')) pos.line X.env = pure false := by rfl) (hf : X.fn x = true ∨ X.env.scope.names.lookup x = some .local := by first | exact .inl rfl | exact .inr rfl) : VS X W fx (.Assign [.Name x pos'] e pos) (sSet i f) := by
  obtain ⟨t, p, s⟩ := h.ex
  exact ⟨_, ps_set hN hi hx p hs hf, snd_set s hfx⟩
/-- name op= e -/
def sAug (g : D → D → Rs D) (i : Nat) (f : DE → Res D) : DE → SRes := fun e => match e.getD i none with
  | some d0 => if d0.flag = true then .stuck else (f e).toS fun d e1 => ((g d0 d).at e1).toS fun r e2 => if i < e2.length then .nx (e2.set i (some r)) else .stuck
  | none => .stuck
theorem vs_aug (i : Nat) {x : Str} {op : Operator} {ti : TIp} {g : D → D → Rs D} {f : DE → Res D} {pos' : Pos} (ho : PIp X op ti) (hg : OpS X.K ti g) (h : VE X W e f) (hN : X.N.Nodup) (hi : X.N[i]? = some x := by rfl) (hx : Loc X.env.scope x := by first | exact Or.inl rfl | exact Or.inr rfl) (hfx : fx.contains i = false := by rfl)
    (hf : X.fn x = true ∨ X.env.scope.names.lookup x = some .local := by first | exact .inl rfl | exact .inr rfl) : VS X W fx (.AugAssign (.Name x pos') op e pos) (sAug g i f) := by
  obtain ⟨t, p, s⟩ := h.ex
  refine ⟨_, ps_aug hN hi hx p ho hf, fun Z σ H e tmp D sr po => ?_⟩
  unfold sAug at po
  cases g0 : e.getD i none with
  | none => simp only [g0] at po; exact po.elim
  | some d0 =>
    simp only [g0] at po
    by_cases hfl : d0.flag = true
    · rw [if_pos hfl] at po; exact po.elim
    · rw [if_neg hfl] at po
      obtain ⟨v0, fp, hs, r⟩ := sr.rd (getD_some g0)
      have e0 := r.noflag (by simpa using hfl)
      subst e0
      refine ⟨v0, hs, s Z σ H e ((v0, d0) :: tmp) _ (sr.add r) ?_⟩
      cases h1 : f e with
      | stuck => rw [h1] at po; exact po
      | exn x e1 => rw [h1] at po; exact fun Z' H' c o q xr => po Z' H' σ c o q.tail .refl xr
      | ok d e1 =>
        rw [h1, Res.toS_ok] at po
        intro Z' H' v q
        obtain ⟨f1, r1⟩ := q.bag.rep
        obtain ⟨f2, r2⟩ := q.tail.bag.rep
        refine hg Z' H' (((v, d) :: (v0, d0) :: tmp) ++ slots σ e1) _ (W σ) d0 v0 f2 d v f1 q.bag r2 r1 ?_
        cases h2 : g d0 d with
        | stuck => rw [h2] at po; exact po
        | exn x =>
          rw [h2] at po
          exact fun Z2 H2 c o q2 xr => po Z2 H2 σ c o (SR.of q.fit q2.tail.tail) .refl xr
        | ok y =>
          rw [h2, Rs.at_ok, Res.toS_ok] at po
          intro Z2 H2 w q2
          by_cases hil : i < e1.length
          · rw [if_pos hil] at po
            have q3 : SR X.K Z2 H2 σ e1 ((w, y) :: tmp) := .of q.fit (Hold.mid (L1 := [(v, d), (v0, d0)]) q2)
            exact po Z2 H2 (σ.set i (some w)) (q3.assign hil) (.set hfx)
          · rw [if_neg hil] at po; exact po.elim

/-! ### while -/
def whF (c : DE → Res Bool) (b : DE → SRes) : Nat → DE → SRes
  | 0, _ => .stuck
  | n + 1, e => (c e).toS fun t e1 => if t = true then (match b e1 with
    | .nx e2 => whF c b n e2
    | .ct e2 => whF c b n e2
    | .bk e2 => .nx e2
    | r => r) else .nx e1
open Classical in
noncomputable def sWhile (c : DE → Res Bool) (b : DE → SRes) : DE → SRes := fun e => if h : ∃ n, whF c b n e ≠ .stuck then whF c b h.choose e else .stuck
theorem whF_mono {c : DE → Res Bool} {b : DE → SRes} : ∀ {n m : Nat} {e : DE}, n ≤ m → whF c b n e ≠ .stuck → whF c b m e = whF c b n e
  | 0, m, e, _, h => absurd rfl h
  | n + 1, 0, e, l, h => absurd l (by omega)
  | n + 1, m + 1, e, l, h => by
    simp only [whF] at h ⊢
    cases h1 : c e with
    | stuck => rfl
    | exn x e1 => rfl
    | ok t e1 =>
      rw [h1] at h
      simp only [Res.toS_ok] at h ⊢
      cases t with
      | false => rfl
      | true =>
        simp only [if_true] at h ⊢
        cases h2 : b e1 with
        | nx e2 => rw [h2] at h; exact whF_mono (by omega) h
        | ct e2 => rw [h2] at h; exact whF_mono (by omega) h
        | bk e2 => rfl
        | rt d e2 => rfl
        | exn x e2 => rfl
        | stuck => rfl
theorem sWhile_eq {c : DE → Res Bool} {b : DE → SRes} {n : Nat} {e : DE} {r : SRes} (h : whF c b n e = r) (hr : r ≠ .stuck) : sWhile c b e = r := by
  have ex : ∃ n, whF c b n e ≠ .stuck := ⟨n, by rw [h]; exact hr⟩
  unfold sWhile
  rw [dif_pos ex]
  have h1 := ex.choose_spec
  rcases Nat.le_total n ex.choose with l | l
  · rw [whF_mono l (by rw [h]; exact hr), h]
  · rw [← h, whF_mono l h1]
theorem vs_while {body : List Stmt} {t : DE → Res Bool} {f : DE → SRes} (hp : PassesOwn (model X.prog X.w) X.A X.env X.xe) (hc : VT X W c t) (hb : VSs X W fx body f) : VS X W fx (.While c body [] pos) (sWhile t f) := by
  obtain ⟨t0, p0, s0⟩ := hc.ex
  obtain ⟨t1, p1, s1⟩ := hb.ex
  refine ⟨_, ps_while hp p0 p1, fun Z σ H e tmp D sr po => ?_⟩
  unfold sWhile at po
  by_cases ex : ∃ n, whF t f n e ≠ .stuck
  · rw [dif_pos ex] at po
    refine ⟨fun m σ' H' => ∃ Z' e', SR X.K Z' H' σ' e' tmp ∧ PostS X.K W fx σ' tmp D (whF t f m e'), ⟨ex.choose, Z, e, sr, po⟩, ?_⟩
    rintro m σ' H' ⟨Z', e', sr', po'⟩
    cases m with
    | zero => exact po'.elim
    | succ m =>
      refine s0 Z' σ' H' e' tmp _ sr' ?_
      simp only [whF] at po'
      cases h1 : t e' with
      | stuck => rw [h1] at po'; exact po'
      | exn x e1 => rw [h1] at po'; exact fun Z' H' c o q xr => po' Z' H' σ' c o q .refl xr
      | ok k e1 =>
        rw [h1, Res.toS_ok] at po'
        intro Z2 H2 q2
        cases k with
        | false => rw [if_neg Bool.false_ne_true]; rw [if_neg Bool.false_ne_true] at po'; exact po' Z2 H2 σ' q2 .refl
        | true =>
          rw [if_pos rfl]; rw [if_pos rfl] at po'
          refine ⟨fun σ3 H3 => ∃ Z3 e3, SR X.K Z3 H3 σ3 e3 tmp ∧ PostS X.K W fx σ3 tmp D (whF t f m e3), fun σ3 H3 h => ⟨m, Nat.lt_succ_self m, h⟩, s1 Z2 σ' H2 e1 tmp _ q2 ?_⟩
          cases h2 : f e1 with
          | nx e2 => rw [h2] at po'; exact fun Z3 H3 σ3 q3 k3 => ⟨Z3, e2, q3, PostS.mono k3 po'⟩
          | ct e2 => rw [h2] at po'; exact fun Z3 H3 σ3 q3 k3 => ⟨Z3, e2, q3, PostS.mono k3 po'⟩
          | bk e2 => rw [h2] at po'; exact po'
          | rt d e2 => rw [h2] at po'; exact po'
          | exn x e2 => rw [h2] at po'; exact po'
          | stuck => rw [h2] at po'; exact po'
  · rw [dif_neg ex] at po; exact po.elim

/-! ### targets -/
/-- a target: g lays the value down; only the slots tgs change -/
structure VG (X : Cx) (tgs : List Nat) (tg : Expr) (g : D → DE → Option DE) : Prop where
  ex : ∃ t, PG X tg t ∧ ∀ Z σ H e tmp v d e' Q, SR X.K Z H σ e ((v, d) :: tmp) → g d e = some e' →
    (∀ Z' H' σ', SR X.K Z' H' σ' e' tmp → σ'.length = σ.length → (∀ j, tgs.contains j = false → σ'[j]? = σ[j]?) → Q σ' H') → t v σ H Q
structure VGs (X : Cx) (tgs : List Nat) (ts : List Expr) (g : List D → DE → Option DE) : Prop where
  ex : ∃ t, PGs X ts t ∧ ∀ Z σ H e tmp vs ds e' Q, SR X.K Z H σ e (vs.zip ds ++ tmp) → vs.length = ds.length → g ds e = some e' →
    (∀ Z' H' σ', SR X.K Z' H' σ' e' tmp → σ'.length = σ.length → (∀ j, tgs.contains j = false → σ'[j]? = σ[j]?) → Q σ' H') → t vs σ H Q
def gN (i : Nat) : D → DE → Option DE := fun d e => if i < e.length then some (e.set i (some d)) else none
theorem vg_name (i : Nat) {x : Str} (hN : X.N.Nodup) (hi : X.N[i]? = some x := by rfl) (hx : Loc X.env.scope x := by first | exact Or.inl rfl | exact Or.inr rfl) (hf : X.fn x = true ∨ X.env.scope.names.lookup x = some .local := by first | exact .inl rfl | exact .inr rfl) :
    VG X [i] (.Name x pos) (gN i) := by
  refine ⟨_, pg_name hN hi hx hf, fun Z σ H e tmp v d e' Q sr hg k => ?_⟩
  unfold gN at hg
  by_cases h : i < e.length
  · rw [if_pos h] at hg; cases hg
    refine k Z H _ (sr.assign h) (by simp) fun j hj => ?_
    have : i ≠ j := by rintro rfl; simp at hj
    rw [List.getElem?_set_ne this]
  · rw [if_neg h] at hg; cases hg
def gsNil : List D → DE → Option DE := fun ds e => match ds with
  | [] => some e
  | _ => none
def gsCons (g : D → DE → Option DE) (gs : List D → DE → Option DE) : List D → DE → Option DE := fun ds e => match ds with
  | d :: ds => (g d e).bind (gs ds)
  | _ => none
theorem vgs_nil : VGs X [] [] gsNil := by
  refine ⟨_, pgs_nil, fun Z σ H e tmp vs ds e' Q sr hl hg k => ?_⟩
  cases ds with
  | nil =>
    cases hg
    have e0 : vs = [] := by simpa using hl
    subst e0
    exact ⟨rfl, k Z H σ sr rfl fun _ _ => rfl⟩
  | cons _ _ => cases hg
theorem vgs_cons {tgs tgs' : List Nat} {g : D → DE → Option DE} {gs : List D → DE → Option DE} (h : VG X tgs e g) (h2 : VGs X tgs' es gs) (hs : (assignEach (e :: es) X.env).map (·.2) = assign e X.env :: (assignEach es X.env).map (·.2) := by rfl) : VGs X (tgs ++ tgs') (e :: es) (gsCons g gs) := by
  obtain ⟨t, p, s⟩ := h.ex
  obtain ⟨t2, p2, s2⟩ := h2.ex
  refine ⟨_, pgs_cons p p2 hs, fun Z σ H e tmp vs ds e' Q sr hl hg k => ?_⟩
  cases ds with
  | nil => cases hg
  | cons d ds =>
    cases vs with
    | nil => simp at hl
    | cons v vs =>
      have hg : (g d e).bind (gs ds) = some e' := hg
      rw [Option.bind_eq_some_iff] at hg
      obtain ⟨e1, h1, h2⟩ := hg
      refine ⟨v, vs, rfl, s Z σ H e (vs.zip ds ++ tmp) v d e1 _ sr h1 fun Z1 H1 σ1 q1 l1 f1 => ?_⟩
      refine s2 Z1 σ1 H1 e1 tmp vs ds e' Q q1 (by simpa using hl) h2 fun Z2 H2 σ2 q2 l2 f2 => k Z2 H2 σ2 q2 (l2.trans l1) fun j hj => ?_
      have hj' : j ∉ tgs ++ tgs' := by simpa using hj
      rw [List.mem_append, not_or] at hj'
      exact (f2 j (by simpa using hj'.2)).trans (f1 j (by simpa using hj'.1))
def gTp (n : Nat) (gs : List D → DE → Option DE) : D → DE → Option DE := fun d e => match d with
  | .tup ds => if ds.length = n then gs ds e else none
  | _ => none
theorem vg_tup {tgs : List Nat} {k n : Nat} {gs : List D → DE → Option DE} (hc : X.calm = true) (h : VGs X tgs es gs) (hn : (assignEach es X.env).length = n := by rfl) (hst : (assignEach es X.env).findIdx? (·.1) = none := by rfl) : VG X tgs (.Tuple es k pos) (gTp n gs) := by
  obtain ⟨t, p, s⟩ := h.ex
  refine ⟨_, pg_tup hc p hn hst, fun Z σ H e tmp v d e' Q sr hg k => ?_⟩
  cases d with
  | tup ds =>
    have hg : (if ds.length = n then gs ds e else none) = some e' := hg
    by_cases hl : ds.length = n
    · rw [if_pos hl] at hg
      obtain ⟨M, r, nd, ne⟩ := sr.bag.rp
      obtain ⟨f1, f2, _, r1, r2⟩ := RpB.cons.mp r
      obtain ⟨_, a, vs, ev, q, rl⟩ := Rp_tup.mp r1
      refine ⟨a, vs, ev, q.seq, by rw [rl.length, hl], ?_⟩
      have addL : ∀ {ds : List D} {vs : List V} {B : Bag}, RpL X.K Z H ds vs [] → Hold X.K [] Z H B → Hold X.K [] Z H (vs.zip ds ++ B) := by
        intro ds
        induction ds with
        | nil => intro vs B h b; obtain ⟨rfl, _⟩ := RpL_nil.mp h; exact b
        | cons d ds ih =>
          intro vs B h b
          obtain ⟨v, vr, g1, g2, rfl, e2, q1, q2⟩ := RpL_cons.mp h
          have z := List.append_eq_nil_iff.mp e2.symm
          rw [z.1] at q1; rw [z.2] at q2
          exact (ih q2 b).add q1
      exact s Z σ H e tmp vs ds e' Q (.of sr.fit (by rw [List.append_assoc]; exact addL rl sr.tail.bag)) rl.length hg k
    · rw [if_neg hl] at hg; cases hg
  | _ => cases hg
/-- target = value -/
def sAsg (f : DE → Res D) (g : D → DE → Option DE) : DE → SRes := fun e => (f e).toS fun d e1 => match g d e1 with
  | some e2 => .nx e2
  | none => .stuck
theorem vs_asg {tgs : List Nat} {tg : Expr} {f : DE → Res D} {g : D → DE → Option DE} (h : VE X W e f) (hg : VG X tgs tg g) (hfx : fx.all (fun i => !tgs.contains i) = true := by rfl) (hs : swapsWithSole [tg] e pos.line X.env = pure false := by rfl) (hw : swappedStores [tg] e X.env = pure none := by rfl)
    (h1 : (assignEach [tg] X.env).map (·.2) = [assign tg X.env] := by rfl) : VS X W fx (.Assign [tg] e pos) (sAsg f g) := by
  obtain ⟨t, p, s⟩ := h.ex
  obtain ⟨t2, p2, s2⟩ := hg.ex
  refine ⟨_, ps_asg p p2 hs hw h1, fun Z σ H e tmp D sr po => s Z σ H e tmp _ sr ?_⟩
  unfold sAsg at po
  cases h1 : f e with
  | stuck => rw [h1] at po; exact po
  | exn x e1 => rw [h1] at po; exact fun Z' H' c o q xr => po Z' H' σ c o q .refl xr
  | ok d e1 =>
    rw [h1, Res.toS_ok] at po
    intro Z' H' v q
    cases hgd : g d e1 with
    | none => simp only [hgd] at po; exact po.elim
    | some e2 =>
      simp only [hgd] at po
      exact s2 Z' σ H' e1 tmp v d e2 _ q hgd fun Z2 H2 σ2 q2 l2 f2 => po Z2 H2 σ2 q2 fun i hi => f2 i (by
        have := List.all_eq_true.mp hfx i hi
        simpa using this)
theorem vals_length : ∀ {ls : List L} {ds : List D}, vals ls = some ds → ds.length = ls.length
  | [], ds, h => by simp only [vals, Option.some.injEq] at h; subst h; rfl
  | .s i :: ls, ds, h => by simp [vals] at h
  | .v d :: ls, ds, h => by
    simp only [vals, Option.map_eq_some_iff] at h
    obtain ⟨ds1, h1, rfl⟩ := h
    simp [vals_length h1]
/-- a, b = x, y: the pair's own tuple is never held -/
def sPar (fa : DE → Res (List L)) (gs : List D → DE → Option DE) : DE → SRes := fun e => (fa e).toS fun ls e1 => match vals ls with
  | some ds => if ds.length ≤ sizeLine then (match gs ds e1 with
    | some e2 => .nx e2
    | none => .stuck) else .stuck
  | none => .stuck
theorem vs_tupasg {tgs : List Nat} {ts : List Expr} {k k2 n : Nat} {pt pt2 : Pos} {fa : DE → Res (List L)} {gs : List D → DE → Option DE} (hc : X.calm = true) (ha : VA X W es fa) (h : VGs X tgs ts gs) (hlen : es.length = n) (hfx : fx.all (fun i => !tgs.contains i) = true := by rfl)
    (hn : (assignEach ts X.env).length = n := by rfl) (hst : (assignEach ts X.env).findIdx? (·.1) = none := by rfl) (hs : swapsWithSole [.Tuple ts k pt] (.Tuple es k2 pt2) pos.line X.env = pure false := by rfl) (hw : swappedStores [.Tuple ts k pt] (.Tuple es k2 pt2) X.env = pure none := by rfl)
    (h1 : (assignEach [.Tuple ts k pt] X.env).map (·.2) = [assign (.Tuple ts k pt) X.env] := by rfl) : VS X W fx (.Assign [.Tuple ts k pt] (.Tuple es k2 pt2) pos) (sPar fa gs) := by
  obtain ⟨t, p, s⟩ := ha.ex
  obtain ⟨t2, p2, s2⟩ := h.ex
  refine ⟨_, ps_asg (pe_tup p) (pg_tup hc p2 hn hst) hs hw h1, fun Z σ H e tmp D sr po => s Z σ H e tmp _ sr ?_⟩
  unfold sPar at po
  cases h1 : fa e with
  | stuck => rw [h1] at po; exact po
  | exn x e1 => rw [h1] at po; exact fun Z' H' c o q xr => po Z' H' σ c o q .refl xr
  | ok ls e1 =>
    rw [h1, Res.toS_ok] at po
    intro Z' H' vs q kk
    cases hv : vals ls with
    | none => simp only [hv] at po; exact po.elim
    | some ds =>
      simp only [hv] at po
      obtain ⟨q1, q2⟩ := vals_ok (K := X.K) (Z := Z') (H := H') hv kk
      by_cases hz : ds.length ≤ sizeLine
      · rw [if_pos hz] at po
        refine ⟨by rw [q2]; exact hz, fun p hp => ?_⟩
        rw [q1] at q
        cases hgd : gs ds e1 with
        | none => simp only [hgd] at po; exact po.elim
        | some e2 =>
          simp only [hgd] at po
          refine ⟨p, vs, rfl, SqT.of upd_same, by rw [q2, vals_length hv, ha.len _ _ _ h1, hlen], ?_⟩
          have q' : SR X.K Z' (upd H' p (.tup vs)) σ e1 (vs.zip ds ++ tmp) := ⟨q.fit, q.hold.growS hp⟩
          exact s2 Z' σ _ e1 tmp vs ds e2 _ q' q2 hgd fun Z2 H2 σ2 q2 l2 f2 => po Z2 H2 σ2 q2 fun i hi => f2 i (by
            have := List.all_eq_true.mp hfx i hi
            simpa using this)
      · rw [if_neg hz] at po; exact po.elim
end
end Tr

set_option maxHeartbeats 2000000
/-! The tree layer 6: what is walked, for, comprehensions. -/
namespace Tr
open PySem PySem.Spec PyProof.Rows L2

/-- while B is held and S holds of the frame, J yields just ds -/
structure Yld (K : PySem.W.Frag) (B : Bag) (J : It) (ds : List D) (S : Sg → DE → Prop) : Prop where
  go : ∀ Z H σ e tmp i d, SR K Z H σ e (B ++ tmp) → S σ e → ds[i]? = some d → J.go i H ∧ ∀ x H', J.yld i H x H' → ∃ Z', SR K Z' H' σ e ((x, d) :: (B ++ tmp))
  stop : ∀ Z H σ e tmp, SR K Z H σ e (B ++ tmp) → S σ e → J.stop ds.length H
/-- what walks: its items; whose slot stays (none: it hangs on no slot) -/
structure Wk where
  ds : List D
  at_ : Option (Nat × D)
def Wk.S (k : Wk) (σ0 : Sg) : Sg → DE → Prop := fun σ e => match k.at_ with
  | none => True
  | some (i, d) => σ[i]? = σ0[i]? ∧ e.getD i none = some d
def Wk.C (k : Wk) : DE → Prop := fun e => match k.at_ with
  | none => True
  | some (i, d) => e.getD i none = some d
def PostI (K : PySem.W.Frag) (W : XW) (σ : Sg) (tmp : Bag) (R : It → Hp → Prop) : Res Wk → Prop
  | .ok k e' => ∀ Z' H' J B, SR K Z' H' σ e' (B ++ tmp) → Yld K B J k.ds (k.S σ) → R J H'
  | .exn x e' => ∀ Z' H' c o, SR K Z' H' σ e' tmp → XR K Z' H' x c o → W σ c o H'
  | .stuck => False
def SndI (K : PySem.W.Frag) (W : XW) (t : TI) (f : DE → Res Wk) : Prop := ∀ Z σ H e tmp R, SR K Z H σ e tmp → PostI K W σ tmp R (f e) → t σ H R
structure VI (X : Cx) (W : XW) (tg iter : Expr) (f : DE → Res Wk) : Prop where
  ex : ∃ t, PI X tg iter t ∧ SndI X.K W t f

section
variable {X : Cx} {W : XW} {fx : List Nat} {a b c e tg : Expr} {es : List Expr} {pos : Pos}
theorem pi_or {iter : Expr} {w1 w2 : TI} (h1 : PI X tg iter w1) (h2 : PI X tg iter w2) : PI X tg iter (fun σ H R => w1 σ H R ∨ w2 σ H R) :=
  ⟨fun pins s σ H R I h => h.elim (h1.run pins s σ H R I) (h2.run pins s σ H R I)⟩
def D.items : D → Option (List D)
  | .tup ds => some ds
  | .lst _ ds => some (frzL ds)
  | .scr ns => some (ns.map .int)
  | _ => none
theorem Rp.frz_id {K : PySem.W.Frag} {Z : AS} {H : Hp} {d : D} {v : V} (h : Rp K Z H d v []) : d.frz = d := by
  cases d with
  | lst o _ =>
    rcases Rp_lst.mp h with ⟨rfl, _⟩ | ⟨_, _, _, _, _, e3, _⟩
    · rfl
    · cases e3
  | ins o _ _ _ =>
    rcases Rp_ins.mp h with ⟨rfl, _⟩ | ⟨_, _, _, _, _, _, e3, _⟩
    · rfl
    · cases e3
  | dct o _ _ =>
    rcases Rp_dct.mp h with ⟨rfl, _⟩ | ⟨_, _, _, _, _, e3, _⟩
    · rfl
    · cases e3
  | _ => rfl
theorem RpL.frz_id {K : PySem.W.Frag} {Z : AS} {H : Hp} : ∀ {ds : List D} {vs : List V}, RpL K Z H ds vs [] → frzL ds = ds
  | [], _, _ => rfl
  | d :: ds, vs, h => by
    obtain ⟨v, vr, g1, g2, rfl, e2, q1, q2⟩ := RpL_cons.mp h
    have z := List.append_eq_nil_iff.mp e2.symm
    rw [z.2] at q2
    rw [z.1] at q1
    show d.frz :: frzL ds = d :: ds
    rw [q1.frz_id, RpL.frz_id q2]
theorem RpL.ats {K : PySem.W.Frag} {Z : AS} {H : Hp} {ds : List D} {vs : List V} (h : RpL K Z H ds vs []) {i : Nat} {d : D} (hi : ds[i]? = some d) : ∃ v, vs[i]? = some v ∧ Rp K Z H d v [] := by
  obtain ⟨v, f, h1, h2, h3⟩ := h.at hi
  have : f = [] := List.eq_nil_iff_forall_not_mem.mpr fun a ha => by simpa using h3 a ha
  subst this
  exact ⟨v, h1, h2⟩
theorem its_tup {K : PySem.W.Frag} {a : Addr} {ds : List D} {S : Sg → DE → Prop} : Yld K [(.ref a, .tup ds)] (Itt K a) ds S where
  go := fun Z H σ e tmp i d sr _ hi => by
    obtain ⟨fp, r⟩ := Hold.rep (L := tmp ++ slots σ e) sr.bag
    obtain ⟨_, a', vs, ev, q, rl⟩ := Rp_tup.mp r
    cases ev
    obtain ⟨v, hv, rv⟩ := rl.ats hi
    refine ⟨⟨vs, v, q.seq, hv⟩, fun x H' y => ?_⟩
    obtain ⟨rfl, y⟩ := y
    have := y vs q.seq
    rw [hv] at this; cases this
    exact ⟨Z, sr.add rv⟩
  stop := fun Z H σ e tmp sr _ => by
    obtain ⟨fp, r⟩ := Hold.rep (L := tmp ++ slots σ e) sr.bag
    obtain ⟨_, a', vs, ev, q, rl⟩ := Rp_tup.mp r
    cases ev
    exact ⟨vs, q.seq, by rw [rl.length]; exact Nat.le_refl _⟩
theorem its_lst {K : PySem.W.Frag} {a : Addr} {ds : List D} {S : Sg → DE → Prop} : Yld K [(.ref a, .lst false ds)] (Itl K a) ds S where
  go := fun Z H σ e tmp i d sr _ hi => by
    obtain ⟨fp, r⟩ := Hold.rep (L := tmp ++ slots σ e) sr.bag
    rcases Rp_lst.mp r with ⟨_, _, a', vs, ev, z, q, rl⟩ | ⟨h, _⟩
    · cases ev
      obtain ⟨v, hv, rv⟩ := rl.ats hi
      refine ⟨⟨vs, v, .of q, hv⟩, fun x H' y => ?_⟩
      obtain ⟨rfl, y⟩ := y
      have := y vs (.of q)
      rw [hv] at this; cases this
      exact ⟨Z, sr.add rv⟩
    · cases h
  stop := fun Z H σ e tmp sr _ => by
    obtain ⟨fp, r⟩ := Hold.rep (L := tmp ++ slots σ e) sr.bag
    rcases Rp_lst.mp r with ⟨_, _, a', vs, ev, z, q, rl⟩ | ⟨h, _⟩
    · cases ev
      exact ⟨vs, .of q, by rw [rl.length]; exact Nat.le_refl _⟩
    · cases h
theorem its_scr {K : PySem.W.Frag} {a : Addr} {ns : List Int} {S : Sg → DE → Prop} : Yld K [(.ref a, .scr ns)] (Itl K a) (ns.map .int) S where
  go := fun Z H σ e tmp i d sr _ hi => by
    obtain ⟨fp, r⟩ := Hold.rep (L := tmp ++ slots σ e) sr.bag
    obtain ⟨_, a', ev, q⟩ := Rp_scr.mp r
    cases ev
    rw [List.getElem?_map] at hi
    cases hn : ns[i]? with
    | none => rw [hn] at hi; cases hi
    | some n =>
      rw [hn] at hi
      cases hi
      refine ⟨⟨ns.map V.int, .int n, q.seq, by rw [List.getElem?_map, hn]; rfl⟩, fun x H' y => ?_⟩
      obtain ⟨rfl, y⟩ := y
      have := y _ q.seq
      rw [List.getElem?_map, hn] at this; cases this
      exact ⟨Z, sr.add (Rp_int.mpr ⟨rfl, rfl⟩)⟩
  stop := fun Z H σ e tmp sr _ => by
    obtain ⟨fp, r⟩ := Hold.rep (L := tmp ++ slots σ e) sr.bag
    obtain ⟨_, a', ev, q⟩ := Rp_scr.mp r
    cases ev
    exact ⟨_, q.seq, by simp⟩
/-- over a value at hand (a list is frozen) -/
def iVal (f : DE → Res D) : DE → Res Wk := fun e => (f e).bind fun d e1 => match d.items with
  | some ds => .ok ⟨ds, none⟩ e1
  | none => .stuck
theorem vi_val {f : DE → Res D} (h : VE X W e f) : VI X W tg e (iVal f) := by
  obtain ⟨t, p, s⟩ := h.ex
  refine ⟨_, pi_or (pi_tup p) (pi_list p), fun Z σ H e tmp R sr po => ?_⟩
  unfold iVal at po
  cases h1 : f e with
  | stuck => rw [h1] at po; exact po.elim
  | exn x e1 => rw [h1] at po; exact .inl (s Z σ H e tmp _ sr (by rw [h1]; exact po))
  | ok d e1 =>
    rw [h1, Res.bind_ok] at po
    cases d with
    | tup ds =>
      refine .inl (s Z σ H e tmp _ sr (by
        rw [h1]
        intro Z' H' v q
        obtain ⟨fp, r⟩ := q.bag.rep
        obtain ⟨_, a, vs, ev, hq, rl⟩ := Rp_tup.mp r
        subst ev
        exact ⟨a, rfl, ⟨vs, hq.seq⟩, po Z' H' _ [(.ref a, .tup ds)] q its_tup⟩))
    | lst o ds =>
      refine .inr (s Z σ H e tmp _ sr (by
        rw [h1]
        intro Z' H' v q
        obtain ⟨Z2, q2⟩ := q.freeze
        have q3 : SR X.K Z2 H' σ e1 ((v, .lst false (frzL ds)) :: tmp) := by
          cases o with
          | true => exact q2
          | false =>
            have e0 : frzL ds = ds := by
              obtain ⟨fp, r⟩ := q.bag.rep
              rcases Rp_lst.mp r with ⟨_, _, a', vs, ev, z, hq, rl⟩ | ⟨h, _⟩
              · exact rl.frz_id
              · cases h
            rw [e0]; exact q2
        obtain ⟨fp, r⟩ := q3.bag.rep
        rcases Rp_lst.mp r with ⟨_, _, a', vs, ev, z, hq, rl⟩ | ⟨h, _⟩
        · subst ev
          exact ⟨a', rfl, ⟨vs, .of hq⟩, po Z2 H' _ [(.ref a', .lst false (frzL ds))] q3 its_lst⟩
        · cases h))
    | scr ns =>
      refine .inr (s Z σ H e tmp _ sr (by
        rw [h1]
        intro Z' H' v q
        obtain ⟨fp, r⟩ := q.bag.rep
        obtain ⟨_, a', ev, hq⟩ := Rp_scr.mp r
        subst ev
        exact ⟨a', rfl, ⟨_, hq.seq⟩, po Z' H' _ [(.ref a', .scr ns)] q its_scr⟩))
    | _ => exact po.elim
/-- over what stands in a slot, which is lent -/
def iSlot (i : Nat) : DE → Res Wk := fun e => match e.getD i none with
  | some (.lst true ds) => if ds.all (fun d => !d.flag) = true then .ok ⟨ds, some (i, .lst true ds)⟩ e else .stuck
  | some d => match d.items with
    | some ds => .ok ⟨ds, none⟩ e
    | none => .stuck
  | none => .stuck
theorem its_slot {K : PySem.W.Frag} {a : Addr} {ds : List D} {i : Nat} {σ0 : Sg} (h0 : σ0[i]? = some (some (.ref a))) (hf : ∀ d ∈ ds, d.flag = false) : Yld K [] (Itl K a) ds (Wk.S ⟨ds, some (i, .lst true ds)⟩ σ0) where
  go := fun Z H σ e tmp j d sr st hj => by
    obtain ⟨s1, s2⟩ := st
    obtain ⟨v, fp, hv, r⟩ := sr.rd (getD_some s2)
    rw [s1, h0] at hv
    cases hv
    rcases Rp_lst.mp r with ⟨h, _⟩ | ⟨_, a', vs, fp', ev, _, _, q, rl⟩
    · cases h
    · cases ev
      obtain ⟨v, f, hv, rv, _⟩ := rl.at hj
      have e0 := rv.noflag (hf d (List.mem_of_getElem? hj))
      subst e0
      refine ⟨⟨vs, v, .of q, hv⟩, fun x H' y => ?_⟩
      obtain ⟨rfl, y⟩ := y
      have := y vs (.of q)
      rw [hv] at this; cases this
      exact ⟨Z, sr.add rv⟩
  stop := fun Z H σ e tmp sr st => by
    obtain ⟨s1, s2⟩ := st
    obtain ⟨v, fp, hv, r⟩ := sr.rd (getD_some s2)
    rw [s1, h0] at hv
    cases hv
    rcases Rp_lst.mp r with ⟨h, _⟩ | ⟨_, a', vs, fp', ev, _, _, q, rl⟩
    · cases h
    · cases ev
      exact ⟨vs, .of q, by rw [rl.length]; exact Nat.le_refl _⟩
theorem vi_slot (i : Nat) {x : Str} (hN : X.N[i]? = some x := by rfl) (hv : Vis X.env.scope x := by first | exact Or.inl rfl | exact Or.inr (Or.inl rfl) | exact Or.inr (Or.inr rfl)) (hd : (x == ("__debug__" : Str)) = false := by decide)
    (hcd : (x == ("__classdict__" : Str)) = false := by decide) : VI X W tg (.Name x pos) (iSlot i) := by
  have p := pe_var (X := X) (pos := pos) hN hv hd hcd
  refine ⟨_, pi_or (pi_tup p) (pi_list p), fun Z σ H e tmp R sr po => ?_⟩
  unfold iSlot at po
  cases g : e.getD i none with
  | none => simp only [g] at po; exact po.elim
  | some d =>
    simp only [g] at po
    obtain ⟨v, fp, hs, r⟩ := sr.rd (getD_some g)
    cases d with
    | tup ds =>
      have e0 := r.noflag rfl
      subst e0
      obtain ⟨_, a, vs, ev, hq, rl⟩ := Rp_tup.mp r
      subst ev
      exact .inl ⟨_, hs, a, rfl, ⟨vs, hq.seq⟩, po Z H _ [(.ref a, .tup ds)] (sr.add r) its_tup⟩
    | scr ns =>
      have e0 := r.noflag rfl
      subst e0
      obtain ⟨_, a', ev, hq⟩ := Rp_scr.mp r
      subst ev
      exact .inr ⟨_, hs, a', rfl, ⟨_, hq.seq⟩, po Z H _ [(.ref a', .scr ns)] (sr.add r) its_scr⟩
    | lst o ds =>
      cases o with
      | false =>
        have e0 := r.noflag rfl
        subst e0
        rcases Rp_lst.mp r with ⟨_, _, a', vs, ev, z, hq, rl⟩ | ⟨h, _⟩
        · subst ev
          have po : PostI X.K W σ tmp R (.ok ⟨frzL ds, none⟩ e) := po
          rw [rl.frz_id] at po
          exact .inr ⟨_, hs, a', rfl, ⟨vs, .of hq⟩, po Z H _ [(.ref a', .lst false ds)] (sr.add r) its_lst⟩
        · cases h
      | true =>
        by_cases hf : ds.all (fun d => !d.flag) = true
        · have po : PostI X.K W σ tmp R (if ds.all (fun d => !d.flag) = true then .ok ⟨ds, some (i, .lst true ds)⟩ e else .stuck) := po
          rw [if_pos hf] at po
          rcases Rp_lst.mp r with ⟨h, _⟩ | ⟨_, a', vs, fp', ev, _, _, q, rl⟩
          · cases h
          · subst ev
            refine .inr ⟨_, hs, a', rfl, ⟨vs, .of q⟩, po Z H _ [] sr (its_slot hs fun d hd => ?_)⟩
            have := List.all_eq_true.mp hf d hd
            simpa using this
        · have po : PostI X.K W σ tmp R (if ds.all (fun d => !d.flag) = true then .ok ⟨ds, some (i, .lst true ds)⟩ e else .stuck) := po
          rw [if_neg hf] at po
          exact po.elim
    | _ => exact po.elim
/-- over a range -/
theorem its_range {K : PySem.W.Frag} {lo : Int} {n : Nat} {S : Sg → DE → Prop} : Yld K [] (Itr lo n) ((List.range n).map fun k => D.int (lo + (k : Nat))) S where
  go := fun Z H σ e tmp i d sr _ hi => by
    rw [List.getElem?_map] at hi
    by_cases h : i < n
    · rw [List.getElem?_range h] at hi
      cases hi
      refine ⟨h, fun x H' y => ?_⟩
      obtain ⟨rfl, rfl⟩ := y
      exact ⟨Z, sr.add (Rp_int.mpr ⟨rfl, rfl⟩)⟩
    · rw [List.getElem?_eq_none (by simpa using h)] at hi; cases hi
  stop := fun Z H σ e tmp sr _ => by show n ≤ _; simp
def dInts : List D → Option (List Int)
  | [] => some []
  | .int i :: ds => (dInts ds).map (i :: ·)
  | _ => none
def rng (lo hi : Int) : List D := (List.range (hi - lo).toNat).map fun k => D.int (lo + (k : Nat))
def small62 (i : Int) : Bool := decide (-(2 ^ 62) ≤ i) && decide (i < 2 ^ 62)
def iRng1f (fa : DE → Res (List L)) : DE → Res Wk := fun e => (fa e).bind fun ls e1 => match lgets ls e1 with
  | some [.int j] => if small62 j = true then .ok ⟨rng 0 j, none⟩ e1 else .stuck
  | _ => .stuck
def iRng2f (fa : DE → Res (List L)) : DE → Res Wk := fun e => (fa e).bind fun ls e1 => match lgets ls e1 with
  | some [.int i, .int j] => if (small62 i && small62 j) = true then .ok ⟨rng i j, none⟩ e1 else .stuck
  | _ => .stuck
theorem rng_0 (j : Int) : (List.range j.toNat).map (fun k => D.int (0 + (k : Nat))) = rng 0 j := by unfold rng; rw [Int.sub_zero]
theorem drop_bags {K : PySem.W.Frag} {Z : AS} {H : Hp} {σ : Sg} {e : DE} {ls : List L} {vs : List V} {tmp : Bag} (h : SR K Z H σ e (lbags ls vs ++ tmp)) : SR K Z H σ e tmp := h.drop
theorem vi_range1 {fa : DE → Res (List L)} {p : Pos} (hg : Gl X "range") (hm : X.mg "range" = none) (h : VA X W [a] fa) (hs : starEach [a] X.env = [(false, eval a X.env)] := by rfl) : VI X W tg (.Call (.Name "range" p) [a] [] pos) (iRng1f fa) := by
  obtain ⟨t, p, s⟩ := h.ex
  refine ⟨_, pi_range1 hg hm p hs, fun Z σ H e tmp R sr po => s Z σ H e tmp _ sr ?_⟩
  unfold iRng1f at po
  cases h1 : fa e with
  | stuck => rw [h1] at po; exact po
  | exn x e1 => rw [h1] at po; exact po
  | ok ls e1 =>
    rw [h1, Res.bind_ok] at po
    intro Z' H' vs q k
    split at po
    · rename_i j gl
      have r := lgets_ok q k gl
      cases r with
      | cons r rr =>
        cases rr
        obtain ⟨rfl, _⟩ := Rp_int.mp r
        by_cases hj : small62 j = true
        · rw [if_pos hj] at po
          unfold small62 at hj
          simp only [Bool.and_eq_true, decide_eq_true_eq] at hj
          refine ⟨j, rfl, hj.1, hj.2, po Z' H' _ [] (drop_bags q) ?_⟩
          show Yld X.K [] _ (rng 0 j) _
          rw [← rng_0]
          exact its_range
        · rw [if_neg hj] at po; exact po.elim
    · exact po.elim
theorem vi_range2 {fa : DE → Res (List L)} {p : Pos} (hg : Gl X "range") (hm : X.mg "range" = none) (h : VA X W [a, b] fa) (hs : starEach [a, b] X.env = [(false, eval a X.env), (false, eval b X.env)] := by rfl) (hs2 : starEach [b] X.env = [(false, eval b X.env)] := by rfl) :
    VI X W tg (.Call (.Name "range" p) [a, b] [] pos) (iRng2f fa) := by
  obtain ⟨t, p, s⟩ := h.ex
  refine ⟨_, pi_range2 hg hm p hs hs2, fun Z σ H e tmp R sr po => s Z σ H e tmp _ sr ?_⟩
  unfold iRng2f at po
  cases h1 : fa e with
  | stuck => rw [h1] at po; exact po
  | exn x e1 => rw [h1] at po; exact po
  | ok ls e1 =>
    rw [h1, Res.bind_ok] at po
    intro Z' H' vs q k
    split at po
    · rename_i i j gl
      have r := lgets_ok q k gl
      cases r with
      | cons r rr =>
        cases rr with
        | cons r' rr =>
          cases rr
          obtain ⟨rfl, _⟩ := Rp_int.mp r
          obtain ⟨rfl, _⟩ := Rp_int.mp r'
          by_cases hj : (small62 i && small62 j) = true
          · rw [if_pos hj] at po
            unfold small62 at hj
            simp only [Bool.and_eq_true, decide_eq_true_eq] at hj
            exact ⟨i, j, rfl, ⟨hj.1.1, hj.1.2, hj.2.1, hj.2.2⟩, po Z' H' _ [] (drop_bags q) its_range⟩
          · rw [if_neg hj] at po; exact po.elim
    · exact po.elim
/-- a range with a step -/
def rngC (i j c : Int) : List D := (List.range (Builtin.Range.rangeSize i j c).toNat).map fun k => D.int (i + (k : Nat) * c)
def rgOk (i j c : Int) : Bool := decide (c ≠ 0) && decide (c.natAbs < 1073741824) && Builtin.Range.small i j c && decide (0 ≤ Builtin.Range.rangeSize i j c)
def iRng3f (fa : DE → Res (List L)) : DE → Res Wk := fun e => (fa e).bind fun ls e1 => match lgets ls e1 with
  | some [.int i, .int j, .int c] => if rgOk i j c = true then .ok ⟨rngC i j c, none⟩ e1 else .stuck
  | _ => .stuck
theorem its_rangeC {K : PySem.W.Frag} {lo c : Int} {n : Nat} {S : Sg → DE → Prop} : Yld K [] (Itc lo c n) ((List.range n).map fun k => D.int (lo + (k : Nat) * c)) S where
  go := fun Z H σ e tmp i d sr _ hi => by
    rw [List.getElem?_map] at hi
    by_cases h : i < n
    · rw [List.getElem?_range h] at hi
      cases hi
      refine ⟨h, fun x H' y => ?_⟩
      obtain ⟨rfl, rfl⟩ := y
      exact ⟨Z, sr.add (Rp_int.mpr ⟨rfl, rfl⟩)⟩
    · rw [List.getElem?_eq_none (by simpa using h)] at hi; cases hi
  stop := fun Z H σ e tmp sr _ => by show n ≤ _; simp
theorem vi_range3 {fa : DE → Res (List L)} {p : Pos} (hg : Gl X "range") (hm : X.mg "range" = none) (h : VA X W [a, b, c] fa) (hs : starEach [a, b, c] X.env = (false, eval a X.env) :: starEach [b, c] X.env := by rfl) (hpl : (backTo pos (starEach [b, c] X.env)).any (·.1) = false := by rfl) :
    VI X W tg (.Call (.Name "range" p) [a, b, c] [] pos) (iRng3f fa) := by
  obtain ⟨t, p, s⟩ := h.ex
  refine ⟨_, pi_range3 hg hm p hs hpl, fun Z σ H e tmp R sr po => s Z σ H e tmp _ sr ?_⟩
  unfold iRng3f at po
  cases h1 : fa e with
  | stuck => rw [h1] at po; exact po
  | exn x e1 => rw [h1] at po; exact po
  | ok ls e1 =>
    rw [h1, Res.bind_ok] at po
    intro Z' H' vs q k
    split at po
    · rename_i i j c gl
      have r := lgets_ok q k gl
      cases r with
      | cons r rr =>
        cases rr with
        | cons r' rr =>
          cases rr with
          | cons r'' rr =>
            cases rr
            obtain ⟨rfl, _⟩ := Rp_int.mp r
            obtain ⟨rfl, _⟩ := Rp_int.mp r'
            obtain ⟨rfl, _⟩ := Rp_int.mp r''
            by_cases hj : rgOk i j c = true
            · rw [if_pos hj] at po
              unfold rgOk at hj
              simp only [Bool.and_eq_true, decide_eq_true_eq] at hj
              exact ⟨i, j, c, (Builtin.Range.rangeSize i j c).toNat, rfl, ⟨hj.1.1.1, hj.1.1.2, hj.1.2, by have := hj.2; omega⟩, po Z' H' _ [] (drop_bags q) its_rangeC⟩
            · rw [if_neg hj] at po; exact po.elim
    · exact po.elim

/-! ### for -/
def forL (g : D → DE → Option DE) (b : DE → SRes) : List D → DE → SRes
  | [], e => .nx e
  | d :: ds, e => match g d e with
    | some e1 => (match b e1 with
      | .nx e2 => forL g b ds e2
      | .ct e2 => forL g b ds e2
      | .bk e2 => .nx e2
      | r => r)
    | none => .stuck
def sFor (fi : DE → Res Wk) (g : D → DE → Option DE) (b : DE → SRes) : DE → SRes := fun e => (fi e).toS fun k e1 => match k.at_ with
  | none => forL g b k.ds e1
  | some _ => .stuck
theorem vs_for {iter : Expr} {tgs : List Nat} {body : List Stmt} {fi : DE → Res Wk} {g : D → DE → Option DE} {f : DE → SRes} (hp : PassesOwn (model X.prog X.w) X.A X.env X.xe) (hc : X.calm = true) (hi : VI X W tg iter fi) (hg : VG X tgs tg g) (hb : VSs X W fx body f)
    (hfx : fx.all (fun i => !tgs.contains i) = true := by rfl) (hs : ∀ x, foldedSetIterable iter X.env x = pure x := by intro _; rfl) : VS X W fx (.For tg iter body [] pos) (sFor fi g f) := by
  obtain ⟨t0, p0, s0⟩ := hi.ex
  obtain ⟨t1, p1, s1⟩ := hg.ex
  obtain ⟨t2, p2, s2⟩ := hb.ex
  refine ⟨_, ps_for hp hc p0 p1 p2 hs, fun Z σ H e tmp D sr po => s0 Z σ H e tmp _ sr ?_⟩
  unfold sFor at po
  cases h1 : fi e with
  | stuck => rw [h1] at po; exact po
  | exn x e1 => rw [h1] at po; exact fun Z' H' c o q xr => po Z' H' σ c o q .refl xr
  | ok k e1 =>
    rw [h1, Res.toS_ok] at po
    obtain ⟨ds, at_⟩ := k
    cases at_ with
    | some _ => exact po.elim
    | none =>
      have po : PostS X.K W fx σ tmp D (forL g f ds e1) := po
      intro Z1 H1 J B q1 its
      have its : Yld X.K B J ds fun _ _ => True := its
      refine ⟨fun i m σ' H' => m = ds.length - i ∧ i ≤ ds.length ∧ ∃ Z' e', SR X.K Z' H' σ' e' (B ++ tmp) ∧ PostS X.K W fx σ' tmp D (forL g f (ds.drop i) e'), ⟨ds.length, by simp, Nat.zero_le _, Z1, e1, q1, po⟩, ?_⟩
      rintro i m σ' H' ⟨rfl, hi, Z', e', q', po'⟩
      by_cases hlt : i < ds.length
      · have hd : ds[i]? = some ds[i] := List.getElem?_eq_getElem hlt
        obtain ⟨go, yl⟩ := its.go Z' H' σ' e' tmp i ds[i] q' trivial hd
        rw [List.drop_eq_getElem_cons hlt] at po'
        refine .inr ⟨go, fun σ3 H3 => ∃ Z3 e3, SR X.K Z3 H3 σ3 e3 (B ++ tmp) ∧ PostS X.K W fx σ3 tmp D (forL g f (ds.drop (i + 1)) e3), fun σ3 H3 h => ⟨ds.length - (i + 1), by omega, rfl, hlt, h⟩, fun x H2 y => ?_⟩
        obtain ⟨Z2, q2⟩ := yl x H2 y
        simp only [forL] at po'
        cases hgd : g ds[i] e' with
        | none => simp only [hgd] at po'; exact po'.elim
        | some e2 =>
          simp only [hgd] at po'
          refine s1 Z2 σ' H2 e' (B ++ tmp) x _ e2 _ q2 hgd fun Z3 H3 σ3 q3 l3 f3 => ?_
          have fk : Fx fx σ' σ3 := fun j hj => f3 j (by
            have := List.all_eq_true.mp hfx j hj
            simpa using this)
          refine s2 Z3 σ3 H3 e2 (B ++ tmp) _ q3 ?_
          cases h4 : f e2 with
          | nx e4 => rw [h4] at po'; exact fun Z4 H4 σ4 q4 k4 => ⟨Z4, e4, q4, PostS.mono (fk.trans k4) po'⟩
          | ct e4 => rw [h4] at po'; exact fun Z4 H4 σ4 q4 k4 => ⟨Z4, e4, q4, PostS.mono (fk.trans k4) po'⟩
          | bk e4 => rw [h4] at po'; exact fun Z4 H4 σ4 q4 k4 => po' Z4 H4 σ4 q4.drop (fk.trans k4)
          | rt d e4 => rw [h4] at po'; exact fun Z4 H4 σ4 v q4 k4 => po' Z4 H4 σ4 v (SR.drop (l := B) (q4.perm (List.perm_middle (a := (v, d))).symm)) (fk.trans k4)
          | exn x e4 => rw [h4] at po'; exact fun Z4 H4 σ4 c o q4 k4 xr => po' Z4 H4 σ4 c o q4.drop (fk.trans k4) xr
          | stuck => rw [h4] at po'; exact po'.elim
      · have e0 : i = ds.length := by omega
        subst e0
        rw [List.drop_length] at po'
        exact .inl ⟨its.stop Z' H' σ' e' tmp q' trivial, po' Z' H' σ' q'.drop .refl⟩
end
end Tr

set_option maxHeartbeats 2000000
/-! The tree layer 7: comprehensions. -/
namespace Tr
open PySem PySem.Spec PyProof.Rows L2
/-! ### a comprehension's own slots, emptied and restored -/
def wipeE (e : DE) : List Nat → DE
  | [] => e
  | v :: vs => (wipeE e vs).set v none
def restE (e : DE) : List Nat → DE → DE
  | [], e2 => e2
  | v :: vs, e2 => restE e vs (match (wipeE e vs).getD v none with
    | some d => e2.set v (some d)
    | none => e2)
theorem slots_sig : ∀ {σ : Sg} {e : DE} {v : Nat} {x : Option V}, e.getD v none = none → slots (σ.set v x) e = slots σ e ∧ (fits σ e → fits (σ.set v x) e)
  | [], [], v, x, _ => ⟨rfl, fun h => h⟩
  | [], _ :: _, v, x, _ => ⟨rfl, fun h => h⟩
  | _ :: _, [], v, x, _ => by
    cases v <;> exact ⟨rfl, fun h => h.elim⟩
  | y :: σ, some d :: e, 0, x, h => by simp at h
  | y :: σ, none :: e, 0, x, _ => ⟨rfl, fun h => h⟩
  | y :: σ, some d :: e, v + 1, x, h => by
    obtain ⟨h1, h2⟩ := slots_sig (σ := σ) (e := e) (v := v) (x := x) (by simpa using h)
    exact ⟨congrArg ((y.getD .non, d) :: ·) h1, fun q => ⟨q.1, h2 q.2⟩⟩
  | y :: σ, none :: e, v + 1, x, h => slots_sig (σ := σ) (e := e) (v := v) (x := x) (by simpa using h)
section
variable {K : PySem.W.Frag} {Z : AS} {H : Hp} {σ : Sg} {e : DE} {tmp : Bag}
theorem SR.sig {v : Nat} {x : Option V} (h : SR K Z H σ e tmp) (hv : e.getD v none = none) : SR K Z H (σ.set v x) e tmp := by
  obtain ⟨h1, h2⟩ := slots_sig (σ := σ) (x := x) hv
  exact ⟨h2 h.fit, by rw [h1]; exact h.hold⟩
theorem getD_set_ne {e : DE} {i j : Nat} {x : Option D} (h : i ≠ j) : (e.set i x).getD j none = e.getD j none := by
  rw [List.getD_eq_getElem?_getD, List.getD_eq_getElem?_getD, List.getElem?_set_ne h]
theorem getD_set_none {e : DE} {i : Nat} : (e.set i none).getD i none = none := by
  rw [List.getD_eq_getElem?_getD]
  by_cases h : i < e.length
  · rw [List.getElem?_set_self h]; rfl
  · rw [List.getElem?_eq_none (by simpa using h)]; rfl
theorem wipeE_none : ∀ {vs : List Nat} {e : DE} {v : Nat}, v ∈ vs → (wipeE e vs).getD v none = none
  | [], _, _, h => by cases h
  | w :: vs, e, v, h => by
    show ((wipeE e vs).set w none).getD v none = none
    by_cases hw : w = v
    · subst hw; exact getD_set_none
    · rw [getD_set_ne hw]
      exact wipeE_none ((List.mem_cons.mp h).resolve_left fun q => hw q.symm)
/-- what stood in the slots is put aside, and can be put back -/
theorem SR.wipes : ∀ (vs : List Nat) {e : DE} {tmp : Bag}, SR K Z H σ e tmp → ∃ R : Bag, SR K Z H (wipe σ vs) (wipeE e vs) (R ++ tmp) ∧
    ∀ Z' H' e2 tmp2, SR K Z' H' (wipe σ vs) e2 (R ++ tmp2) → (∀ v ∈ vs, e2.getD v none = none) → e2.length = e.length → SR K Z' H' σ (restE e vs e2) tmp2
  | [], e, tmp, h => ⟨[], h, fun _ _ _ _ q _ _ => q⟩
  | v :: vs, e, tmp, h => by
    obtain ⟨R, h1, h2⟩ := SR.wipes vs h
    cases g : (wipeE e vs).getD v none with
    | none =>
      refine ⟨R, ?_, fun Z' H' e2 tmp2 q hn hl => ?_⟩
      · show SR K Z H ((wipe σ vs).set v none) ((wipeE e vs).set v none) _
        exact (h1.clear v).sig getD_set_none
      · show SR K Z' H' σ (restE e vs (match (wipeE e vs).getD v none with
          | some d => e2.set v (some d)
          | none => e2)) tmp2
        rw [g]
        have q : SR K Z' H' ((wipe σ vs).set v none) e2 (R ++ tmp2) := q
        refine h2 Z' H' e2 tmp2 ?_ (fun u hu => hn u (List.mem_cons_of_mem _ hu)) hl
        cases gs : (wipe σ vs)[v]? with
        | none =>
          rw [List.set_eq_of_length_le (List.getElem?_eq_none_iff.mp gs)] at q; exact q
        | some x =>
          have q2 := q.sig (x := x) (hn v List.mem_cons_self)
          rw [List.set_set, set_same gs] at q2
          exact q2
    | some d =>
      have gi := getD_some g
      obtain ⟨w, hw, h3⟩ := h1.out gi
      refine ⟨(w, d) :: R, ?_, fun Z' H' e2 tmp2 q hn hl => ?_⟩
      · show SR K Z H ((wipe σ vs).set v none) ((wipeE e vs).set v none) _
        exact h3.sig getD_set_none
      · show SR K Z' H' σ (restE e vs (match (wipeE e vs).getD v none with
          | some d => e2.set v (some d)
          | none => e2)) tmp2
        rw [g]
        have q : SR K Z' H' ((wipe σ vs).set v none) e2 ((w, d) :: (R ++ tmp2)) := q
        have hvl : v < e2.length := by
          have l1 := q.fit.len
          have l2 := h1.fit.len
          rw [List.length_set] at l1
          rw [← l1, l2]
          exact (List.getElem?_eq_some_iff.mp gi).1
        have hvn : e2[v]? = some none := by
          have := hn v List.mem_cons_self
          rw [List.getD_eq_getElem?_getD, List.getElem?_eq_getElem hvl] at this
          rw [List.getElem?_eq_getElem hvl]
          exact congrArg some this
        have q2 := q.put hvn
        rw [List.set_set, set_same hw] at q2
        refine h2 Z' H' _ tmp2 q2 (fun u hu => ?_) (by rw [List.length_set]; exact hl)
        have huv : v ≠ u := by
          rintro rfl
          have := wipeE_none (e := e) hu
          rw [g] at this; cases this
        rw [getD_set_ne huv]
        exact hn u (List.mem_cons_of_mem _ hu)
theorem SR.wipe1 : ∀ (vs : List Nat) {e : DE} {tmp : Bag}, SR K Z H σ e tmp → SR K Z H (wipe σ vs) (wipeE e vs) tmp
  | vs, e, tmp, h => by
    obtain ⟨R, h1, _⟩ := SR.wipes vs h
    exact h1.drop
theorem wipeE_length : ∀ (vs : List Nat) (e : DE), (wipeE e vs).length = e.length
  | [], e => rfl
  | v :: vs, e => by show ((wipeE e vs).set v none).length = _; rw [List.length_set, wipeE_length vs e]
/-- slots that differ at the own slots alone are the same when wiped -/
theorem wipe_get : ∀ (vs : List Nat) (σ : Sg) (j : Nat), (wipe σ vs)[j]? = if vs.contains j = true ∧ j < σ.length then some none else σ[j]?
  | [], σ, j => by simp [wipe]
  | v :: vs, σ, j => by
    show ((wipe σ vs).set v none)[j]? = _
    by_cases hj : v = j
    · subst hj
      by_cases hl : v < σ.length
      · rw [List.getElem?_set_self (by rw [wipe_length]; exact hl)]
        simp [hl]
      · rw [List.getElem?_eq_none (by rw [List.length_set, wipe_length]; omega)]
        simp [hl]
    · rw [List.getElem?_set_ne hj, wipe_get vs σ j]
      have : (v :: vs).contains j = vs.contains j := by
        simp only [List.contains_cons]
        have : (j == v) = false := by simpa using fun h : j = v => hj h.symm
        rw [this, Bool.false_or]
      rw [this]
theorem wipe_same {vs : List Nat} {σ σ' : Sg} (hl : σ'.length = σ.length) (h : ∀ j, vs.contains j = false → σ'[j]? = σ[j]?) : wipe σ' vs = wipe σ vs := by
  refine List.ext_getElem? fun j => ?_
  rw [wipe_get, wipe_get, hl]
  by_cases hc : vs.contains j = true
  · by_cases hj : j < σ.length
    · rw [if_pos ⟨hc, hj⟩, if_pos ⟨hc, hj⟩]
    · rw [if_neg fun q => hj q.2, if_neg fun q => hj q.2, List.getElem?_eq_none (by omega), List.getElem?_eq_none (by omega)]
  · have hc' : vs.contains j = false := by simpa using hc
    rw [h j hc']
theorem wipe_wipe (vs : List Nat) (σ : Sg) : wipe (wipe σ vs) vs = wipe σ vs := wipe_same (wipe_length σ vs) fun j hj => by
  rw [wipe_get, if_neg fun q => by rw [hj] at q; cases q.1]
end

/-! ### [elt for tg in iter if ..] -/
open Classical in
noncomputable def lcL (C : DE → Prop) (vs : List Nat) (g : D → DE → Option DE) (ft : DE → Res Bool) (fe : DE → Res D) : List D → DE → Option (List D × DE)
  | [], e => some ([], e)
  | d :: ds, e => if C e then (match g d e with
    | some e1 => (match ft e1 with
      | .ok true e2 => (match fe e2 with
        | .ok y e3 => (lcL C vs g ft fe ds (wipeE e3 vs)).map fun p => (y :: p.1, p.2)
        | _ => none)
      | .ok false e2 => lcL C vs g ft fe ds (wipeE e2 vs)
      | _ => none)
    | none => none) else none
def tYesF : DE → Res Bool := fun e => .ok true e
open Classical in
noncomputable def eLc0 (vs : List Nat) (fi : DE → Res Wk) (g : D → DE → Option DE) (ft : DE → Res Bool) (fe : DE → Res D) : DE → Res D := fun e => (fi e).bind fun k e1 =>
  if k.ds.length ≤ sizeLine ∧ (∀ p, k.at_ = some p → vs.contains p.1 = false) then (match lcL k.C vs g ft fe k.ds (wipeE e1 vs) with
    | some (acc, e2) => if k.C e2 then .ok (.lst true acc) (restE e1 vs e2) else .stuck
    | none => .stuck) else .stuck
/-- the same, sealed against unfolding -/
noncomputable def eLc (vs : List Nat) (fi : DE → Res Wk) (g : D → DE → Option DE) (ft : DE → Res Bool) (fe : DE → Res D) : DE → Res D := Classical.choose (p := fun f => f = eLc0 vs fi g ft fe) ⟨_, rfl⟩
theorem eLc_eq (vs : List Nat) (fi : DE → Res Wk) (g : D → DE → Option DE) (ft : DE → Res Bool) (fe : DE → Res D) : eLc vs fi g ft fe = eLc0 vs fi g ft fe := Classical.choose_spec (p := fun f => f = eLc0 vs fi g ft fe) ⟨_, rfl⟩
/-- in a comprehension's block nothing is raised -/
abbrev W0 : XW := fun _ _ _ _ => False
structure VTs (X : Cx) (W : XW) (ifs : List Expr) (f : DE → Res Bool) : Prop where
  ex : PTs X ifs (tFT X.K W f)
section
variable {X : Cx} {W : XW} {fx : List Nat} {a b c e tg : Expr} {es : List Expr} {pos : Pos}
theorem vts_nil : VTs X W [] tYesF := ⟨⟨fun pins s σ H Q I h => by
  obtain ⟨Z, e, tmp, sr, po⟩ := h
  exact wpAny_tests_nil ⟨H, I, po Z H sr⟩⟩⟩
theorem vts_one {f : DE → Res Bool} (h : VT X W c f) : VTs X W [c] f := ⟨pts_one h.pt⟩
def tFG (K : PySem.W.Frag) (tgs : List Nat) (g : D → DE → Option DE) : TG := fun v σ H Q => ∃ Z e tmp d e', SR K Z H σ e ((v, d) :: tmp) ∧ g d e = some e' ∧
  (∀ Z' H' σ', SR K Z' H' σ' e' tmp → σ'.length = σ.length → (∀ j, tgs.contains j = false → σ'[j]? = σ[j]?) → Q σ' H')
theorem VG.pg {tgs : List Nat} {g : D → DE → Option DE} (h : VG X tgs tg g) : PG X tg (tFG X.K tgs g) := by
  obtain ⟨t, p, s⟩ := h.ex
  exact ⟨fun pins s0 σ H v u Q I r ⟨Z, e, tmp, d, e', sr, hg, k⟩ => p.run pins s0 σ H v u Q I r (s Z σ H e tmp v d e' Q sr hg k)⟩
theorem Hold.app1 {K : PySem.W.Frag} {Z : AS} {H : Hp} {a : Addr} {ds : List D} {v : V} {d : D} {B : Bag} (h : Hold K [] Z H ((v, d) :: (.ref a, .lst true ds) :: B)) :
    ∃ vs, H a = some (.lst vs) ∧ vs.length = ds.length ∧ Hold K [] Z (upd H a (.lst (vs ++ [v]))) ((.ref a, .lst true (ds ++ [d])) :: B) := by
  obtain ⟨a', vs, ev, hq, hl, h1⟩ := Hold.takeL (h.perm (List.Perm.swap _ _ _))
  cases ev
  refine ⟨vs, hq, hl, Hold.layL (ds := ds ++ [d]) (h1.perm ?_) (by simp [hl]) (by simp)⟩
  have e1 : (vs ++ [v]).zip (ds ++ [d]) = vs.zip ds ++ [(v, d)] := List.zip_append hl
  rw [e1, List.append_assoc]
  exact List.Perm.refl _
open Classical in
theorem snd_lc {vs tgs : List Nat} {K : PySem.W.Frag} {ti : TI} {fi : DE → Res Wk} {g : D → DE → Option DE} {ft : DE → Res Bool} {fe : DE → Res D} (hi : SndI K W ti fi) (hsub : tgs.all (fun i => vs.contains i) = true) :
    SndE K W (tLc ti (tFG K tgs g) (tFT K W0 ft) (tF K W0 fe) vs) (eLc vs fi g ft fe) := by
  intro Z σ H e tmp Q sr po
  refine hi Z σ H e tmp _ sr ?_
  rw [eLc_eq] at po
  unfold eLc0 at po
  cases h1 : fi e with
  | stuck => rw [h1] at po; exact po
  | exn x e1 => rw [h1] at po; exact po
  | ok k e1 =>
    rw [h1, Res.bind_ok] at po
    obtain ⟨ds, at_⟩ := k
    intro Z1 H1 J B q1 its D hD
    by_cases hz : ds.length ≤ sizeLine ∧ (∀ p, at_ = some p → vs.contains p.1 = false)
    · have po : PostE K W σ tmp Q (if ds.length ≤ sizeLine ∧ (∀ p, at_ = some p → vs.contains p.1 = false) then (match lcL (Wk.C ⟨ds, at_⟩) vs g ft fe ds (wipeE e1 vs) with
        | some (acc, e2) => if Wk.C ⟨ds, at_⟩ e2 then .ok (.lst true acc) (restE e1 vs e2) else .stuck
        | none => .stuck) else .stuck) := po
      rw [if_pos hz] at po
      cases hl : lcL (Wk.C ⟨ds, at_⟩) vs g ft fe ds (wipeE e1 vs) with
      | none => rw [hl] at po; exact po.elim
      | some p =>
        obtain ⟨tot, eF⟩ := p
        rw [hl] at po
        have po : PostE K W σ tmp Q (if Wk.C ⟨ds, at_⟩ eF then .ok (.lst true tot) (restE e1 vs eF) else .stuck) := po
        by_cases hC : Wk.C ⟨ds, at_⟩ eF
        · rw [if_pos hC] at po
          have its : Yld K B J ds (Wk.S ⟨ds, at_⟩ σ) := its
          -- where the iterator stays good
          have good : ∀ e', Wk.C ⟨ds, at_⟩ e' → Wk.S ⟨ds, at_⟩ σ (wipe σ vs) e' := by
            intro e' hc
            cases at_ with
            | none => trivial
            | some p =>
              obtain ⟨i, d⟩ := p
              refine ⟨?_, hc⟩
              have := hz.2 (i, d) rfl
              rw [wipe_get, if_neg fun q => by rw [this] at q; cases q.1]
          obtain ⟨R, q2, back⟩ := q1.wipes vs
          -- the new list is laid
          have q3 : SR K Z1 (upd H1 D (.lst [])) (wipe σ vs) (wipeE e1 vs) ((.ref D, .lst true []) :: (B ++ (R ++ tmp))) := by
            have b := (q2.perm (List.perm_append_comm_assoc R B tmp)).bag
            exact .of q2.fit (Hold.layL (vs := []) (ds := []) (b.new hD) rfl (by simp))
          refine ⟨fun i m H' => m = ds.length - i ∧ i ≤ ds.length ∧ ∃ Z' e' acc, SR K Z' H' (wipe σ vs) e' ((.ref D, .lst true acc) :: (B ++ (R ++ tmp))) ∧ (∀ v ∈ vs, e'.getD v none = none) ∧ e'.length = e1.length ∧ acc.length ≤ i ∧
            (lcL (Wk.C ⟨ds, at_⟩) vs g ft fe (ds.drop i) e').map (fun p => (acc ++ p.1, p.2)) = some (tot, eF), ⟨ds.length, by simp, Nat.zero_le _, Z1, _, [], q3, fun v hv => wipeE_none hv, wipeE_length vs e1, Nat.le_refl _, by rw [List.drop_zero, hl]; rfl⟩, ?_⟩
          rintro i m H' ⟨rfl, hi, Z', e', acc, q', hn', hle', hac, hlc⟩
          by_cases hlt : i < ds.length
          · rw [List.drop_eq_getElem_cons hlt] at hlc
            have hd : ds[i]? = some ds[i] := List.getElem?_eq_getElem hlt
            simp only [lcL] at hlc
            by_cases hCe : Wk.C ⟨ds, at_⟩ e'
            · rw [if_pos hCe] at hlc
              have q0 : SR K Z' H' (wipe σ vs) e' (B ++ ((.ref D, .lst true acc) :: (R ++ tmp))) := q'.perm (List.perm_middle (a := (V.ref D, Tr.D.lst true acc))).symm
              obtain ⟨go, yl⟩ := its.go Z' H' (wipe σ vs) e' _ i ds[i] q0 (good e' hCe) hd
              refine .inr ⟨go, fun H3 => ∃ Z3 e3 acc3, SR K Z3 H3 (wipe σ vs) e3 ((.ref D, .lst true acc3) :: (B ++ (R ++ tmp))) ∧ (∀ v ∈ vs, e3.getD v none = none) ∧ e3.length = e1.length ∧ acc3.length ≤ i + 1 ∧
                (lcL (Wk.C ⟨ds, at_⟩) vs g ft fe (ds.drop (i + 1)) e3).map (fun p => (acc3 ++ p.1, p.2)) = some (tot, eF), fun H3 h => ⟨ds.length - (i + 1), by omega, rfl, hlt, h⟩, fun x H2 y => ?_⟩
              obtain ⟨Z2, qy⟩ := yl x H2 y
              have qy : SR K Z2 H2 (wipe σ vs) e' ((x, ds[i]) :: (.ref D, .lst true acc) :: (B ++ (R ++ tmp))) := qy.perm (List.Perm.cons _ (List.perm_middle (a := (V.ref D, Tr.D.lst true acc))))
              cases hgd : g ds[i] e' with
              | none => rw [hgd] at hlc; cases hlc
              | some e2 =>
                rw [hgd] at hlc
                refine ⟨Z2, e', _, ds[i], e2, qy, hgd, fun Z3 H3 σ3 q3 l3 f3 => ?_⟩
                have hw : wipe σ3 vs = wipe σ vs := by
                  rw [← wipe_wipe vs σ]
                  refine wipe_same l3 fun j hj => f3 j ?_
                  cases hc : tgs.contains j with
                  | false => rfl
                  | true =>
                    have hm : j ∈ tgs := by simpa using hc
                    have := List.all_eq_true.mp hsub j hm
                    rw [hj] at this; cases this
                refine ⟨hw, Z3, e2, _, q3, ?_⟩
                have hlc : Option.map (fun p => (acc ++ p.1, p.2)) (match ft e2 with
                  | .ok true e2 => (match fe e2 with
                    | .ok y e3 => (lcL (Wk.C ⟨ds, at_⟩) vs g ft fe (ds.drop (i + 1)) (wipeE e3 vs)).map fun p => (y :: p.1, p.2)
                    | _ => none)
                  | .ok false e2 => lcL (Wk.C ⟨ds, at_⟩) vs g ft fe (ds.drop (i + 1)) (wipeE e2 vs)
                  | _ => none) = some (tot, eF) := hlc
                cases h4 : ft e2 with
                | stuck => rw [h4] at hlc; cases hlc
                | exn x e4 => rw [h4] at hlc; cases hlc
                | ok t e4 =>
                  rw [h4] at hlc
                  intro Z4 H4 q4
                  cases t with
                  | false =>
                    rw [if_neg Bool.false_ne_true]
                    have hlc : Option.map (fun p => (acc ++ p.1, p.2)) (lcL (Wk.C ⟨ds, at_⟩) vs g ft fe (ds.drop (i + 1)) (wipeE e4 vs)) = some (tot, eF) := hlc
                    refine ⟨Z4, wipeE e4 vs, acc, by rw [← hw]; exact q4.wipe1 vs, fun v hv => wipeE_none hv, ?_, by omega, hlc⟩
                    rw [wipeE_length, ← q4.fit.len, l3, wipe_length, q1.fit.len]
                  | true =>
                    rw [if_pos rfl]
                    refine ⟨Z4, e4, _, q4, ?_⟩
                    have hlc : Option.map (fun p => (acc ++ p.1, p.2)) (match fe e4 with
                      | .ok y e3 => (lcL (Wk.C ⟨ds, at_⟩) vs g ft fe (ds.drop (i + 1)) (wipeE e3 vs)).map fun p => (y :: p.1, p.2)
                      | _ => none) = some (tot, eF) := hlc
                    cases h5 : fe e4 with
                    | stuck => rw [h5] at hlc; cases hlc
                    | exn x e5 => rw [h5] at hlc; cases hlc
                    | ok y e5 =>
                      rw [h5] at hlc
                      intro Z5 H5 v5 q5
                      obtain ⟨vs5, hq5, hl5, h6⟩ := Hold.app1 q5.bag
                      refine ⟨vs5, hq5, by rw [hl5]; omega, Z5, wipeE e5 vs, acc ++ [y], ?_, fun v hv => wipeE_none hv, ?_, by simp; omega, ?_⟩
                      · rw [← hw]
                        exact SR.wipe1 vs (.of q5.fit h6)
                      · rw [wipeE_length, ← q5.fit.len, l3, wipe_length, q1.fit.len]
                      · have hlc : Option.map (fun p => (acc ++ p.1, p.2)) ((lcL (Wk.C ⟨ds, at_⟩) vs g ft fe (ds.drop (i + 1)) (wipeE e5 vs)).map fun p => (y :: p.1, p.2)) = some (tot, eF) := hlc
                        rw [Option.map_map] at hlc
                        rw [← hlc]
                        congr 1
                        funext p
                        simp
            · rw [if_neg hCe] at hlc; cases hlc
          · have e0 : i = ds.length := by omega
            subst e0
            rw [List.drop_length] at hlc
            simp only [lcL, Option.map_some, List.append_nil, Option.some.injEq, Prod.mk.injEq] at hlc
            obtain ⟨rfl, rfl⟩ := hlc
            have q0 : SR K Z' H' (wipe σ vs) e' (B ++ ((.ref D, .lst true acc) :: (R ++ tmp))) := q'.perm (List.perm_middle (a := (V.ref D, Tr.D.lst true acc))).symm
            refine .inl ⟨its.stop Z' H' (wipe σ vs) e' _ q0 (good e' hC), po Z' H' _ ?_⟩
            refine back Z' H' e' _ ?_ hn' hle'
            have q6 : SR K Z' H' (wipe σ vs) e' ((.ref D, .lst true acc) :: (R ++ tmp)) := q0.drop
            exact q6.perm (List.perm_middle (a := (V.ref D, Tr.D.lst true acc))).symm
        · rw [if_neg hC] at po; exact po.elim
    · have po : PostE K W σ tmp Q (if ds.length ≤ sizeLine ∧ (∀ p, at_ = some p → vs.contains p.1 = false) then (match lcL (Wk.C ⟨ds, at_⟩) vs g ft fe ds (wipeE e1 vs) with
        | some (acc, e2) => if Wk.C ⟨ds, at_⟩ e2 then .ok (.lst true acc) (restE e1 vs e2) else .stuck
        | none => .stuck) else .stuck) := po
      rw [if_neg hz] at po; exact po.elim
theorem ve_lc {elt iter : Expr} {ifs : List Expr} {scope : Scope} {own : List (Str × Nat)} {tgs : List Nat} {fi : DE → Res Wk} {g : D → DE → Option DE} {ft : DE → Res Bool} {fe : DE → Res D} (hc : X.calm = true) (hN : X.N.Nodup) (hi : VI X W tg iter fi) (ok : BlkOk X.N X.env.scope scope own)
    (hg : ∀ (s : Shared) (H : Hp) (C : Addr) (cl : List (Str × Addr)) (fp : List Addr), VG (X.blk s H scope (compEnvC scope cl C X.env) fp) tgs tg g) (ht : ∀ (s : Shared) (H : Hp) (C : Addr) (cl : List (Str × Addr)) (fp : List Addr), VTs (X.blk s H scope (compEnvC scope cl C X.env) fp) W0 ifs ft)
    (he : ∀ (s : Shared) (H : Hp) (C : Addr) (cl : List (Str × Addr)) (fp : List Addr), VE (X.blk s H scope (compEnvC scope cl C X.env) fp) W0 elt fe) (hsub : tgs.all (fun i => (own.map (·.2)).contains i) = true := by rfl) (hs : ∀ x, foldedSetIterable iter X.env x = pure x := by intro _; rfl) :
    VE X W (.ListComp elt [⟨tg, iter, ifs, 0⟩] scope pos) (eLc (own.map (·.2)) fi g ft fe) := by
  obtain ⟨t0, p0, s0⟩ := hi.ex
  exact ⟨_, pe_lc hc hN p0 ok (fun s H C cl fp => (hg s H C cl fp).pg) (fun s H C cl fp => (ht s H C cl fp).ex) (fun s H C cl fp => (he s H C cl fp).pe) hs, snd_lc s0 hsub⟩
theorem vs_setLc (i : Nat) {y : Str} {py spos : Pos} {elt iter : Expr} {ifs : List Expr} {scope : Scope} {own : List (Str × Nat)} {tgs : List Nat} {fi : DE → Res Wk} {g : D → DE → Option DE} {ft : DE → Res Bool} {fe : DE → Res D} (hc : X.calm = true) (hN : X.N.Nodup) (hi : VI X W tg iter fi) (ok : BlkOk X.N X.env.scope scope own)
    (hg : ∀ (s : Shared) (H : Hp) (C : Addr) (cl : List (Str × Addr)) (fp : List Addr), VG (X.blk s H scope (compEnvC scope cl C X.env) fp) tgs tg g) (ht : ∀ (s : Shared) (H : Hp) (C : Addr) (cl : List (Str × Addr)) (fp : List Addr), VTs (X.blk s H scope (compEnvC scope cl C X.env) fp) W0 ifs ft)
    (he : ∀ (s : Shared) (H : Hp) (C : Addr) (cl : List (Str × Addr)) (fp : List Addr), VE (X.blk s H scope (compEnvC scope cl C X.env) fp) W0 elt fe) (hsub : tgs.all (fun i => (own.map (·.2)).contains i) = true := by rfl) (hfx : fx.contains i = false := by rfl)
    (hy : X.N[i]? = some y := by rfl) (hyl : X.env.scope.names.lookup y = some .local := by rfl) (hsw : swapsWith (.ListComp elt [⟨tg, iter, ifs, 0⟩] scope pos) (some (.Name y py)) spos.line X.env = pure true := by exact sw_true rfl rfl rfl (by decide +kernel)) (hs : ∀ x, foldedSetIterable iter X.env x = pure x := by intro _; rfl) :
    VS X W fx (.Assign [.Name y py] (.ListComp elt [⟨tg, iter, ifs, 0⟩] scope pos) spos) (sSet i (eLc (own.map (·.2)) fi g ft fe)) := by
  obtain ⟨t0, p0, s0⟩ := hi.ex
  exact ⟨_, ps_setLc hc hN hy hyl hsw p0 ok (fun s H C cl fp => (hg s H C cl fp).pg) (fun s H C cl fp => (ht s H C cl fp).ex) (fun s H C cl fp => (he s H C cl fp).pe) hs, snd_set (snd_lc s0 hsub) hfx⟩
end
end Tr

set_option maxHeartbeats 2000000
/-! The tree layer 8: what the operators do, by trees. -/
namespace Tr
open PySem PySem.Spec PyProof.Rows L2
section
variable {K : PySem.W.Frag} {Z : AS} {H : Hp} {B : Bag}
theorem nf_all {ds : List D} (h : ds.all (fun d => !d.flag) = true) : ∀ d ∈ ds, d.flag = false := fun d hd => by
  have := List.all_eq_true.mp h d hd
  simpa using this
theorem Hold.addL : ∀ {ds : List D} {vs : List V} {fp : List Addr}, RpL K Z H ds vs fp → (∀ d ∈ ds, d.flag = false) → Hold K [] Z H B → Hold K [] Z H (vs.zip ds ++ B)
  | [], vs, fp, h, _, b => by obtain ⟨rfl, _⟩ := RpL_nil.mp h; exact b
  | d :: ds, vs, fp, h, hf, b => by
    obtain ⟨v, vr, f1, f2, rfl, _, r1, r2⟩ := RpL_cons.mp h
    have e0 := r1.noflag (hf d List.mem_cons_self)
    subst e0
    exact (Hold.addL r2 (fun x hx => hf x (List.mem_cons_of_mem _ hx)) b).add r1
/-- a new list of things that may be read -/
theorem Hold.mkL {ds : List D} {vs : List V} {fp : List Addr} {p : Addr} (b : Hold K [] Z H B) (r : RpL K Z H ds vs fp) (hf : ∀ d ∈ ds, d.flag = false) (hp : H p = none) : Hold K [] Z (upd H p (.lst vs)) ((.ref p, .lst true ds) :: B) :=
  Hold.layL ((Hold.addL r hf b).new hp) r.length (by simp)
theorem Hold.mkT {ds : List D} {vs : List V} {fp : List Addr} {p : Addr} (b : Hold K [] Z H B) (r : RpL K Z H ds vs fp) (hf : ∀ d ∈ ds, d.flag = false) (hp : H p = none) : Hold K [] Z (upd H p (.tup vs)) ((.ref p, .tup ds) :: B) :=
  Hold.mkTup (Hold.addL r hf b) hp r.length hf
theorem Rp.lst_get {o : Bool} {ds : List D} {v : V} {fp : List Addr} (h : Rp K Z H (.lst o ds) v fp) : ∃ a vs f, v = .ref a ∧ H a = some (.lst vs) ∧ RpL K Z H ds vs f := by
  rcases Rp_lst.mp h with ⟨_, _, a, vs, ev, _, q, r⟩ | ⟨_, a, vs, fp', ev, _, _, q, r⟩
  · exact ⟨a, vs, _, ev, q, r⟩
  · exact ⟨a, vs, _, ev, q, r⟩
theorem RpL.nf {ds : List D} {vs : List V} (h : RpL K Z H ds vs []) : ∀ d ∈ ds, d.flag = false := by
  intro d hd
  obtain ⟨i, hi⟩ := List.getElem?_of_mem hd
  obtain ⟨v, _, r⟩ := h.ats hi
  cases d with
  | lst o _ =>
    rcases Rp_lst.mp r with ⟨rfl, _⟩ | ⟨_, _, _, _, _, e3, _⟩
    · rfl
    · cases e3
  | ins o _ _ _ =>
    rcases Rp_ins.mp r with ⟨rfl, _⟩ | ⟨_, _, _, _, _, _, e3, _⟩
    · rfl
    · cases e3
  | dct o _ _ =>
    rcases Rp_dct.mp r with ⟨rfl, _⟩ | ⟨_, _, _, _, _, e3, _⟩
    · rfl
    · cases e3
  | _ => rfl
end
/-- an int's operation -/
def dI (C : Int → Int → Bool) (g : Int → Int → D) : D → D → Rs D
  | .int i, .int j => if C i j = true then .ok (g i j) else .stuck
  | _, _ => .stuck
def dI0 (g : Int → Int → D) : D → D → Rs D
  | .int i, .int j => .ok (g i j)
  | _, _ => .stuck
theorem PostV.int {K : PySem.W.Frag} {Z : AS} {H : Hp} {B : Bag} {Q : VK} {W : XK} {i : Int} (b : Hold K [] Z H B) (po : PostV K W B Q (.ok (.int i))) : Q (.int i) H := po Z H _ (b.add (Rp_int.mpr ⟨rfl, rfl⟩))
theorem PostV.bl {K : PySem.W.Frag} {Z : AS} {H : Hp} {B : Bag} {Q : VK} {W : XK} {i : Bool} (b : Hold K [] Z H B) (po : PostV K W B Q (.ok (.bl i))) : Q (.bl i) H := po Z H _ (b.add (Rp_bl.mpr ⟨rfl, rfl⟩))
theorem PostV.str {K : PySem.W.Frag} {Z : AS} {H : Hp} {B : Bag} {Q : VK} {W : XK} {i : Str} (b : Hold K [] Z H B) (po : PostV K W B Q (.ok (.str i))) : Q (.str i) H := po Z H _ (b.add (Rp_str.mpr ⟨rfl, rfl⟩))
section
variable {K : PySem.W.Frag}
theorem os_I {C : Int → Int → Prop} {C' : Int → Int → Bool} {g : Int → Int → Int} (hC : ∀ i j, C' i j = true → C i j) : OpS K (rI C fun i j => .int (g i j)) (dI C' fun i j => .int (g i j)) := by
  intro Z H B Q W d1 v1 f1 d2 v2 f2 b r1 r2 po
  unfold dI at po
  split at po
  · rename_i i j
    obtain ⟨rfl, _⟩ := Rp_int.mp r1
    obtain ⟨rfl, _⟩ := Rp_int.mp r2
    by_cases h : C' i j = true
    · rw [if_pos h] at po
      exact ⟨i, j, rfl, rfl, hC i j h, po.int b⟩
    · rw [if_neg h] at po; exact po.elim
  · exact po.elim
theorem os_I0 {g : Int → Int → Int} : OpS K (rI0 fun i j => .int (g i j)) (dI0 fun i j => .int (g i j)) := by
  intro Z H B Q W d1 v1 f1 d2 v2 f2 b r1 r2 po
  unfold dI0 at po
  split at po
  · rename_i i j
    obtain ⟨rfl, _⟩ := Rp_int.mp r1
    obtain ⟨rfl, _⟩ := Rp_int.mp r2
    exact ⟨i, j, rfl, rfl, po.int b⟩
  · exact po.elim
/-! ### + -/
def rAdd (K : PySem.W.Frag) : R2 := fun x y H Q => rI0 (fun i j => .int (i + j)) x y H Q ∨ (rCat x y H Q ∨ (rCatA K x y H Q ∨ ∃ i j, x = .str i ∧ y = .str j ∧ i.length + j.length ≤ sizeLine ∧ Q (.str (i ++ j)) H))
theorem op_addA {X : Cx} : OpR X (binaryOp .Add) (rAdd X.K) := op_add.or (op_cat.or (op_catA.or op_add_str))
def dAdd : D → D → Rs D
  | .int i, .int j => .ok (.int (i + j))
  | .str i, .str j => if i.length + j.length ≤ sizeLine then .ok (.str (i ++ j)) else .stuck
  | .tup a, .tup b => if a.length + b.length ≤ sizeLine then .ok (.tup (a ++ b)) else .stuck
  | .lst _ a, .lst _ b => if (a.all (fun d => !d.flag) && b.all (fun d => !d.flag)) = true ∧ a.length + b.length ≤ sizeLine then .ok (.lst true (a ++ b)) else .stuck
  | _, _ => .stuck
theorem os_add : OpS K (rAdd K) dAdd := by
  intro Z H B Q W d1 v1 f1 d2 v2 f2 b r1 r2 po
  unfold dAdd at po
  split at po
  · rename_i i j
    obtain ⟨rfl, _⟩ := Rp_int.mp r1
    obtain ⟨rfl, _⟩ := Rp_int.mp r2
    exact .inl ⟨i, j, rfl, rfl, po.int b⟩
  · rename_i i j
    obtain ⟨rfl, _⟩ := Rp_str.mp r1
    obtain ⟨rfl, _⟩ := Rp_str.mp r2
    by_cases h : i.length + j.length ≤ sizeLine
    · rw [if_pos h] at po
      exact .inr (.inr (.inr ⟨i, j, rfl, rfl, h, po.str b⟩))
    · rw [if_neg h] at po; exact po.elim
  · rename_i ds es
    obtain ⟨_, a1, vs, rfl, q1, l1⟩ := Rp_tup.mp r1
    obtain ⟨_, a2, ws, rfl, q2, l2⟩ := Rp_tup.mp r2
    by_cases h : ds.length + es.length ≤ sizeLine
    · rw [if_pos h] at po
      refine .inr (.inr (.inl ⟨a1, a2, vs, ws, rfl, rfl, q1.seq, q2.seq, by rw [l1.length, l2.length]; exact h, fun e => ?_, fun _ e => ?_, fun _ _ p hp => ?_⟩))
      · have e1 : ds = [] := by
          have := l1.length
          rw [e] at this
          exact List.eq_nil_of_length_eq_zero this.symm
        subst e1
        exact po Z H _ (by rw [Rp.noflag r2 rfl] at r2; exact b.add r2)
      · have e1 : es = [] := by
          have := l2.length
          rw [e] at this
          exact List.eq_nil_of_length_eq_zero this.symm
        subst e1
        rw [List.append_nil] at po
        exact po Z H _ (by rw [Rp.noflag r1 rfl] at r1; exact b.add r1)
      · exact po Z _ _ (Hold.mkT b (l1.app l2) (fun d hd => (List.mem_append.mp hd).elim (l1.nf d) (l2.nf d)) hp)
    · rw [if_neg h] at po; exact po.elim
  · rename_i o1 ds o2 es
    obtain ⟨a1, vs, g1, rfl, q1, l1⟩ := r1.lst_get
    obtain ⟨a2, ws, g2, rfl, q2, l2⟩ := r2.lst_get
    split at po
    · rename_i h
      obtain ⟨h1, h⟩ := h
      rw [Bool.and_eq_true] at h1
      refine .inr (.inl ⟨a1, a2, vs, ws, rfl, rfl, q1, q2, by rw [l1.length, l2.length]; exact h, fun p hp => ?_⟩)
      exact po Z _ _ (Hold.mkL b (l1.app l2) (fun d hd => (List.mem_append.mp hd).elim (nf_all h1.1 d) (nf_all h1.2 d)) hp)
    · exact po.elim
  · exact po.elim
def dSub : D → D → Rs D := dI0 fun i j => .int (i - j)
/-! ### * -/
def mulOk (i j : Int) : Bool := decide (i.natAbs.log2 + j.natAbs.log2 < 1000000)
def rMul : R2 := fun x y H Q => rI CMulW (fun i j => .int (i * j)) x y H Q ∨ rRep x y H Q
theorem op_mulA {X : Cx} : OpR X (binaryOp .Mult) rMul := op_mulW.or op_rep
def dMul : D → D → Rs D
  | .int i, .int j => if mulOk i j = true then .ok (.int (i * j)) else .stuck
  | .lst _ a, .int k => if a.all (fun d => !d.flag) = true ∧ -(2 ^ 63) ≤ k ∧ k < 2 ^ 63 ∧ a.length * k.toNat ≤ sizeLine then .ok (.lst true (List.replicate k.toNat a).flatten) else .stuck
  | _, _ => .stuck
theorem RpL.rep {Z : AS} {H : Hp} {ds : List D} {vs : List V} (h : RpL K Z H ds vs []) : ∀ n : Nat, RpL K Z H (List.replicate n ds).flatten (List.replicate n vs).flatten []
  | 0 => RpL_nil.mpr ⟨rfl, rfl⟩
  | n + 1 => by
    rw [List.replicate_succ, List.replicate_succ, List.flatten_cons, List.flatten_cons]
    exact h.app (RpL.rep h n)
theorem os_mul : OpS K rMul dMul := by
  intro Z H B Q W d1 v1 f1 d2 v2 f2 b r1 r2 po
  unfold dMul at po
  split at po
  · rename_i i j
    obtain ⟨rfl, _⟩ := Rp_int.mp r1
    obtain ⟨rfl, _⟩ := Rp_int.mp r2
    by_cases h : mulOk i j = true
    · rw [if_pos h] at po
      exact .inl ⟨i, j, rfl, rfl, of_decide_eq_true (p := i.natAbs.log2 + j.natAbs.log2 < 1000000) h, po.int b⟩
    · rw [if_neg h] at po; exact po.elim
  · rename_i o ds k
    obtain ⟨a1, vs, g1, rfl, q1, l1⟩ := r1.lst_get
    obtain ⟨rfl, _⟩ := Rp_int.mp r2
    split at po
    · rename_i h
      obtain ⟨h0, h1, h2, h3⟩ := h
      have nf := nf_all h0
      have e0 := RpL.noflag l1 nf
      subst e0
      refine .inr ⟨a1, k, vs, rfl, rfl, q1, h1, h2, by rw [l1.length]; exact h3, fun p hp => ?_⟩
      exact po Z _ _ (Hold.mkL b (l1.rep _) (l1.rep _).nf hp)
    · exact po.elim
  · exact po.elim
def dFdiv : D → D → Rs D := dI (fun _ j => decide (0 < j) && decide (j.natAbs.log2 < 9000)) fun i j => .int (i / j)
theorem os_fdiv : OpS K (rI CDivW fun i j => .int (i / j)) dFdiv := os_I fun i j h => by
  rw [Bool.and_eq_true] at h
  exact ⟨of_decide_eq_true h.1, of_decide_eq_true h.2⟩
def dMod : D → D → Rs D := dI (fun _ j => decide (0 < j)) fun i j => .int (i % j)
theorem os_mod : OpS K (rI (fun _ j => 0 < j) fun i j => .int (i % j)) dMod := os_I fun i j h => of_decide_eq_true h
def powOk (i j : Int) : Bool := decide (0 ≤ j) && decide ((Builtin.Int.intBits i : Int) * j ≤ 2 ^ 27)
theorem op_powW {X : Cx} : OpR X (binaryOp .Pow) (rI (fun i j => powOk i j = true) fun i j => .int (i ^ j.toNat)) := opI fun i j _ _ _ _ _ hc q => by
  unfold powOk at hc
  rw [Bool.and_eq_true] at hc
  exact pow_int (of_decide_eq_true hc.1) (of_decide_eq_true hc.2) q
def dPow : D → D → Rs D := dI powOk fun i j => .int (i ^ j.toNat)
theorem os_pow : OpS K (rI (fun i j => powOk i j = true) fun i j => .int (i ^ j.toNat)) dPow := os_I fun _ _ h => h
def dNeg : D → Rs D
  | .int i => .ok (.int (-i))
  | _ => .stuck
theorem us_neg : UnS K (rU fun i => .int (-i)) dNeg := by
  intro Z H B Q W d1 v1 f1 b r1 po
  unfold dNeg at po
  split at po
  · rename_i i
    obtain ⟨rfl, _⟩ := Rp_int.mp r1
    exact ⟨i, rfl, po.int b⟩
  · exact po.elim
/-! ### order of ints -/
def dCmpI (p : Int → Int → Bool) : D → D → Rs D := dI0 fun i j => .bl (p i j)
theorem os_cmpI {p : Int → Int → Bool} : OpS K (rI0 fun i j => .bl (p i j)) (dCmpI p) := by
  intro Z H B Q W d1 v1 f1 d2 v2 f2 b r1 r2 po
  unfold dCmpI dI0 at po
  split at po
  · rename_i i j
    obtain ⟨rfl, _⟩ := Rp_int.mp r1
    obtain ⟨rfl, _⟩ := Rp_int.mp r2
    exact ⟨i, j, rfl, rfl, po.bl b⟩
  · exact po.elim
theorem op_cmpI {X : Cx} {f : Value → Value → Sem Value} {p : Int → Int → Bool} (rule : ∀ (i j : Int) (t u : Tok) (Q : Value → Shared → Prop) (s : Shared), Q (.bool (p i j)) s → wpAny (model X.prog X.w) X.A (f (.int i t) (.int j u)) Q X.xe s) : OpR X f (rI0 fun i j => .bl (p i j)) := by
  intro pins s σ H x y v u Q I rx ry h
  obtain ⟨i, j, rfl, rfl, q⟩ := h
  obtain ⟨t, rfl⟩ := rx
  obtain ⟨t', rfl⟩ := ry
  exact rule i j t t' _ s ⟨.bl _, H, I, rfl, q⟩
theorem op_ltI {X : Cx} : OpR X (compareOp .Lt) (rI0 fun i j => .bl (decide (i < j))) := op_cmpI fun _ _ _ _ _ _ h => lt_int h
theorem op_leI {X : Cx} : OpR X (compareOp .LtE) (rI0 fun i j => .bl (decide (i ≤ j))) := op_cmpI fun _ _ _ _ _ _ h => le_int h
theorem op_gtI {X : Cx} : OpR X (compareOp .Gt) (rI0 fun i j => .bl (decide (j < i))) := op_cmpI fun _ _ _ _ _ _ h => gt_int h
theorem op_geI {X : Cx} : OpR X (compareOp .GtE) (rI0 fun i j => .bl (decide (j ≤ i))) := op_cmpI fun _ _ _ _ _ _ h => ge_int h
def dLt : D → D → Rs D := dCmpI fun i j => decide (i < j)
def dLe : D → D → Rs D := dCmpI fun i j => decide (i ≤ j)
def dGt : D → D → Rs D := dCmpI fun i j => decide (j < i)
def dGe : D → D → Rs D := dCmpI fun i j => decide (j ≤ i)
/-! ### ==, in, is None -/
mutual
def D.py : D → Option PyData
  | .non => some .none
  | .bl b => some (.bool b)
  | .int i => some (.int i)
  | .str x => some (.str x)
  | .tup ds => (pyL ds).map .tuple
  | .lst _ ds => (pyL ds).map .list
  | .scr ns => some (.list (ns.map .int))
  | .ty _ => none
  | .obj _ => none
  | .ins _ _ _ _ => none
  | .dct _ _ _ => none
def pyL : List D → Option (List PyData)
  | [] => some []
  | d :: ds => match d.py, pyL ds with
    | some x, some xs => some (x :: xs)
    | _, _ => none
end
theorem DpAll.ints {H : Hp} : ∀ ns : List Int, DpAll K H (ns.map V.int) (ns.map .int)
  | [] => .nil
  | n :: ns => .cons (.int n) (DpAll.ints ns)
mutual
theorem Rp.dp {Z : AS} {H : Hp} : ∀ (d : D) (v : V) (fp : List Addr) (x : PyData), Rp K Z H d v fp → d.py = some x → Dp K H v x
  | .non, v, fp, x, h, e => by obtain ⟨rfl, _⟩ := Rp_non.mp h; cases e; exact .non
  | .bl b, v, fp, x, h, e => by obtain ⟨rfl, _⟩ := Rp_bl.mp h; cases e; exact .bl b
  | .int i, v, fp, x, h, e => by obtain ⟨rfl, _⟩ := Rp_int.mp h; cases e; exact .int i
  | .str y, v, fp, x, h, e => by obtain ⟨rfl, _⟩ := Rp_str.mp h; cases e; exact .str y
  | .ty n, v, fp, x, h, e => by cases e
  | .obj a, v, fp, x, h, e => by cases e
  | .ins _ _ _ _, v, fp, x, h, e => by cases e
  | .dct _ _ _, v, fp, x, h, e => by cases e
  | .scr ns, v, fp, x, h, e => by
    obtain ⟨_, a, rfl, q⟩ := Rp_scr.mp h
    cases e
    exact .lst q.seq (DpAll.ints ns)
  | .tup ds, v, fp, x, h, e => by
    obtain ⟨_, a, vs, rfl, q, l⟩ := Rp_tup.mp h
    have e : (pyL ds).map PyData.tuple = some x := e
    rw [Option.map_eq_some_iff] at e
    obtain ⟨xs, e1, rfl⟩ := e
    exact .tup q.seq (RpL.dp ds vs [] xs l e1)
  | .lst o ds, v, fp, x, h, e => by
    obtain ⟨a, vs, f, rfl, q, l⟩ := h.lst_get
    have e : (pyL ds).map PyData.list = some x := e
    rw [Option.map_eq_some_iff] at e
    obtain ⟨xs, e1, rfl⟩ := e
    exact .lst (.of q) (RpL.dp ds vs f xs l e1)
theorem RpL.dp {Z : AS} {H : Hp} : ∀ (ds : List D) (vs : List V) (fp : List Addr) (xs : List PyData), RpL K Z H ds vs fp → pyL ds = some xs → DpAll K H vs xs
  | [], vs, fp, xs, h, e => by obtain ⟨rfl, _⟩ := RpL_nil.mp h; cases e; exact .nil
  | d :: ds, vs, fp, xs, h, e => by
    obtain ⟨v, vr, f1, f2, rfl, _, r1, r2⟩ := RpL_cons.mp h
    simp only [pyL] at e
    cases h1 : d.py with
    | none => rw [h1] at e; cases e
    | some x =>
      cases h2 : pyL ds with
      | none => rw [h1, h2] at e; cases e
      | some ys =>
        rw [h1, h2] at e
        cases e
        exact .cons (Rp.dp d v f1 x r1 h1) (RpL.dp ds vr f2 ys r2 h2)
end
def dEq (neg : Bool) : D → D → Rs D := fun a b => match a.py, b.py with
  | some x, some y => if (SeqAt.shaped x && SeqAt.shaped y) = true then .ok (.bl (if neg then !PyData.eqv x y else PyData.eqv x y)) else .stuck
  | _, _ => .stuck
theorem os_eq : OpS K (rEqD K) (dEq false) := by
  intro Z H B Q W d1 v1 f1 d2 v2 f2 b r1 r2 po
  unfold dEq at po
  split at po
  · rename_i x y e1 e2
    split at po
    · rename_i h
      rw [Bool.and_eq_true] at h
      exact ⟨x, y, Rp.dp d1 v1 f1 x r1 e1, Rp.dp d2 v2 f2 y r2 e2, h.1, h.2, po.bl b⟩
    · exact po.elim
  · exact po.elim
theorem os_ne : OpS K (rNeD K) (dEq true) := by
  intro Z H B Q W d1 v1 f1 d2 v2 f2 b r1 r2 po
  unfold dEq at po
  split at po
  · rename_i x y e1 e2
    split at po
    · rename_i h
      rw [Bool.and_eq_true] at h
      exact ⟨x, y, Rp.dp d1 v1 f1 x r1 e1, Rp.dp d2 v2 f2 y r2 e2, h.1, h.2, po.bl b⟩
    · exact po.elim
  · exact po.elim
def D.flatV : D → Option V
  | .non => some .non
  | .bl b => some (.bl b)
  | .int i => some (.int i)
  | .str x => some (.str x)
  | _ => none
def flats : List D → Option (List V)
  | [] => some []
  | d :: ds => match d.flatV, flats ds with
    | some v, some vs => some (v :: vs)
    | _, _ => none
theorem Rp.flat {Z : AS} {H : Hp} {d : D} {v w : V} {fp : List Addr} (h : Rp K Z H d v fp) (e : d.flatV = some w) : v = w ∧ L2.flatV w = true := by
  cases d with
  | non => obtain ⟨rfl, _⟩ := Rp_non.mp h; cases e; exact ⟨rfl, rfl⟩
  | bl b => obtain ⟨rfl, _⟩ := Rp_bl.mp h; cases e; exact ⟨rfl, rfl⟩
  | int i => obtain ⟨rfl, _⟩ := Rp_int.mp h; cases e; exact ⟨rfl, rfl⟩
  | str x => obtain ⟨rfl, _⟩ := Rp_str.mp h; cases e; exact ⟨rfl, rfl⟩
  | _ => cases e
theorem RpL.flat {Z : AS} {H : Hp} : ∀ {ds : List D} {vs ws : List V} {fp : List Addr}, RpL K Z H ds vs fp → flats ds = some ws → vs = ws ∧ ws.all L2.flatV = true
  | [], vs, ws, fp, h, e => by obtain ⟨rfl, _⟩ := RpL_nil.mp h; cases e; exact ⟨rfl, rfl⟩
  | d :: ds, vs, ws, fp, h, e => by
    obtain ⟨v, vr, f1, f2, rfl, _, r1, r2⟩ := RpL_cons.mp h
    simp only [flats] at e
    cases h1 : d.flatV with
    | none => rw [h1] at e; cases e
    | some x =>
      cases h2 : flats ds with
      | none => rw [h1, h2] at e; cases e
      | some ys =>
        rw [h1, h2] at e
        cases e
        obtain ⟨rfl, q1⟩ := r1.flat h1
        obtain ⟨rfl, q2⟩ := r2.flat h2
        exact ⟨rfl, by rw [List.all_cons, q1, q2]; rfl⟩
/-- in, not in: flat things in a list or tuple -/
def dIn (neg : Bool) : D → D → Rs D := fun a b => match a.flatV, (match b with
    | .tup ds => flats ds
    | .lst _ ds => flats ds
    | .scr ns => some (ns.map V.int)
    | _ => none) with
  | some x, some xs => .ok (.bl (if neg then !inV x xs else inV x xs))
  | _, _ => .stuck
theorem os_in {neg : Bool} : OpS K (rIn K neg) (dIn neg) := by
  intro Z H B Q W d1 v1 f1 d2 v2 f2 b r1 r2 po
  unfold dIn at po
  cases h1 : d1.flatV with
  | none => rw [h1] at po; exact po.elim
  | some x =>
    rw [h1] at po
    obtain ⟨rfl, q1⟩ := r1.flat h1
    cases d2 with
    | tup ds =>
      obtain ⟨_, a, vs, rfl, q, l⟩ := Rp_tup.mp r2
      cases h2 : flats ds with
      | none => simp only [h2] at po; exact po.elim
      | some xs =>
        simp only [h2] at po
        obtain ⟨rfl, q2⟩ := l.flat h2
        exact ⟨a, vs, rfl, .inr q.seq, q1, q2, po.bl b⟩
    | lst o ds =>
      obtain ⟨a, vs, f, rfl, q, l⟩ := r2.lst_get
      cases h2 : flats ds with
      | none => simp only [h2] at po; exact po.elim
      | some xs =>
        simp only [h2] at po
        obtain ⟨rfl, q2⟩ := l.flat h2
        exact ⟨a, vs, rfl, .inl (.of q), q1, q2, po.bl b⟩
    | scr ns =>
      obtain ⟨_, a, rfl, q⟩ := Rp_scr.mp r2
      simp only at po
      exact ⟨a, _, rfl, .inl q.seq, q1, by rw [List.all_map]; exact List.all_eq_true.mpr fun _ _ => rfl, po.bl b⟩
    | _ => exact po.elim
def D.isNon : D → Bool
  | .non => true
  | _ => false
theorem Rp.isNon {Z : AS} {H : Hp} {d : D} {v : V} {fp : List Addr} (h : Rp K Z H d v fp) : decide (v = .non) = d.isNon := by
  cases d with
  | non => obtain ⟨rfl, _⟩ := Rp_non.mp h; rfl
  | bl b => obtain ⟨rfl, _⟩ := Rp_bl.mp h; rfl
  | int i => obtain ⟨rfl, _⟩ := Rp_int.mp h; rfl
  | str x => obtain ⟨rfl, _⟩ := Rp_str.mp h; rfl
  | ty x => obtain ⟨rfl, _⟩ := Rp_ty.mp h; rfl
  | obj x => obtain ⟨rfl, _⟩ := Rp_obj.mp h; rfl
  | scr ns => obtain ⟨_, a, rfl, _⟩ := Rp_scr.mp h; rfl
  | tup ds => obtain ⟨_, a, vs, rfl, _⟩ := Rp_tup.mp h; rfl
  | lst o ds => obtain ⟨a, vs, f, rfl, _⟩ := h.lst_get; rfl
  | ins o C ns ds =>
    rcases Rp_ins.mp h with ⟨_, _, a, dx, fs, rfl, _⟩ | ⟨_, a, dx, fs, fp', rfl, _⟩ <;> rfl
  | dct o kk ds =>
    rcases Rp_dct.mp h with ⟨_, _, a, vs, rfl, _⟩ | ⟨_, a, vs, fp', rfl, _⟩ <;> rfl
def dIsN (neg : Bool) : D → D → Rs D
  | a, .non => .ok (.bl (if neg then !a.isNon else a.isNon))
  | _, _ => .stuck
theorem os_isN : OpS K (fun x y H Q => y = .non ∧ Q (.bl (decide (x = .non))) H) (dIsN false) := by
  intro Z H B Q W d1 v1 f1 d2 v2 f2 b r1 r2 po
  unfold dIsN at po
  split at po
  · obtain ⟨rfl, _⟩ := Rp_non.mp r2
    exact ⟨rfl, by rw [r1.isNon]; exact po.bl b⟩
  · exact po.elim
theorem os_notN : OpS K (fun x y H Q => y = .non ∧ Q (.bl (!decide (x = .non))) H) (dIsN true) := by
  intro Z H B Q W d1 v1 f1 d2 v2 f2 b r1 r2 po
  unfold dIsN at po
  split at po
  · obtain ⟨rfl, _⟩ := Rp_non.mp r2
    exact ⟨rfl, by rw [r1.isNon]; exact po.bl b⟩
  · exact po.elim
/-! ### items -/
def dIx : D → D → Rs D
  | .tup ds, .int i => match atI ds i with
    | some d => .ok d
    | none => .stuck
  | .lst _ ds, .int i => match atI ds i with
    | some d => if d.flag = true then .stuck else .ok d
    | none => .stuck
  | .scr ns, .int i => match atI ns i with
    | some n => .ok (.int n)
    | none => .stuck
  | .str x, .int i => if x.length ≤ sizeLine then (match atI x.cps.toList i with
    | some c => .ok (.str ⟨#[c]⟩)
    | none => .stuck) else .stuck
  | _, _ => .stuck
theorem RpL.atI {Z : AS} {H : Hp} {ds : List D} {vs : List V} {fp : List Addr} (h : RpL K Z H ds vs fp) {i : Int} {d : D} (e : L2.atI ds i = some d) : ∃ v f, L2.atI vs i = some v ∧ Rp K Z H d v f := by
  unfold L2.atI at e ⊢
  rw [h.length]
  cases hx : ixN ds.length i with
  | none => rw [hx] at e; cases e
  | some j =>
    rw [hx] at e
    obtain ⟨v, f, h1, h2, _⟩ := h.at (show ds[j]? = some d from e)
    exact ⟨v, f, h1, h2⟩
theorem os_ix : OpS K (rIx K) dIx := by
  intro Z H B Q W d1 v1 f1 d2 v2 f2 b r1 r2 po
  unfold dIx at po
  split at po
  · rename_i ds i
    obtain ⟨_, a, vs, rfl, q, l⟩ := Rp_tup.mp r1
    obtain ⟨rfl, _⟩ := Rp_int.mp r2
    cases h : atI ds i with
    | none => simp only [h] at po; exact po.elim
    | some d =>
      simp only [h] at po
      obtain ⟨v, f, hv, rv⟩ := l.atI h
      have hf := l.nf d (by
        unfold atI at h
        cases hx : ixN ds.length i with
        | none => rw [hx] at h; cases h
        | some j => rw [hx] at h; exact List.mem_of_getElem? h)
      have e0 := rv.noflag hf
      subst e0
      exact .inr (.inl ⟨a, vs, i, v, rfl, rfl, q.seq, hv, po Z H _ (b.add rv)⟩)
  · rename_i o ds i
    obtain ⟨a, vs, f, rfl, q, l⟩ := r1.lst_get
    obtain ⟨rfl, _⟩ := Rp_int.mp r2
    cases h : atI ds i with
    | none => simp only [h] at po; exact po.elim
    | some d =>
      simp only [h] at po
      obtain ⟨v, f, hv, rv⟩ := l.atI h
      by_cases hf : d.flag = true
      · rw [if_pos hf] at po; exact po.elim
      · rw [if_neg hf] at po
        have e0 := rv.noflag (by simpa using hf)
        subst e0
        exact .inl ⟨a, vs, i, v, rfl, rfl, .of q, hv, po Z H _ (b.add rv)⟩
  · rename_i ns i
    obtain ⟨_, a, rfl, q⟩ := Rp_scr.mp r1
    obtain ⟨rfl, _⟩ := Rp_int.mp r2
    cases h : atI ns i with
    | none => simp only [h] at po; exact po.elim
    | some n =>
      simp only [h] at po
      refine .inl ⟨a, _, i, .int n, rfl, rfl, q.seq, ?_, po.int b⟩
      unfold atI at h ⊢
      rw [List.length_map]
      cases hx : ixN ns.length i with
      | none => rw [hx] at h; cases h
      | some j =>
        rw [hx] at h
        show (ns.map V.int)[j]? = _
        rw [List.getElem?_map, show ns[j]? = some n from h]; rfl
  · rename_i x i
    obtain ⟨rfl, _⟩ := Rp_str.mp r1
    obtain ⟨rfl, _⟩ := Rp_int.mp r2
    by_cases hz : x.length ≤ sizeLine
    · rw [if_pos hz] at po
      cases h : atI x.cps.toList i with
      | none => simp only [h] at po; exact po.elim
      | some c =>
        simp only [h] at po
        exact .inr (.inr ⟨x, i, c, rfl, rfl, hz, h, po.str b⟩)
    · rw [if_neg hz] at po; exact po.elim
  · exact po.elim
end
end Tr

set_option maxHeartbeats 2000000
/-! The tree layer 9: slices, stores, methods of lists, built-in functions. -/
namespace Tr
open PySem PySem.Spec PyProof.Rows L2
section
variable {X : Cx} {W : XW} {fx : List Nat} {a b c e tg : Expr} {es : List Expr} {pos : Pos}
/-! ### slices -/
def PostO (K : PySem.W.Frag) (W : XW) (σ : Sg) (tmp : Bag) (Q : Option Int → Hp → Prop) : Res (Option Int) → Prop
  | .ok o e' => ∀ Z' H', SR K Z' H' σ e' tmp → Q o H'
  | .exn x e' => ∀ Z' H' c o, SR K Z' H' σ e' tmp → XR K Z' H' x c o → W σ c o H'
  | .stuck => False
structure VO (X : Cx) (W : XW) (o : Option Expr) (f : DE → Res (Option Int)) : Prop where
  ex : ∃ t, PO X o t ∧ ∀ Z σ H e tmp Q, SR X.K Z H σ e tmp → PostO X.K W σ tmp Q (f e) → t σ H Q
def oNo : DE → Res (Option Int) := fun e => .ok none e
def oAt (f : DE → Res L) : DE → Res (Option Int) := fun e => (f e).bind fun l e1 => match lget l e1 with
  | some (.int i) => .ok (some i) e1
  | _ => .stuck
theorem vo_no : VO X W none oNo := ⟨_, po_none, fun Z σ H e tmp Q sr po => po Z H sr⟩
theorem vo_at {f : DE → Res L} (h : VX X W a f) : VO X W (some a) (oAt f) := by
  obtain ⟨t, p, s⟩ := h.ex
  refine ⟨_, po_some p, fun Z σ H e tmp Q sr po => s Z σ H e tmp _ sr ?_⟩
  unfold oAt at po
  cases h1 : f e with
  | stuck => rw [h1] at po; exact po
  | exn x e1 => rw [h1] at po; exact po
  | ok l e1 =>
    rw [h1, Res.bind_ok] at po
    intro Z' H' v q k
    cases g : lget l e1 with
    | none => simp only [g] at po; exact po.elim
    | some d =>
      obtain ⟨fp, r⟩ := lread q k g
      cases d with
      | int i =>
        obtain ⟨rfl, _⟩ := Rp_int.mp r
        simp only [g] at po
        exact ⟨i, rfl, po Z' H' q.drop⟩
      | _ => simp only [g] at po; exact po.elim
def eSl (g : D → Option Int → Option Int → Rs D) (fa : DE → Res L) (fl fh : DE → Res (Option Int)) : DE → Res D := fun e => (fa e).bind fun la e1 => (fl e1).bind fun lo e2 => (fh e2).bind fun hi e3 => match lget la e3 with
  | some d => (g d lo hi).at e3
  | none => .stuck
def SlS (K : PySem.W.Frag) (r : V → Option Int → Option Int → Hp → VK → Prop) (g : D → Option Int → Option Int → Rs D) : Prop :=
  ∀ Z H B Q W d1 v1 f1 lo hi, Hold K [] Z H B → Rp K Z H d1 v1 f1 → PostV K W B Q (g d1 lo hi) → r v1 lo hi H Q
theorem ve_sl {r : V → Option Int → Option Int → Hp → VK → Prop} {g : D → Option Int → Option Int → Rs D} {fa : DE → Res L} {fl fh : DE → Res (Option Int)} {lo hi : Option Expr} {p2 : Pos} (hr : SlR X r) (hs : SlS X.K r g) (ha : VX X W a fa) (hl : VO X W lo fl) (hh : VO X W hi fh) :
    VE X W (.Subscript a (.Slice lo hi none p2) pos) (eSl g fa fl fh) := by
  obtain ⟨t, p, s⟩ := ha.ex
  obtain ⟨t1, p1, s1⟩ := hl.ex
  obtain ⟨t2, p2, s2⟩ := hh.ex
  refine ⟨_, pe_slice hr p p1 p2, fun Z σ H e tmp Q sr po => s Z σ H e tmp _ sr ?_⟩
  unfold eSl at po
  cases h1 : fa e with
  | stuck => rw [h1] at po; exact po
  | exn x e1 => rw [h1] at po; exact po
  | ok la e1 =>
    rw [h1, Res.bind_ok] at po
    intro Z1 H1 v1 q1 k1
    refine s1 Z1 σ H1 e1 (lbag la v1 ++ tmp) _ q1 ?_
    cases h2 : fl e1 with
    | stuck => rw [h2] at po; exact po
    | exn x e2 => rw [h2] at po; exact fun Z' H' c o q xr => po Z' H' c o q.drop xr
    | ok o1 e2 =>
      rw [h2, Res.bind_ok] at po
      intro Z2 H2 q2
      refine s2 Z2 σ H2 e2 (lbag la v1 ++ tmp) _ q2 ?_
      cases h3 : fh e2 with
      | stuck => rw [h3] at po; exact po
      | exn x e3 => rw [h3] at po; exact fun Z' H' c o q xr => po Z' H' c o q.drop xr
      | ok o2 e3 =>
        rw [h3, Res.bind_ok] at po
        intro Z3 H3 q3
        cases g : lget la e3 with
        | none => simp only [g] at po; exact po.elim
        | some d =>
          simp only [g] at po
          obtain ⟨fp, r⟩ := lread q3 k1 g
          exact hs Z3 H3 (lbag la v1 ++ tmp ++ slots σ e3) Q (W σ) d v1 fp o1 o2 q3.bag r (PostV.to q3.fit po)
def cutD {α : Type} (xs : List α) (lo hi : Option Int) : List α := (xs.drop (HT.sIx xs.length 0 lo)).take (HT.sIx xs.length xs.length hi - HT.sIx xs.length 0 lo)
def rSlAll (K : PySem.W.Frag) : V → Option Int → Option Int → Hp → VK → Prop := fun x lo hi H Q => rSlA K x lo hi H Q ∨ (rSlL K x lo hi H Q ∨ rSlS x lo hi H Q)
theorem sl_all : SlR X (rSlAll X.K) := sl_tupA.or (sl_list.or sl_str)
def dSl : D → Option Int → Option Int → Rs D := fun d lo hi => match d with
  | .tup ds => .ok (.tup (cutD ds lo hi))
  | .lst _ ds => if ds.all (fun d => !d.flag) = true then .ok (.lst true (cutD ds lo hi)) else .stuck
  | .scr ns => .ok (.lst true ((cutD ns lo hi).map .int))
  | .str x => if x.length ≤ sizeLine then .ok (.str (cutS x lo hi)) else .stuck
  | _ => .stuck
theorem RpL.takeN {K : PySem.W.Frag} {Z : AS} {H : Hp} {ds : List D} {vs : List V} (h : RpL K Z H ds vs []) : ∀ n : Nat, RpL K Z H (ds.take n) (vs.take n) [] := fun n => by
  have e := (List.take_append_drop n ds).symm
  rw [e] at h
  obtain ⟨v1, v2, f1, f2, e1, e2, r1, r2⟩ := h.cut
  have z := List.append_eq_nil_iff.mp e2.symm
  rw [z.1] at r1
  subst e1
  have hl := r1.length
  have : (v1 ++ v2).take n = v1 := by
    have hl2 := r2.length
    by_cases hn : n ≤ ds.length
    · rw [List.length_take, Nat.min_eq_left hn] at hl
      rw [← hl, List.take_left']; rfl
    · rw [List.drop_eq_nil_of_le (by omega)] at hl2
      have : v2 = [] := List.eq_nil_of_length_eq_zero hl2
      subst this
      rw [List.append_nil]
      exact List.take_of_length_le (by rw [hl, List.length_take]; omega)
  rw [this]; exact r1
theorem RpL.dropN {K : PySem.W.Frag} {Z : AS} {H : Hp} {ds : List D} {vs : List V} (h : RpL K Z H ds vs []) : ∀ n : Nat, RpL K Z H (ds.drop n) (vs.drop n) []
  | 0 => h
  | n + 1 => by
    cases ds with
    | nil => obtain ⟨rfl, _⟩ := RpL_nil.mp h; simpa using h
    | cons d ds =>
      obtain ⟨v, vr, f1, f2, rfl, e2, r1, r2⟩ := RpL_cons.mp h
      have z := List.append_eq_nil_iff.mp e2.symm
      rw [z.2] at r2
      exact RpL.dropN r2 n
theorem RpL.cutN {K : PySem.W.Frag} {Z : AS} {H : Hp} {ds : List D} {vs : List V} (h : RpL K Z H ds vs []) (lo hi : Option Int) : RpL K Z H (cutD ds lo hi) (cutV vs lo hi) [] := by
  unfold cutD cutV
  rw [h.length]
  exact (h.dropN _).takeN _
theorem ss_sl {K : PySem.W.Frag} : SlS K (rSlAll K) dSl := by
  intro Z H B Q W d1 v1 f1 lo hi b r1 po
  unfold dSl at po
  split at po
  · rename_i ds
    obtain ⟨_, a, vs, rfl, q, l⟩ := Rp_tup.mp r1
    have e0 := r1.noflag rfl
    subst e0
    refine .inl ⟨a, vs, rfl, q.seq, fun hw => ?_, fun hw p hp => po Z _ _ (Hold.mkT b (l.cutN lo hi) (l.cutN lo hi).nf hp)⟩
    have ec : cutD ds lo hi = ds := by
      unfold cutD
      rw [← l.length, hw.1, hw.2, l.length]
      simp
    rw [ec] at po
    exact po Z H _ (b.add r1)
  · rename_i o ds
    obtain ⟨a, vs, f, rfl, q, l⟩ := r1.lst_get
    split at po
    · rename_i h
      have nf := nf_all h
      have e0 := RpL.noflag l nf
      subst e0
      exact .inr (.inl ⟨a, vs, rfl, .of q, fun p hp => po Z _ _ (Hold.mkL b (l.cutN lo hi) (l.cutN lo hi).nf hp)⟩)
    · exact po.elim
  · rename_i ns
    obtain ⟨_, a, rfl, q⟩ := Rp_scr.mp r1
    refine .inr (.inl ⟨a, _, rfl, q.seq, fun p hp => ?_⟩)
    have rints : ∀ ns : List Int, RpL K Z H (ns.map .int) (ns.map V.int) [] := by
      intro ns
      induction ns with
      | nil => exact RpL_nil.mpr ⟨rfl, rfl⟩
      | cons n ns ih => exact RpL_cons.mpr ⟨_, _, [], [], rfl, rfl, Rp_int.mpr ⟨rfl, rfl⟩, ih⟩
    have e1 : cutV (ns.map V.int) lo hi = (cutD ns lo hi).map V.int := by
      unfold cutV cutD
      rw [List.length_map, ← List.map_drop, ← List.map_take]
    rw [e1]
    exact po Z _ _ (Hold.mkL b (rints _) (rints _).nf hp)
  · rename_i x
    obtain ⟨rfl, _⟩ := Rp_str.mp r1
    split at po
    · rename_i h
      exact .inr (.inr ⟨x, rfl, h, po.str b⟩)
    · exact po.elim
  · exact po.elim

/-! ### xs[i] = v -/
theorem zip_set {K : PySem.W.Frag} {ex : List Addr} {Z : AS} {H : Hp} : ∀ {vs : List V} {ds : List D} {j : Nat} {v : V} {d : D} {B : Bag}, vs.length = ds.length → j < vs.length → Hold K ex Z H ((v, d) :: (vs.zip ds ++ B)) → Hold K ex Z H ((vs.set j v).zip (ds.set j d) ++ B)
  | [], ds, j, v, d, B, _, hj, _ => by simp at hj
  | _ :: _, [], j, v, d, B, hl, _, _ => by simp at hl
  | v0 :: vs, d0 :: ds, 0, v, d, B, hl, _, h => (h.perm (List.Perm.swap _ _ _)).tail
  | v0 :: vs, d0 :: ds, j + 1, v, d, B, hl, hj, h => by
    have h1 : Hold K ex Z H ((v, d) :: (vs.zip ds ++ (v0, d0) :: B)) := h.perm (List.Perm.cons _ (List.perm_middle (a := (v0, d0))).symm)
    have h2 := zip_set (j := j) (by simpa using hl) (by simpa using hj) h1
    exact h2.perm List.perm_middle
def gIx (i : Nat) (fi : DE → Res L) : D → DE → Option DE := fun d e => match e.getD i none with
  | none => none
  | some _ => (match fi e with
    | .ok l e1 => (match lget l e1 with
      | some (.int k) => (match e1.getD i none with
        | some (.lst true ds) => (match ixN ds.length k with
          | some j => some (e1.set i (some (.lst true (ds.set j d))))
          | none => none)
        | _ => none)
      | _ => none)
    | _ => none)
theorem vg_ix (i : Nat) {x : Str} {p : Pos} {fi : DE → Res L} (hi : VX X W b fi) (hN : X.N[i]? = some x := by rfl) (hv : Vis X.env.scope x := by first | exact Or.inl rfl | exact Or.inr (Or.inl rfl) | exact Or.inr (Or.inr rfl)) (hd : (x == ("__debug__" : Str)) = false := by decide)
    (hcd : (x == ("__classdict__" : Str)) = false := by decide)
    (ha : ∀ v, assign (.Subscript (.Name x p) b pos) X.env v = (do
      let ov ← holding [v] (eval (.Name x p) X.env)
      let iv ← holding [v, ov] (eval b X.env)
      standAt pos
      holding [v, ov, iv] (setItem ov iv v)
      release [v, ov, iv] []) := by intro _; rfl) : VG X [] (.Subscript (.Name x p) b pos) (gIx i fi) := by
  obtain ⟨t, pt, s⟩ := hi.ex
  refine ⟨_, pg_sub (pe_var hN hv hd hcd) pt set_list ha, fun Z σ H e tmp v d e' Q sr hg k => ?_⟩
  unfold gIx at hg
  cases g0 : e.getD i none with
  | none => rw [g0] at hg; cases hg
  | some d0 =>
    rw [g0] at hg
    simp only at hg
    obtain ⟨v0, fp0, hs0, r0⟩ := sr.rd (getD_some g0)
    refine ⟨v0, hs0, s Z σ H e ((v, d) :: tmp) _ sr ?_⟩
    cases h1 : fi e with
    | stuck => rw [h1] at hg; cases hg
    | exn x e1 => rw [h1] at hg; cases hg
    | ok l e1 =>
      rw [h1] at hg
      simp only at hg
      intro Z1 H1 vi q1 k1
      cases gl : lget l e1 with
      | none => simp only [gl] at hg; cases hg
      | some di =>
        obtain ⟨fi', ri⟩ := lread q1 k1 gl
        cases di with
        | int kk =>
          obtain ⟨rfl, _⟩ := Rp_int.mp ri
          simp only [gl] at hg
          cases gi : e1.getD i none with
          | none => simp only [gi] at hg; cases hg
          | some dl =>
            have gi' := getD_some gi
            cases dl with
            | lst o ds =>
              cases o with
              | false => simp only [gi] at hg; cases hg
              | true =>
                simp only [gi] at hg
                cases hx : ixN ds.length kk with
                | none => simp only [hx] at hg; cases hg
                | some j =>
                  simp only [hx] at hg
                  cases hg
                  have q2 : SR X.K Z1 H1 σ e1 ((v, d) :: tmp) := q1.drop
                  obtain ⟨w, hw, q3⟩ := q2.out gi'
                  rw [hs0] at hw
                  cases hw
                  obtain ⟨a, vs, rfl, hq, hl, h4⟩ := Hold.takeL q3.bag
                  have hj : j < vs.length := by rw [hl]; exact (ixN_seq hx).2.1
                  refine ⟨a, vs, kk, j, rfl, rfl, hq, by rw [hl]; exact hx, ?_⟩
                  have h5 : Hold X.K [a] Z1 H1 ((v, d) :: (vs.zip ds ++ (tmp ++ slots σ (e1.set i none)))) := h4.perm (List.perm_middle (a := (v, d)))
                  have h6 := zip_set hl hj h5
                  have h7 := Hold.layL (ds := ds.set j d) h6 (by simp [hl]) (by simp)
                  have q8 : SR X.K Z1 (upd H1 a (.lst (vs.set j v))) σ (e1.set i none) ((.ref a, .lst true (ds.set j d)) :: tmp) := .of q3.fit h7
                  have q9 := q8.back (i := i) (by rw [List.getElem?_set_self (List.getElem?_eq_some_iff.mp gi').1]) hs0
                  rw [List.set_set] at q9
                  exact k Z1 _ σ q9 rfl fun _ _ => rfl
            | _ => simp only [gi] at hg; cases hg
        | _ => simp only [gl] at hg; cases hg
/-! ### methods of a list in a slot -/
def eApp (i : Nat) (f : DE → Res D) : DE → Res D := fun e => match e.getD i none with
  | some (.lst true _) => (f e).bind fun d e1 => match e1.getD i none with
    | some (.lst true ds) => if ds.length < sizeLine then .ok .non (e1.set i (some (.lst true (ds ++ [d])))) else .stuck
    | _ => .stuck
  | _ => .stuck
theorem ve_append (i : Nat) {x : Str} {p apos : Pos} {f : DE → Res D} (h : VE X W e f) (hN : X.N[i]? = some x := by rfl) (hv : Vis X.env.scope x := by first | exact Or.inl rfl | exact Or.inr (Or.inl rfl) | exact Or.inr (Or.inr rfl)) (hd : (x == ("__debug__" : Str)) = false := by decide)
    (hcd : (x == ("__classdict__" : Str)) = false := by decide)
    (hbase : attributeBase (.Name x p) "append" X.env (eval (.Name x p) X.env) = eval (.Name x p) X.env := by rfl)
    (hfew : ((backTo pos (starEach [e] X.env)).all (fun x => !x.1) && (backToKw pos (keywordEach [] X.env)).all (fun x => x.1.isSome)
      && decide ([e].length + ([] : List Keyword).length + (if ([] : List Keyword).isEmpty then 0 else 1) < 30)) = true := by rfl)
    (hline : (apos.endLine == pos.line) = true := by rfl) (hs : starEach [e] X.env = (false, eval e X.env) :: starEach [] X.env := by rfl) :
    VE X W (.Call (.Attribute (.Name x p) "append" apos) [e] [] pos) (eApp i f) := by
  obtain ⟨t, pt, s⟩ := h.ex
  refine ⟨_, pe_bm PySem.F.plainAttrs_list PySem.F.slot_list_append PySem.F.type_list_append mt_append (pe_var hN hv hd hcd) (pa_cons pt pa_nil hs) hbase hfew hline hs (by rfl), fun Z σ H e tmp Q sr po => ?_⟩
  unfold eApp at po
  cases g0 : e.getD i none with
  | none => simp only [g0] at po; exact po.elim
  | some d0 =>
    obtain ⟨v0, fp0, hs0, r0⟩ := sr.rd (getD_some g0)
    cases d0 with
    | lst o ds0 =>
      cases o with
      | false => simp only [g0] at po; exact po.elim
      | true =>
        simp only [g0] at po
        obtain ⟨a0, vs0, f0, rfl, hq0, _⟩ := r0.lst_get
        refine ⟨_, hs0, .inl ⟨rfl, vs0, .of hq0⟩, s Z σ H e tmp _ sr ?_⟩
        cases h1 : f e with
        | stuck => rw [h1] at po; exact po
        | exn x e1 => rw [h1] at po; exact po
        | ok d e1 =>
          rw [h1, Res.bind_ok] at po
          intro Z1 H1 v1 q1
          cases gi : e1.getD i none with
          | none => simp only [gi] at po; exact po.elim
          | some dl =>
            have gi' := getD_some gi
            cases dl with
            | lst o ds =>
              cases o with
              | false => simp only [gi] at po; exact po.elim
              | true =>
                simp only [gi] at po
                split at po
                · rename_i hz
                  obtain ⟨w, hw, q3⟩ := q1.out gi'
                  rw [hs0] at hw
                  cases hw
                  have q4 : Hold X.K [] Z1 H1 ((v1, d) :: (.ref a0, .lst true ds) :: (tmp ++ slots σ (e1.set i none))) := q3.bag.perm (List.Perm.swap _ _ _)
                  obtain ⟨vs, hq, hl, h5⟩ := Hold.app1 q4
                  refine ⟨a0, vs, v1, rfl, rfl, hq, by rw [hl]; exact hz, ?_⟩
                  have q8 : SR X.K Z1 (upd H1 a0 (.lst (vs ++ [v1]))) σ (e1.set i none) ((.ref a0, .lst true (ds ++ [d])) :: tmp) := .of q3.fit h5
                  have q9 := q8.back (i := i) (by rw [List.getElem?_set_self (List.getElem?_eq_some_iff.mp gi').1]) hs0
                  rw [List.set_set] at q9
                  exact po Z1 _ _ (q9.add (Rp_non.mpr ⟨rfl, rfl⟩))
                · exact po.elim
            | _ => simp only [gi] at po; exact po.elim
    | _ => simp only [g0] at po; exact po.elim
def eExt (i : Nat) (f : DE → Res D) : DE → Res D := fun e => match e.getD i none with
  | some (.lst true _) => (f e).bind fun d e1 => match d, e1.getD i none with
    | .lst _ es, some (.lst true ds) => if es.all (fun d => !d.flag) = true ∧ ds.length + es.length ≤ sizeLine then .ok .non (e1.set i (some (.lst true (ds ++ es)))) else .stuck
    | _, _ => .stuck
  | _ => .stuck
theorem ve_extend (i : Nat) {x : Str} {p apos : Pos} {f : DE → Res D} (h : VE X W e f) (hN : X.N[i]? = some x := by rfl) (hv : Vis X.env.scope x := by first | exact Or.inl rfl | exact Or.inr (Or.inl rfl) | exact Or.inr (Or.inr rfl)) (hd : (x == ("__debug__" : Str)) = false := by decide)
    (hcd : (x == ("__classdict__" : Str)) = false := by decide)
    (hbase : attributeBase (.Name x p) "extend" X.env (eval (.Name x p) X.env) = eval (.Name x p) X.env := by rfl)
    (hfew : ((backTo pos (starEach [e] X.env)).all (fun x => !x.1) && (backToKw pos (keywordEach [] X.env)).all (fun x => x.1.isSome)
      && decide ([e].length + ([] : List Keyword).length + (if ([] : List Keyword).isEmpty then 0 else 1) < 30)) = true := by rfl)
    (hline : (apos.endLine == pos.line) = true := by rfl) (hs : starEach [e] X.env = (false, eval e X.env) :: starEach [] X.env := by rfl) :
    VE X W (.Call (.Attribute (.Name x p) "extend" apos) [e] [] pos) (eExt i f) := by
  obtain ⟨t, pt, s⟩ := h.ex
  refine ⟨_, pe_bm PySem.F.plainAttrs_list PySem.F.slot_list_extend PySem.F.type_list_extend mt_extend (pe_var hN hv hd hcd) (pa_cons pt pa_nil hs) hbase hfew hline hs (by rfl), fun Z σ H e tmp Q sr po => ?_⟩
  unfold eExt at po
  cases g0 : e.getD i none with
  | none => simp only [g0] at po; exact po.elim
  | some d0 =>
    obtain ⟨v0, fp0, hs0, r0⟩ := sr.rd (getD_some g0)
    cases d0 with
    | lst o ds0 =>
      cases o with
      | false => simp only [g0] at po; exact po.elim
      | true =>
        simp only [g0] at po
        obtain ⟨a0, vs0, f0, rfl, hq0, _⟩ := r0.lst_get
        refine ⟨_, hs0, .inl ⟨rfl, vs0, .of hq0⟩, s Z σ H e tmp _ sr ?_⟩
        cases h1 : f e with
        | stuck => rw [h1] at po; exact po
        | exn x e1 => rw [h1] at po; exact po
        | ok d e1 =>
          rw [h1, Res.bind_ok] at po
          intro Z1 H1 v1 q1
          cases d with
          | lst o2 es =>
            cases gi : e1.getD i none with
            | none => simp only [gi] at po; exact po.elim
            | some dl =>
              have gi' := getD_some gi
              cases dl with
              | lst o ds =>
                cases o with
                | false => simp only [gi] at po; exact po.elim
                | true =>
                  simp only [gi] at po
                  split at po
                  · rename_i hz
                    obtain ⟨fb, rb⟩ := q1.bag.rep
                    obtain ⟨b, ws, f2, rfl, hqb, lb⟩ := rb.lst_get
                    have nf := nf_all hz.1
                    have e0 := RpL.noflag lb nf
                    subst e0
                    obtain ⟨w, hw, q3⟩ := q1.out gi'
                    rw [hs0] at hw
                    cases hw
                    have hold : Hold X.K [] Z1 H1 ((.ref a0, .lst true ds) :: (ws.zip es ++ ((V.ref b, D.lst o2 es) :: tmp ++ slots σ (e1.set i none)))) := by
                      have h0 := Hold.addL lb nf q3.bag
                      exact h0.perm List.perm_middle
                    obtain ⟨a, vs, ea, hq, hl, h4⟩ := Hold.takeL hold
                    cases ea
                    refine ⟨a0, b, vs, ws, rfl, rfl, hq, hqb, by rw [hl, lb.length]; exact hz.2, ?_⟩
                    have h5 : Hold X.K [a0] Z1 H1 ((vs ++ ws).zip (ds ++ es) ++ ((V.ref b, D.lst o2 es) :: tmp ++ slots σ (e1.set i none))) := by
                      rw [List.zip_append hl, List.append_assoc]; exact h4
                    have h7 := Hold.layL h5 (by simp [hl, lb.length]) (by simp)
                    have q8 : SR X.K Z1 (upd H1 a0 (.lst (vs ++ ws))) σ (e1.set i none) ((.ref a0, .lst true (ds ++ es)) :: tmp) := .of q3.fit (Hold.mid (L1 := [(V.ref b, D.lst o2 es)]) h7)
                    have q9 := q8.back (i := i) (by rw [List.getElem?_set_self (List.getElem?_eq_some_iff.mp gi').1]) hs0
                    rw [List.set_set] at q9
                    exact po Z1 _ _ (q9.add (Rp_non.mpr ⟨rfl, rfl⟩))
                  · exact po.elim
              | _ => simp only [gi] at po; exact po.elim
          | _ => exact po.elim
    | _ => simp only [g0] at po; exact po.elim
end
end Tr

set_option maxHeartbeats 2000000
/-! The tree layer 10: built-in functions, enumerate, zip. -/
namespace Tr
open PySem PySem.Spec PyProof.Rows L2
section
variable {K : PySem.W.Frag}
def dInts? : List D → Option (List Int)
  | [] => some []
  | .int i :: ds => (dInts? ds).map (i :: ·)
  | _ => none
def dBls? : List D → Option (List Bool)
  | [] => some []
  | .bl i :: ds => (dBls? ds).map (i :: ·)
  | _ => none
theorem RpL.allI {Z : AS} {H : Hp} : ∀ {ds : List D} {vs : List V} {fp : List Addr} {ns : List Int}, RpL K Z H ds vs fp → dInts? ds = some ns → vs = ns.map V.int
  | [], vs, fp, ns, h, e => by obtain ⟨rfl, _⟩ := RpL_nil.mp h; cases e; rfl
  | d :: ds, vs, fp, ns, h, e => by
    obtain ⟨v, vr, f1, f2, rfl, _, r1, r2⟩ := RpL_cons.mp h
    cases d with
    | int i =>
      simp only [dInts?, Option.map_eq_some_iff] at e
      obtain ⟨ms, e1, rfl⟩ := e
      obtain ⟨rfl, _⟩ := Rp_int.mp r1
      rw [RpL.allI r2 e1]; rfl
    | _ => cases e
theorem RpL.allB {Z : AS} {H : Hp} : ∀ {ds : List D} {vs : List V} {fp : List Addr} {ns : List Bool}, RpL K Z H ds vs fp → dBls? ds = some ns → vs = ns.map V.bl
  | [], vs, fp, ns, h, e => by obtain ⟨rfl, _⟩ := RpL_nil.mp h; cases e; rfl
  | d :: ds, vs, fp, ns, h, e => by
    obtain ⟨v, vr, f1, f2, rfl, _, r1, r2⟩ := RpL_cons.mp h
    cases d with
    | bl i =>
      simp only [dBls?, Option.map_eq_some_iff] at e
      obtain ⟨ms, e1, rfl⟩ := e
      obtain ⟨rfl, _⟩ := Rp_bl.mp r1
      rw [RpL.allB r2 e1]; rfl
    | _ => cases e
/-- one argument -/
def d1 (g : D → Rs D) : List D → Rs D
  | [d] => g d
  | _ => .stuck
def d2 (g : D → D → Rs D) : List D → Rs D
  | [d, e] => g d e
  | _ => .stuck
/-! ### len -/
def rLenA (K : PySem.W.Frag) : List V → Hp → VK → Prop := fun xs H Q => (∃ p ys, xs = [.ref p] ∧ (SqL K H p ys ∨ SqT K H p ys) ∧ Q (.int ys.length) H) ∨ ∃ z, xs = [.str z] ∧ z.length ≤ sizeLine ∧ Q (.int z.length) H
theorem call_lenA {X : Cx} : CallR X (.builtin "len") (rLenA X.K) := call_len_seq.or call_len_str
def dLen : D → Rs D
  | .tup ds => .ok (.int ds.length)
  | .lst _ ds => .ok (.int ds.length)
  | .scr ns => .ok (.int ns.length)
  | .str x => if x.length ≤ sizeLine then .ok (.int x.length) else .stuck
  | _ => .stuck
theorem cs_len : CallS K (rLenA K) (d1 dLen) := by
  intro Z H B Q W ds vs b r po
  unfold d1 at po
  split at po
  · cases r with
    | cons r rr =>
      cases rr
      unfold dLen at po
      split at po
      · obtain ⟨_, a, vs, rfl, q, l⟩ := Rp_tup.mp r
        exact .inl ⟨a, vs, rfl, .inr q.seq, by rw [l.length]; exact po.int b⟩
      · obtain ⟨a, vs, f, rfl, q, l⟩ := r.lst_get
        exact .inl ⟨a, vs, rfl, .inl (.of q), by rw [l.length]; exact po.int b⟩
      · obtain ⟨_, a, rfl, q⟩ := Rp_scr.mp r
        exact .inl ⟨a, _, rfl, .inl q.seq, by rw [List.length_map]; exact po.int b⟩
      · obtain ⟨rfl, _⟩ := Rp_str.mp r
        split at po
        · rename_i h
          exact .inr ⟨_, rfl, h, po.int b⟩
        · exact po.elim
      · exact po.elim
  · exact po.elim
/-! ### sum, all, any, max, min of a list -/
theorem sum_rawT {prog : Program} {w : World} {A : Around} {E : Value → Shared → Prop} {s : Shared} {l : Addr} {its : List Value} {ns : List Int} {Q : Value → Shared → Prop} (hh : A.handled = none) (hl : s.heap.IsTuple l its.toArray) (hi : IntsAre its ns)
    (h : ∀ h' tk t', (∀ b o, s.heap.get? b = some o → h'.get? b = some o) → Q (.int ns.sum t') { s with heap := h', toks := tk }) : wpAny (model prog w) A (call (.builtin "sum") [.ref l]) Q E s := by
  obtain ⟨xs, e⟩ := hi.allInts.items
  have hn : numsOf (intItems xs).toList = ns := by rw [← e]; exact hi.numsOf
  rw [nums_intItems] at hn
  rw [e] at hl
  refine PySem.W.ktm_sumG hh hl fun h' tk t' hk => ?_
  have := h h' tk t' hk
  rw [preSum_eq, List.take_of_length_le (by simp), hn]; exact this
/-- sum(xs) of a list or a tuple of ints -/
def rSumA (K : PySem.W.Frag) : List V → Hp → VK → Prop := fun vs H Q => rSum K vs H Q ∨ ∃ (a : Addr) (ns : List Int), vs = [V.ref a] ∧ SqT K H a (ns.map V.int) ∧ Q (.int ns.sum) H
theorem cr_sumT {X : Cx} (hc : X.calm = true) : CallR X (.builtin "sum") (fun vs H Q => ∃ (a : Addr) (ns : List Int), vs = [V.ref a] ∧ SqT X.K H a (ns.map V.int) ∧ Q (.int ns.sum) H) := by
  intro pins s σ H vs us Q I r h
  obtain ⟨a, ns, rfl, hs, q⟩ := h
  obtain ⟨its, rv, hl, _⟩ := I.tuple hs
  rw [Vals.ref1 r]
  exact sum_rawT (I.ok.hd hc) hl rv.ints fun h' tk t' hk => ⟨.int _, H, I.kept hk, ⟨_, rfl⟩, q⟩
theorem cr_sumA {X : Cx} (hc : X.calm = true) : CallR X (.builtin "sum") (rSumA X.K) := (cr_sum hc).or (cr_sumT hc)
def dSum : D → Rs D
  | .lst _ ds => match dInts? ds with
    | some ns => .ok (.int ns.sum)
    | none => .stuck
  | .tup ds => match dInts? ds with
    | some ns => .ok (.int ns.sum)
    | none => .stuck
  | .scr ns => .ok (.int ns.sum)
  | _ => .stuck
theorem cs_sum : CallS K (rSumA K) (d1 dSum) := by
  intro Z H B Q W ds vs b r po
  unfold d1 at po
  split at po
  · cases r with
    | cons r rr =>
      cases rr
      unfold dSum at po
      split at po
      · obtain ⟨a, vs, f, rfl, q, l⟩ := r.lst_get
        split at po
        · rename_i ns h
          have e := l.allI h
          subst e
          exact .inl ⟨a, ns, rfl, .of q, po.int b⟩
        · exact po.elim
      · obtain ⟨_, a, vs, rfl, q, l⟩ := Rp_tup.mp r
        split at po
        · rename_i ns h
          have e := l.allI h
          subst e
          exact .inr ⟨a, ns, rfl, q.seq, po.int b⟩
        · exact po.elim
      · obtain ⟨_, a, rfl, q⟩ := Rp_scr.mp r
        exact .inl ⟨a, _, rfl, q.seq, po.int b⟩
      · exact po.elim
  · exact po.elim
def dAll : D → Rs D
  | .lst _ ds => match dBls? ds with
    | some ns => .ok (.bl (ns.all id))
    | none => .stuck
  | _ => .stuck
theorem cs_all : CallS K (rAll K) (d1 dAll) := by
  intro Z H B Q W ds vs b r po
  unfold d1 at po
  split at po
  · cases r with
    | cons r rr =>
      cases rr
      unfold dAll at po
      split at po
      · obtain ⟨a, vs, f, rfl, q, l⟩ := r.lst_get
        split at po
        · rename_i ns h
          have e := l.allB h
          subst e
          exact ⟨a, ns, rfl, .of q, po.bl b⟩
        · exact po.elim
      · exact po.elim
  · exact po.elim
def dAny : D → Rs D
  | .lst _ ds => match dBls? ds with
    | some ns => .ok (.bl (ns.any id))
    | none => .stuck
  | _ => .stuck
theorem cs_any : CallS K (rAny K) (d1 dAny) := by
  intro Z H B Q W ds vs b r po
  unfold d1 at po
  split at po
  · cases r with
    | cons r rr =>
      cases rr
      unfold dAny at po
      split at po
      · obtain ⟨a, vs, f, rfl, q, l⟩ := r.lst_get
        split at po
        · rename_i ns h
          have e := l.allB h
          subst e
          exact ⟨a, ns, rfl, .of q, po.bl b⟩
        · exact po.elim
      · exact po.elim
  · exact po.elim
theorem max_at {ns : List Int} {m : Int} (h1 : m ∈ ns) (h2 : ∀ y ∈ ns, y ≤ m) : ns.max? = some m := by
  rw [List.max?_eq_some_iff]; exact ⟨h1, h2⟩
theorem min_at {ns : List Int} {m : Int} (h1 : m ∈ ns) (h2 : ∀ y ∈ ns, m ≤ y) : ns.min? = some m := by
  rw [List.min?_eq_some_iff]; exact ⟨h1, h2⟩

section
variable {prog : Program} {w : World} {A : Around} {E : Value → Shared → Prop} {s : Shared} {t : Addr}
theorem tup_kept {h' : Heap} (hk : ∀ b o, b ∉ [s.heap.objs.size] → (s.heap.push { cls := .type "tuple_iterator", data := .fields #[.ref t, .int 0 0] }).get? b = some o → h'.get? b = some o) : ∀ b o, s.heap.get? b = some o → h'.get? b = some o := fun b o e => by
  refine hk b o (fun hm => ?_) (Heap.get?_push_of_some _ e)
  rcases List.mem_cons.mp hm with e1 | hm
  · exact absurd (e1 ▸ Heap.lt_size e) (Nat.lt_irrefl _)
  · cases hm
theorem iter_intTup {xs : Array (Int × Tok)} {Q : Value → Shared → Prop} (ht : s.heap.IsTuple t (intItems xs))
    (h : ∀ s₂ : Shared, s₂ = { s with heap := s.heap.push { cls := .type "tuple_iterator", data := .fields #[.ref t, .int 0 0] } } →
      (s₂.heap.IsTupleIter s.heap.objs.size t 0 ∧ s₂.heap.IsTuple t (intItems xs)) → (∀ b ∈ [s.heap.objs.size, t], b < s₂.heap.objs.size) → t ≠ s.heap.objs.size → Q (.ref s.heap.objs.size) s₂) : wpAny (model prog w) A (pyIter (.ref t)) Q E s := by
  have hlt : t < s.heap.objs.size := by obtain ⟨_, e, _⟩ := ht; exact Heap.lt_size e
  refine wpAny_pyIter_tuple ht (h _ rfl ⟨⟨_, Heap.get?_push_size _ rfl, rfl, rfl⟩, ht.at fun o e => Heap.get?_push_of_some _ e⟩ (fun b hb => ?_) (Nat.ne_of_lt hlt))
  show b < (s.heap.push _).objs.size
  rw [Heap.size_push]
  rcases List.mem_cons.mp hb with rfl | hb
  · exact Nat.lt_succ_self _
  · rcases List.mem_cons.mp hb with rfl | hb
    · exact Nat.lt_succ_of_lt hlt
    · cases hb
theorem max_intTup {xs : Array (Int × Tok)} {Q : Value → Shared → Prop} (hh : A.handled = none) (hl : s.heap.IsTuple t (intItems xs)) (hne : 0 < xs.size)
    (h : ∀ v h' tk, (intItems xs)[argBest (fun i j => decide (numAt xs i > numAt xs j)) (xs.size - 1)]? = some v → (∀ b o, s.heap.get? b = some o → h'.get? b = some o) → Q v { s with heap := h', toks := tk }) :
    wpAny (model prog w) A (call (.builtin "max") [.ref t]) Q E s := by
  refine call_max_walk (iter_intTup hl fun s₂ e st hfp hlI => ?_)
  subst e
  refine ⟨_, _, _, _, _, _, _, rfl, Walks.tuple (A := A.in1) hh _ t hlI (intItems xs), st, hfp, by simpa [intItems] using hne, CmpOf.ints_gt (numAt xs) (fun _ _ => intItems_at), fun v h' tk hP hk => ?_⟩
  exact h v h' tk (by simpa [intItems] using hP) (tup_kept hk)
theorem min_intTup {xs : Array (Int × Tok)} {Q : Value → Shared → Prop} (hh : A.handled = none) (hl : s.heap.IsTuple t (intItems xs)) (hne : 0 < xs.size)
    (h : ∀ v h' tk, (intItems xs)[argBest (fun i j => decide (numAt xs i < numAt xs j)) (xs.size - 1)]? = some v → (∀ b o, s.heap.get? b = some o → h'.get? b = some o) → Q v { s with heap := h', toks := tk }) :
    wpAny (model prog w) A (call (.builtin "min") [.ref t]) Q E s := by
  refine call_min_walk (iter_intTup hl fun s₂ e st hfp hlI => ?_)
  subst e
  refine ⟨_, _, _, _, _, _, _, rfl, Walks.tuple (A := A.in1) hh _ t hlI (intItems xs), st, hfp, by simpa [intItems] using hne, CmpOf.ints_lt (numAt xs) (fun _ _ => intItems_at), fun v h' tk hP hk => ?_⟩
  exact h v h' tk (by simpa [intItems] using hP) (tup_kept hk)
theorem max_rawT {its : List Value} {ns : List Int} {Q : Value → Shared → Prop} (hh : A.handled = none) (hl : s.heap.IsTuple t its.toArray) (hi : IntsAre its ns) (hne : 0 < ns.length)
    (h : ∀ h' tk M t', (∀ b o, s.heap.get? b = some o → h'.get? b = some o) → M ∈ ns → (∀ a, a ∈ ns → a ≤ M) → Q (.int M t') { s with heap := h', toks := tk }) : wpAny (model prog w) A (call (.builtin "max") [.ref t]) Q E s := by
  obtain ⟨xs, e⟩ := hi.allInts.items
  have hn : numsOf (intItems xs).toList = ns := by rw [← e]; exact hi.numsOf
  rw [nums_intItems] at hn
  subst hn
  rw [e] at hl
  have hsz : 0 < xs.size := by simpa using hne
  refine max_intTup hh hl hsz fun v h' tk hv hk => ?_
  obtain ⟨t, rfl⟩ := intItems_at hv
  obtain ⟨h1, h2⟩ := argBest_gt (numAt xs) (xs.size - 1)
  refine h h' tk _ t hk ?_ fun a ha => ?_
  · rw [numAt_eq]; exact PySem.getD_mem (by rw [List.length_map, Array.length_toList]; omega)
  · obtain ⟨j, hj, rfl⟩ := mem_getD ha
    rw [List.length_map, Array.length_toList] at hj
    rw [← numAt_eq]; exact h2 j (by omega)
theorem min_rawT {its : List Value} {ns : List Int} {Q : Value → Shared → Prop} (hh : A.handled = none) (hl : s.heap.IsTuple t its.toArray) (hi : IntsAre its ns) (hne : 0 < ns.length)
    (h : ∀ h' tk M t', (∀ b o, s.heap.get? b = some o → h'.get? b = some o) → M ∈ ns → (∀ a, a ∈ ns → M ≤ a) → Q (.int M t') { s with heap := h', toks := tk }) : wpAny (model prog w) A (call (.builtin "min") [.ref t]) Q E s := by
  obtain ⟨xs, e⟩ := hi.allInts.items
  have hn : numsOf (intItems xs).toList = ns := by rw [← e]; exact hi.numsOf
  rw [nums_intItems] at hn
  subst hn
  rw [e] at hl
  have hsz : 0 < xs.size := by simpa using hne
  refine min_intTup hh hl hsz fun v h' tk hv hk => ?_
  obtain ⟨t, rfl⟩ := intItems_at hv
  obtain ⟨h1, h2⟩ := argBest_lt (numAt xs) (xs.size - 1)
  refine h h' tk _ t hk ?_ fun a ha => ?_
  · rw [numAt_eq]; exact PySem.getD_mem (by rw [List.length_map, Array.length_toList]; omega)
  · obtain ⟨j, hj, rfl⟩ := mem_getD ha
    rw [List.length_map, Array.length_toList] at hj
    rw [← numAt_eq]; exact h2 j (by omega)
end
def rMaxT (K : PySem.W.Frag) : List V → Hp → VK → Prop := fun vs H Q => ∃ (a : Addr) (ns : List Int), vs = [V.ref a] ∧ SqT K H a (ns.map V.int) ∧ 0 < ns.length ∧ ∀ m, m ∈ ns → (∀ y, y ∈ ns → y ≤ m) → Q (.int m) H
def rMinT (K : PySem.W.Frag) : List V → Hp → VK → Prop := fun vs H Q => ∃ (a : Addr) (ns : List Int), vs = [V.ref a] ∧ SqT K H a (ns.map V.int) ∧ 0 < ns.length ∧ ∀ m, m ∈ ns → (∀ y, y ∈ ns → m ≤ y) → Q (.int m) H
theorem cr_maxT {X : Cx} (hc : X.calm = true) : CallR X (.builtin "max") (rMaxT X.K) := by
  intro pins s σ H vs us Q I r h
  obtain ⟨a, ns, rfl, hs, hne, q⟩ := h
  obtain ⟨its, rv, hl, _⟩ := I.tuple hs
  rw [Vals.ref1 r]
  exact max_rawT (I.ok.hd hc) hl rv.ints hne fun h' tk m t' hk h1 h2 => ⟨.int _, H, I.kept hk, ⟨_, rfl⟩, q m h1 h2⟩
theorem cr_minT {X : Cx} (hc : X.calm = true) : CallR X (.builtin "min") (rMinT X.K) := by
  intro pins s σ H vs us Q I r h
  obtain ⟨a, ns, rfl, hs, hne, q⟩ := h
  obtain ⟨its, rv, hl, _⟩ := I.tuple hs
  rw [Vals.ref1 r]
  exact min_rawT (I.ok.hd hc) hl rv.ints hne fun h' tk m t' hk h1 h2 => ⟨.int _, H, I.kept hk, ⟨_, rfl⟩, q m h1 h2⟩
def rMaxA (K : PySem.W.Frag) : List V → Hp → VK → Prop := fun xs H Q => (∃ i j, xs = [.int i, .int j] ∧ Q (.int (if j > i then j else i)) H) ∨ (rMax K xs H Q ∨ rMaxT K xs H Q)
def rMinA (K : PySem.W.Frag) : List V → Hp → VK → Prop := fun xs H Q => (∃ i j, xs = [.int i, .int j] ∧ Q (.int (if j < i then j else i)) H) ∨ (rMin K xs H Q ∨ rMinT K xs H Q)
theorem call_maxA {X : Cx} (hc : X.calm = true) : CallR X (.builtin "max") (rMaxA X.K) := (call_max2 hc).or ((cr_max hc).or (cr_maxT hc))
theorem call_minA {X : Cx} (hc : X.calm = true) : CallR X (.builtin "min") (rMinA X.K) := (call_min2 hc).or ((cr_min hc).or (cr_minT hc))
def dMax : List D → Rs D
  | [.int i, .int j] => .ok (.int (max i j))
  | [.lst _ ds] => match (dInts? ds).bind List.max? with
    | some m => .ok (.int m)
    | none => .stuck
  | [.tup ds] => match (dInts? ds).bind List.max? with
    | some m => .ok (.int m)
    | none => .stuck
  | _ => .stuck
def dMin : List D → Rs D
  | [.int i, .int j] => .ok (.int (min i j))
  | [.lst _ ds] => match (dInts? ds).bind List.min? with
    | some m => .ok (.int m)
    | none => .stuck
  | [.tup ds] => match (dInts? ds).bind List.min? with
    | some m => .ok (.int m)
    | none => .stuck
  | _ => .stuck
theorem cs_max : CallS K (rMaxA K) dMax := by
  intro Z H B Q W ds vs b r po
  unfold dMax at po
  split at po
  · rename_i i j
    cases r with
    | cons r rr =>
      cases rr with
      | cons r' rr =>
        cases rr
        obtain ⟨rfl, _⟩ := Rp_int.mp r
        obtain ⟨rfl, _⟩ := Rp_int.mp r'
        refine .inl ⟨i, j, rfl, ?_⟩
        have e : (if j > i then j else i) = max i j := by
          by_cases h : j > i
          · rw [if_pos h]; omega
          · rw [if_neg h]; omega
        rw [e]; exact po.int b
  · cases r with
    | cons r rr =>
      cases rr
      obtain ⟨a, vs, f, rfl, q, l⟩ := r.lst_get
      split at po
      · rename_i m h
        rw [Option.bind_eq_some_iff] at h
        obtain ⟨ns, h1, h2⟩ := h
        have e := l.allI h1
        subst e
        have hm := List.max?_eq_some_iff.mp h2
        refine .inr (.inl ⟨a, ns, rfl, .of q, List.length_pos_of_mem hm.1, fun m' h1 h2' => ?_⟩)
        have := (max_at h1 h2').symm.trans h2
        cases this
        exact po.int b
      · exact po.elim
  · cases r with
    | cons r rr =>
      cases rr
      obtain ⟨_, a, vs, rfl, q, l⟩ := Rp_tup.mp r
      split at po
      · rename_i m h
        rw [Option.bind_eq_some_iff] at h
        obtain ⟨ns, h1, h2⟩ := h
        have e := l.allI h1
        subst e
        have hm := List.max?_eq_some_iff.mp h2
        refine .inr (.inr ⟨a, ns, rfl, q.seq, List.length_pos_of_mem hm.1, fun m' h1 h2' => ?_⟩)
        have := (max_at h1 h2').symm.trans h2
        cases this
        exact po.int b
      · exact po.elim
  · exact po.elim
theorem cs_min : CallS K (rMinA K) dMin := by
  intro Z H B Q W ds vs b r po
  unfold dMin at po
  split at po
  · rename_i i j
    cases r with
    | cons r rr =>
      cases rr with
      | cons r' rr =>
        cases rr
        obtain ⟨rfl, _⟩ := Rp_int.mp r
        obtain ⟨rfl, _⟩ := Rp_int.mp r'
        refine .inl ⟨i, j, rfl, ?_⟩
        have e : (if j < i then j else i) = min i j := by
          by_cases h : j < i
          · rw [if_pos h]; omega
          · rw [if_neg h]; omega
        rw [e]; exact po.int b
  · cases r with
    | cons r rr =>
      cases rr
      obtain ⟨a, vs, f, rfl, q, l⟩ := r.lst_get
      split at po
      · rename_i m h
        rw [Option.bind_eq_some_iff] at h
        obtain ⟨ns, h1, h2⟩ := h
        have e := l.allI h1
        subst e
        have hm := List.min?_eq_some_iff.mp h2
        refine .inr (.inl ⟨a, ns, rfl, .of q, List.length_pos_of_mem hm.1, fun m' h1 h2' => ?_⟩)
        have := (min_at h1 h2').symm.trans h2
        cases this
        exact po.int b
      · exact po.elim
  · cases r with
    | cons r rr =>
      cases rr
      obtain ⟨_, a, vs, rfl, q, l⟩ := Rp_tup.mp r
      split at po
      · rename_i m h
        rw [Option.bind_eq_some_iff] at h
        obtain ⟨ns, h1, h2⟩ := h
        have e := l.allI h1
        subst e
        have hm := List.min?_eq_some_iff.mp h2
        refine .inr (.inr ⟨a, ns, rfl, q.seq, List.length_pos_of_mem hm.1, fun m' h1 h2' => ?_⟩)
        have := (min_at h1 h2').symm.trans h2
        cases this
        exact po.int b
      · exact po.elim
  · exact po.elim
/-! ### abs, int, list, tuple, isinstance -/
def dAbs : D → Rs D
  | .int i => .ok (.int (i.natAbs : Nat))
  | _ => .stuck
theorem cs_abs : CallS K (fun xs H Q => ∃ i, xs = [.int i] ∧ Q (.int (if i < 0 then -i else i)) H) (d1 dAbs) := by
  intro Z H B Q W ds vs b r po
  unfold d1 at po
  split at po
  · cases r with
    | cons r rr =>
      cases rr
      unfold dAbs at po
      split at po
      · rename_i i
        obtain ⟨rfl, _⟩ := Rp_int.mp r
        refine ⟨i, rfl, ?_⟩
        have e : (if i < 0 then -i else i) = ((i.natAbs : Nat) : Int) := by
          by_cases h : i < 0
          · rw [if_pos h]; omega
          · rw [if_neg h]; omega
        rw [e]; exact po.int b
      · exact po.elim
  · exact po.elim
def dInt : D → Rs D
  | .int i => .ok (.int i)
  | .bl b => .ok (.int (if b then 1 else 0))
  | _ => .stuck
theorem cs_int : CallS K (fun xs H Q => (∃ i, xs = [.int i] ∧ Q (.int i) H) ∨ ∃ k, xs = [.bl k] ∧ Q (.int (if k then 1 else 0)) H) (d1 dInt) := by
  intro Z H B Q W ds vs b r po
  unfold d1 at po
  split at po
  · cases r with
    | cons r rr =>
      cases rr
      unfold dInt at po
      split at po
      · obtain ⟨rfl, _⟩ := Rp_int.mp r
        exact .inl ⟨_, rfl, po.int b⟩
      · obtain ⟨rfl, _⟩ := Rp_bl.mp r
        exact .inr ⟨_, rfl, po.int b⟩
      · exact po.elim
  · exact po.elim
def dList : D → Rs D
  | .tup ds => .ok (.lst true ds)
  | .lst _ ds => if ds.all (fun d => !d.flag) = true then .ok (.lst true ds) else .stuck
  | .scr ns => .ok (.lst true (ns.map .int))
  | _ => .stuck
theorem rpl_ints {Z : AS} {H : Hp} : ∀ ns : List Int, RpL K Z H (ns.map .int) (ns.map V.int) []
  | [] => RpL_nil.mpr ⟨rfl, rfl⟩
  | n :: ns => RpL_cons.mpr ⟨_, _, [], [], rfl, rfl, Rp_int.mpr ⟨rfl, rfl⟩, rpl_ints ns⟩
theorem cs_list : CallS K (fun xs H Q => ∃ p ys, xs = [.ref p] ∧ (SqL K H p ys ∨ SqT K H p ys) ∧ ∀ l, H l = none → Q (.ref l) (upd H l (.lst ys))) (d1 dList) := by
  intro Z H B Q W ds vs b r po
  unfold d1 at po
  split at po
  · cases r with
    | cons r rr =>
      cases rr
      unfold dList at po
      split at po
      · obtain ⟨_, a, vs, rfl, q, l⟩ := Rp_tup.mp r
        exact ⟨a, vs, rfl, .inr q.seq, fun p hp => po Z _ _ (Hold.mkL b l l.nf hp)⟩
      · obtain ⟨a, vs, f, rfl, q, l⟩ := r.lst_get
        split at po
        · rename_i h
          exact ⟨a, vs, rfl, .inl (.of q), fun p hp => po Z _ _ (Hold.mkL b l (nf_all h) hp)⟩
        · exact po.elim
      · obtain ⟨_, a, rfl, q⟩ := Rp_scr.mp r
        exact ⟨a, _, rfl, .inl q.seq, fun p hp => po Z _ _ (Hold.mkL b (rpl_ints _) (rpl_ints (K := K) (Z := Z) (H := H) _).nf hp)⟩
      · exact po.elim
  · exact po.elim
def dTuple : D → Rs D
  | .tup ds => .ok (.tup ds)
  | .lst _ ds => if ds.all (fun d => !d.flag) = true then .ok (.tup ds) else .stuck
  | .scr ns => .ok (.tup (ns.map .int))
  | _ => .stuck
theorem cs_tuple : CallS K (fun xs H Q => ∃ p ys, xs = [.ref p] ∧ ((SqL K H p ys ∧ ∀ l, H l = none → Q (.ref l) (upd H l (.tup ys))) ∨ (SqT K H p ys ∧ Q (.ref p) H))) (d1 dTuple) := by
  intro Z H B Q W ds vs b r po
  unfold d1 at po
  split at po
  · cases r with
    | cons r rr =>
      cases rr
      unfold dTuple at po
      split at po
      · have e0 := r.noflag rfl
        subst e0
        obtain ⟨_, a, vs, rfl, q, l⟩ := Rp_tup.mp r
        exact ⟨a, vs, rfl, .inr ⟨q.seq, po Z H _ (b.add r)⟩⟩
      · obtain ⟨a, vs, f, rfl, q, l⟩ := r.lst_get
        split at po
        · rename_i h
          exact ⟨a, vs, rfl, .inl ⟨.of q, fun p hp => po Z _ _ (Hold.mkT b l (nf_all h) hp)⟩⟩
        · exact po.elim
      · obtain ⟨_, a, rfl, q⟩ := Rp_scr.mp r
        exact ⟨a, _, rfl, .inl ⟨q.seq, fun p hp => po Z _ _ (Hold.mkT b (rpl_ints _) (rpl_ints (K := K) (Z := Z) (H := H) _).nf hp)⟩⟩
      · exact po.elim
  · exact po.elim
def D.tyN : D → Option String
  | .non => some "NoneType"
  | .bl _ => some "bool"
  | .int _ => some "int"
  | .str _ => some "str"
  | .tup _ => some "tuple"
  | .lst _ _ => some "list"
  | .scr _ => some "list"
  | .dct _ _ _ => some "dict"
  | _ => none
theorem Rp.tyx {Z : AS} {H : Hp} {d : D} {v : V} {fp : List Addr} {n : String} (h : Rp K Z H d v fp) (e : d.tyN = some n) : TyX K H v (.type n) := by
  cases d with
  | non => obtain ⟨rfl, _⟩ := Rp_non.mp h; cases e; exact .base .non
  | bl b => obtain ⟨rfl, _⟩ := Rp_bl.mp h; cases e; exact .base (.bl b)
  | int i => obtain ⟨rfl, _⟩ := Rp_int.mp h; cases e; exact .base (.int i)
  | str x => obtain ⟨rfl, _⟩ := Rp_str.mp h; cases e; exact .base (.str x)
  | tup ds =>
    obtain ⟨_, a, vs, rfl, q, l⟩ := Rp_tup.mp h
    cases e
    rcases q with q | ⟨o, its, n, hk, hc, _⟩
    · exact .base (.tup q)
    · exact .kTuple hk hc
  | lst o ds => obtain ⟨a, vs, f, rfl, q, l⟩ := h.lst_get; cases e; exact .base (.lst q)
  | scr ns =>
    obtain ⟨_, a, rfl, q⟩ := Rp_scr.mp h
    cases e
    rcases q with ⟨o, q⟩ | ⟨o, its, n, hk, hc, _⟩
    · exact .base (.frz q)
    · exact .kList hk hc
  | dct o kk ds =>
    cases e
    rcases Rp_dct.mp h with ⟨_, _, a, vs, rfl, _, q, _⟩ | ⟨_, a, vs, fp', rfl, _, _, q, _⟩ <;> cases kk
    · exact .base (.dK q)
    · exact .base (.dT q)
    · exact .base (.dK q)
    · exact .base (.dT q)
  | _ => cases e
def dIsi : D → D → Rs D
  | d, .ty T => match d.tyN with
    | some n => match kitB n T with
      | some b => .ok (.bl b)
      | none => .stuck
    | none => .stuck
  | _, _ => .stuck
theorem cs_isi : CallS K (rIsi K) (d2 dIsi) := by
  intro Z H B Q W ds vs b r po
  unfold d2 at po
  split at po
  · cases r with
    | cons r rr =>
      cases rr with
      | cons r' rr =>
        cases rr
        unfold dIsi at po
        split at po
        · rename_i T
          obtain ⟨rfl, _⟩ := Rp_ty.mp r'
          split at po
          · rename_i n hn
            split at po
            · rename_i bb hb
              exact ⟨_, _, _, _, bb, rfl, .ty T, r.tyx hn, kit_ty hb, po.bl b⟩
            · exact po.elim
          · exact po.elim
        · exact po.elim
  · exact po.elim
end
end Tr

set_option maxHeartbeats 2000000
/-! The tree layer 11: calls by name, keywords, pairs of names, enumerate, zip. -/
namespace Tr
open PySem PySem.Spec PyProof.Rows L2

/-! ### what is let out -/
theorem pxs0 {X : Cx} : ∀ σ, PassesAt (L2.CX X.prog X.w) X σ (W0 σ) := fun _ _ _ _ _ _ _ h => by
  obtain ⟨_, _, _, _, _, _, _, _, _, _, _, _, z⟩ := h
  exact z.elim
section
variable {P : Program} {w : World} {K : PySem.W.Frag} {mg : Str → Option Value} {base : Heap} {N : List Str} {qual : Str} {scope : Scope} {f : Addr} {cdv : Value} {A : Around} {outer : List Env} {s : Shared} {H : Hp} {E : XK}
theorem px_def : ∀ σ, PassesAt (L2.CX P w) (cxOf (L2.CX P w) P w K mg base N qual scope f cdv A outer s H E) σ E :=
  fun σ => passAt (X := cxOf (L2.CX P w) P w K mg base N qual scope f cdv A outer s H E) (W := fun c d _ H' => E c d H') (takes_of rfl rfl rfl rfl) σ
theorem po_def : PassesOwn (model P w) (cxOf (L2.CX P w) P w K mg base N qual scope f cdv A outer s H E).A (cxOf (L2.CX P w) P w K mg base N qual scope f cdv A outer s H E).env (cxOf (L2.CX P w) P w K mg base N qual scope f cdv A outer s H E).xe :=
  passes_of (X := cxOf (L2.CX P w) P w K mg base N qual scope f cdv A outer s H E) rfl
end

/-! ### a def that may be called by its name -/
structure Cal (P : Program) (w : World) (K : PySem.W.Frag) (mg : Str → Option Value) (base : Heap) (x : Str) (k n : Nat) (dds : List D) (G : List D → FR) : Prop where
  ex : ∃ (f : Addr) (fd : FuncData) (ps : List Str) (dvs : List V) (dsv : List Value), FnOk P w K mg base (L2.CX P w) k f fd ps (spG K n G) ∧ mg x = some (.ref f) ∧ PySem.W.keepIn K (.ref f) = true ∧ Binds K fd ps dsv ∧ Vals dvs dsv ∧ (∀ Z H, RpF K Z H dds dvs) ∧ ∀ d ∈ dds, d.flag = false
section
variable {X : Cx} {W : XW} {fx : List Nat} {a b c e tg : Expr} {es : List Expr} {pos : Pos}
theorem ve_cal {x : Str} {k j n : Nat} {dds : List D} {G : List D → FR} {p : Pos} {fa : DE → Res (List L)} (c : Cal X.prog X.w X.K X.mg X.base x k n dds G) (hr : Room j X.A) (hx : ∀ σ, PassesAt (L2.CX X.prog X.w) X σ (W σ)) (ha : VA X W (e :: es) fa) (hk : k ≤ j := by decide) (hg : Gl X x := by rfl) (hn : (e :: es).length + dds.length = n := by rfl)
    (hdb : (x == ("__debug__" : Str)) = false := by decide) (he : starEach (e :: es) X.env = (false, eval e X.env) :: starEach es X.env := by rfl) (hpl : (backTo pos (starEach es X.env)).any (·.1) = false := by rfl) :
    VE X W (.Call (.Name x p) (e :: es) [] pos) (eCall G dds fa) := by
  obtain ⟨f, fd, ps, dvs, dsv, F, hm, kp, hb, hd, hdd, hd0⟩ := c.ex
  exact ve_call F (hr.mono hk) hg hm kp hb hd hdd hd0 hx ha hn hdb he hpl

/-! ### calls with keywords: the keywords' values are plain; rest: what stands behind the positional ones -/
/-- the parameters behind the positional ones: a keyword's value by its place, or a default in turn -/
def arr {α : Type} (z : α) : List α → List (Option Nat) → List α → List α
  | _, [], _ => []
  | ds, some k :: sp, zs => zs.getD k z :: arr z ds sp zs
  | d :: ds, none :: sp, zs => d :: arr z ds sp zs
  | [], none :: sp, zs => z :: arr z [] sp zs
theorem arr_vals : ∀ {sp : List (Option Nat)} {ds : List V} {us : List Value} {zs : List V} {ws : List Value}, Vals ds us → Vals zs ws → Vals (arr .non ds sp zs) (arr .none us sp ws)
  | [], _, _, _, _, _, _ => by simp only [arr]; exact .nil
  | some k :: sp, ds, us, zs, ws, h1, h2 => by
    simp only [arr]
    refine .cons ?_ (arr_vals h1 h2)
    rw [List.getD_eq_getElem?_getD, List.getD_eq_getElem?_getD]
    cases hz : zs[k]? with
    | none => rw [h2.none_of hz]; rfl
    | some z => obtain ⟨u, hu, r⟩ := h2.get hz; rw [hu]; exact r
  | none :: sp, _, _, zs, ws, .nil, h2 => by simp only [arr]; exact .cons rfl (arr_vals .nil h2)
  | none :: sp, _, _, zs, ws, .cons r h1, h2 => by simp only [arr]; exact .cons r (arr_vals h1 h2)
theorem arr_length {α : Type} (z : α) : ∀ (ds : List α) (sp : List (Option Nat)) (zs : List α), (arr z ds sp zs).length = sp.length
  | _, [], _ => by simp [arr]
  | ds, some k :: sp, zs => by simp [arr, arr_length z ds sp zs]
  | d :: ds, none :: sp, zs => by simp [arr, arr_length z ds sp zs]
  | [], none :: sp, zs => by simp [arr, arr_length z [] sp zs]
/-- a keyword-only def called with n positional values and the keywords ks -/
theorem FunD.kb {K : PySem.W.Frag} {x qual : Str} {params : Arguments} {body : List Stmt} {scope : Scope} {kws : List (Str × V)} {f : Addr} {fd : FuncData} {ps : List Str} (F : FunD K x qual params body scope [] kws f fd) (n : Nat) (ks : List Str) (ms : List (Str × V)) (sp : List (Option Nat)) (hk : kws ≠ []) (hms : ∀ q ∈ ms, q ∈ kws)
    (h : ∀ (D : Addr) (doc pm : Value) (an : Option Addr) (cdv ct : Value) (us mv ws : List Value), us.length = n → mv.length = ms.length → ws.length = ks.length →
      KwChain D ((ms.map (·.1)).zip mv) (bindArgs (PySem.W.fnOf x qual params body scope .none (.ref D) doc pm an cdv ct) ⟨us, ks.zip ws⟩) (ps.zip (us ++ arr .none mv sp ws))) :
    ∃ mv : List Value, KBn K fd ps n ks (fun us ws => us ++ arr .none mv sp ws) (fun vs zs => vs ++ arr .non (ms.map (·.2)) sp zs) := by
  obtain ⟨oc, od, dV, kV, doc, pm, an, cdv, ct, osl, rfl, lk, hcd, hD, hK⟩ := F.ex
  rcases hD with ⟨_, rfl⟩ | ⟨e, _⟩
  · rcases hK with e | ⟨D, rfl, hq⟩
    · exact absurd e hk
    · obtain ⟨mv, hl, rk, hks⟩ := kwd_vals (ms := ms) fun q hm => hq q (hms q hm)
      refine ⟨mv, ⟨fun s us ws X l1 l2 => BindsTo.of_looks fun M => KwChain.looks X hks (h D doc pm an cdv ct us mv ws l1 hl l2), fun r1 r2 => r1.append (arr_vals rk r2)⟩⟩
  · exact absurd rfl e
/-- keyword-only parameters without defaults, all given -/
theorem FunD.kb0 {K : PySem.W.Frag} {x qual : Str} {params : Arguments} {body : List Stmt} {scope : Scope} {kws : List (Str × V)} {f : Addr} {fd : FuncData} {ps : List Str} (F : FunD K x qual params body scope [] kws f fd) (n : Nat) (ks : List Str) (sp : List (Option Nat))
    (h : ∀ (kV doc pm : Value) (an : Option Addr) (cdv ct : Value) (us ws : List Value), us.length = n → ws.length = ks.length →
      bindArgs (PySem.W.fnOf x qual params body scope .none kV doc pm an cdv ct) ⟨us, ks.zip ws⟩ = pure (ps.zip (us ++ arr .none [] sp ws))) :
    KBn K fd ps n ks (fun us ws => us ++ arr .none [] sp ws) (fun vs zs => vs ++ arr .non [] sp zs) := by
  obtain ⟨oc, od, dV, kV, doc, pm, an, cdv, ct, osl, rfl, lk, hcd, hD, hK⟩ := F.ex
  rcases hD with ⟨_, rfl⟩ | ⟨e, _⟩
  · exact ⟨fun s us ws X l1 l2 => .of_eq (h kV doc pm an cdv ct us ws l1 l2), fun r1 r2 => r1.append (arr_vals .nil r2)⟩
  · exact absurd rfl e
structure KCal (P : Program) (w : World) (K : PySem.W.Frag) (mg : Str → Option Value) (base : Heap) (x : Str) (k n np : Nat) (ks : List Str) (sp : List (Option Nat)) (dds : List D) (G : List D → FR) : Prop where
  ex : ∃ (f : Addr) (fd : FuncData) (ps : List Str) (dvs : List V) (mv : List Value), FnOk P w K mg base (L2.CX P w) k f fd ps (spG K n G) ∧ mg x = some (.ref f) ∧ PySem.W.keepIn K (.ref f) = true ∧ KBn K fd ps np ks (fun us ws => us ++ arr .none mv sp ws) (fun vs zs => vs ++ arr .non dvs sp zs) ∧ (∀ Z H, RpF K Z H dds dvs) ∧ ∀ d ∈ dds, d.flag = false
structure VK (X : Cx) (W : XW) (kws : List Keyword) (f : DE → Res (List L)) : Prop where
  ex : ∃ t, PK X kws t ∧ SndA X.K W t f
  len : ∀ e ls e1, f e = .ok ls e1 → ls.length = kws.length
theorem vk_nil : Tr.VK X W [] aNil := ⟨⟨_, pk_nil, fun Z σ H e tmp Q sr po => po Z H [] sr trivial⟩, fun e ls e1 h => by cases h; rfl⟩
theorem vk_cons {nm : Option Str} {kpos : Pos} {kws : List Keyword} {f : DE → Res D} {g : DE → Res (List L)} (ha : VE X W e f) (hr : Tr.VK X W kws g) : Tr.VK X W (⟨nm, e, kpos⟩ :: kws) (aCons (xOf f) g) := by
  obtain ⟨t, p, s⟩ := (vx_of ha).ex
  obtain ⟨t2, p2, s2⟩ := hr.ex
  refine ⟨⟨_, pk_cons p p2, fun Z σ H e tmp Q sr po => s Z σ H e tmp _ sr ?_⟩, fun e' ls e1 h => ?_⟩
  rotate_left
  · unfold aCons at h
    cases h1 : xOf f e' with
    | stuck => rw [h1] at h; cases h
    | exn x e2 => rw [h1] at h; cases h
    | ok l e2 =>
      rw [h1, Res.bind_ok] at h
      cases h2 : g e2 with
      | stuck => rw [h2] at h; cases h
      | exn x e3 => rw [h2] at h; cases h
      | ok ls' e3 =>
        rw [h2, Res.bind_ok] at h
        cases h
        simp [hr.len _ _ _ h2]
  unfold aCons at po
  cases h1 : xOf f e with
  | stuck => rw [h1] at po; exact po
  | exn x e1 => rw [h1] at po; exact po
  | ok l e1 =>
    rw [h1, Res.bind_ok] at po
    intro Z1 H1 v1 sr1 k1
    refine s2 Z1 σ H1 e1 (lbag l v1 ++ tmp) _ sr1 ?_
    cases h2 : g e1 with
    | stuck => rw [h2] at po; exact po
    | exn x e2 => rw [h2] at po; exact fun Z' H' c o q xr => po Z' H' c o q.drop xr
    | ok ls e2 =>
      rw [h2, Res.bind_ok] at po
      intro Z2 H2 vs sr2 k2
      refine po Z2 H2 (v1 :: vs) (sr2.perm ?_) ⟨k1, k2⟩
      show (lbags ls vs ++ (lbag l v1 ++ tmp)).Perm ((lbag l v1 ++ lbags ls vs) ++ tmp)
      rw [List.append_assoc]
      exact List.perm_append_comm_assoc _ _ _
def eCallK (G : List D → FR) (sp : List (Option Nat)) (dds : List D) (fa fk : DE → Res (List L)) : DE → Res D := fun e => (fa e).bind fun ls e1 => (fk e1).bind fun lk e2 => match vals lk with
  | some zs => if zs.all (fun d => !d.flag) = true then (match take ls e2 with
    | some (ds, e3) => match G (ds ++ arr .non dds sp zs) with
      | .ok d ds' => .ok d (give ls ds ds' e3)
      | .exn x ds' => .exn x (give ls ds ds' e3)
      | .stuck => .stuck
    | none => .stuck) else .stuck
  | none => .stuck
theorem rpf_get {K : PySem.W.Frag} {Z : AS} {H : Hp} : ∀ {ds : List D} {vs : List V} (k : Nat), RpF K Z H ds vs → ∃ fp, Rp K Z H (ds.getD k .non) (vs.getD k .non) fp
  | [], [], k, .nil => ⟨[], Rp_non.mpr ⟨rfl, rfl⟩⟩
  | _ :: _, _ :: _, 0, .cons r _ => ⟨_, r⟩
  | _ :: _, _ :: _, k + 1, .cons _ t => rpf_get k t
theorem arr_rpf {K : PySem.W.Frag} {Z : AS} {H : Hp} : ∀ {sp : List (Option Nat)} {dds : List D} {dvs : List V} {zs : List D} {zv : List V}, RpF K Z H dds dvs → RpF K Z H zs zv → RpF K Z H (arr .non dds sp zs) (arr .non dvs sp zv)
  | [], _, _, _, _, _, _ => by simp only [arr]; exact .nil
  | some k :: sp, dds, dvs, zs, zv, h1, h2 => by
    simp only [arr]
    obtain ⟨fp, r⟩ := rpf_get k h2
    exact .cons r (arr_rpf h1 h2)
  | none :: sp, [], [], zs, zv, .nil, h2 => by simp only [arr]; exact .cons (Rp_non.mpr ⟨rfl, rfl⟩) (arr_rpf .nil h2)
  | none :: sp, _ :: _, _ :: _, zs, zv, .cons r h1, h2 => by simp only [arr]; exact .cons r (arr_rpf h1 h2)
theorem arr_nf : ∀ {sp : List (Option Nat)} {dds zs : List D}, (∀ d ∈ dds, d.flag = false) → (∀ d ∈ zs, d.flag = false) → ∀ d ∈ arr .non dds sp zs, d.flag = false
  | [], dds, zs, _, _, d, h => by simp [arr] at h
  | some k :: sp, dds, zs, h1, h2, d, h => by
    simp only [arr, List.mem_cons] at h
    rcases h with rfl | h
    · rw [List.getD_eq_getElem?_getD]
      cases hz : zs[k]? with
      | none => rfl
      | some z => exact h2 z (List.mem_of_getElem? hz)
    · exact arr_nf h1 h2 d h
  | none :: sp, [], zs, h1, h2, d, h => by
    simp only [arr, List.mem_cons] at h
    rcases h with rfl | h
    · rfl
    · exact arr_nf h1 h2 d h
  | none :: sp, d0 :: dds, zs, h1, h2, d, h => by
    simp only [arr, List.mem_cons] at h
    rcases h with rfl | h
    · exact h1 _ List.mem_cons_self
    · exact arr_nf (fun x hx => h1 x (List.mem_cons_of_mem _ hx)) h2 d h
/-- run_fnN, what is raised wished for at the slots -/
theorem run_fnNS {CX : CXT} {k n : Nat} {f : Addr} {fd : FuncData} {ps ks : List Str} {sp : Sp} {E : XK} {g : List Value → List Value → List Value} {gV : List V → List V → List V} {pins : List (Addr × Obj)} {σ : Sg} {H : Hp} {s : Shared} {Q : L2.VK} {us ws : List Value} {vs zs : List V} (F : FnOk X.prog X.w X.K X.mg X.base CX k f fd ps sp) (hr : Room k X.A) (hb : KBn X.K fd ps n ks g gV) (hx : PassesAt CX X σ E)
    (I : Inv X pins σ H s) (r : Vals vs us) (rz : Vals zs ws) (l1 : vs.length = n) (l2 : zs.length = ks.length) (h : sp (gV vs zs) H Q E) : wpAny (model X.prog X.w) X.A (call (.ref f) us (ks.zip ws)) (EP X pins σ Q) X.xe s := by
  have r2 := hb.rel r rz
  refine wpAny_call (codeAny_mono (F.run X.A X.stack s H ⟨us, ks.zip ws⟩ (g us ws) (gV vs zs) Q E hr I.env0 (hb.to s us ws I.kIn (r.length.symm.trans l1) (rz.length.symm.trans l2)) r2 h) fun r s' hq => ?_)
  cases r with
  | error e => exact hx pins H s e s' I hq
  | ok fl =>
    cases fl with
    | ret u => exact I.after hq
    | next => exact False.elim hq
    | brk => exact False.elim hq
    | cont => exact False.elim hq
def tCallNS (n m : Nat) (sp : Sp) (gV : List V → List V → List V) (E : XW) (t tk : TA) : TE := fun σ H Q => t σ H fun vs H1 => tk σ H1 fun zs H2 => vs.length = n ∧ zs.length = m ∧ sp (gV vs zs) H2 Q (E σ)
theorem pe_callNS {CX : CXT} {k n : Nat} {f : Addr} {fd : FuncData} {ps ks : List Str} {sp : Sp} {x : Str} {p : Pos} {kws : List Keyword} {t tk : TA} {g : List Value → List Value → List Value} {gV : List V → List V → List V} (F : FnOk X.prog X.w X.K X.mg X.base CX k f fd ps sp) (hr : Room k X.A) (hg : Gl X x) (hm : X.mg x = some (.ref f)) (hk : PySem.W.keepIn X.K (.ref f) = true) (hb : KBn X.K fd ps n ks g gV) (hx : ∀ σ, PassesAt CX X σ (W σ))
    (ha : PA X (e :: es) t) (hkw : PK X kws tk) (hall : (backToKw pos (keywordEach kws X.env)).all (·.1.isSome) = true := by rfl) (hks : (backToKw pos (keywordEach kws X.env)).filterMap (·.1) = ks := by rfl)
    (hdb : (x == ("__debug__" : Str)) = false := by decide) (he : starEach (e :: es) X.env = (false, eval e X.env) :: starEach es X.env := by rfl)
    (hpl : ((backTo pos (starEach (e :: es) X.env)).any (·.1) || (backToKw pos (keywordEach kws X.env)).any (·.1.isNone)) = false := by rfl) :
    PE X (.Call (.Name x p) (e :: es) kws pos) (tCallNS n ks.length sp gV W t tk) := by
  refine ⟨fun pins s σ H Q I h => ?_⟩
  refine wpAny_Call_Name_kw (ld_glob I hg hm ?_ hdb)
  refine PySem.W.callWith_KW (h₀ := X.base) I.ok.mod.kin hk hall (thn (ha.run pos pins s σ H _ I h) fun us s1 ⟨vs, H1, I1, r, q⟩ => ?_) hpl he
  refine thn (hkw.run pos pins s1 σ H1 _ I1 q) fun ws s2 ⟨zs, H2, I2, rz, l1, l2, q2⟩ => ⟨I2.kIn, ?_⟩
  rw [hks]
  exact run_fnNS F hr hb (hx σ) I2 r rz l1 l2 q2
theorem loks_length {σ : Sg} : ∀ {ls : List L} {vs : List V}, loks σ ls vs → vs.length = ls.length
  | [], [], _ => rfl
  | [], _ :: _, h => h.elim
  | _ :: _, [], h => h.elim
  | _ :: ls, _ :: vs, h => by simp [loks_length h.2]
theorem ve_kcal {x : Str} {k j n np : Nat} {ks : List Str} {sp : List (Option Nat)} {dds : List D} {G : List D → FR} {p : Pos} {kws : List Keyword} {fa fk : DE → Res (List L)} (c : KCal X.prog X.w X.K X.mg X.base x k n np ks sp dds G) (hr : Room j X.A) (hx : ∀ σ, PassesAt (L2.CX X.prog X.w) X σ (W σ)) (ha : VA X W (e :: es) fa) (hkw : Tr.VK X W kws fk)
    (hk : k ≤ j := by decide) (hg : Gl X x := by rfl) (hn : (e :: es).length = np := by rfl) (hn2 : kws.length = ks.length := by rfl) (hn3 : np + sp.length = n := by rfl) (hall : (backToKw pos (keywordEach kws X.env)).all (·.1.isSome) = true := by rfl) (hks : (backToKw pos (keywordEach kws X.env)).filterMap (·.1) = ks := by rfl)
    (hdb : (x == ("__debug__" : Str)) = false := by decide) (he : starEach (e :: es) X.env = (false, eval e X.env) :: starEach es X.env := by rfl)
    (hpl : ((backTo pos (starEach (e :: es) X.env)).any (·.1) || (backToKw pos (keywordEach kws X.env)).any (·.1.isNone)) = false := by rfl) :
    VE X W (.Call (.Name x p) (e :: es) kws pos) (eCallK G sp dds fa fk) := by
  obtain ⟨f, fd, ps, dvs, mv, F, hm, kp, hb, hdd, hd0⟩ := c.ex
  obtain ⟨ta, pa, sa⟩ := ha.ex
  obtain ⟨tk, pk, sk⟩ := hkw.ex
  refine ⟨_, pe_callNS F (hr.mono hk) hg hm kp hb hx pa pk hall hks hdb he hpl, fun Z σ H e' tmp Q sr po => ?_⟩
  refine sa Z σ H e' tmp _ sr ?_
  unfold eCallK at po
  cases h1 : fa e' with
  | stuck => rw [h1] at po; exact po
  | exn x e1 => rw [h1] at po; exact po
  | ok ls e1 =>
    rw [h1, Res.bind_ok] at po
    intro Z1 H1 vs sr1 kk
    refine sk Z1 σ H1 e1 (lbags ls vs ++ tmp) _ sr1 ?_
    cases h2 : fk e1 with
    | stuck => rw [h2] at po; exact po
    | exn x e2 => rw [h2] at po; exact fun Z' H' c o q xr => po Z' H' c o q.drop xr
    | ok lk e2 =>
      rw [h2, Res.bind_ok] at po
      intro Z2 H2 zv sr2 k2
      have L1 : vs.length = np := by rw [loks_length kk, ha.len _ _ _ h1]; exact hn
      have L2 : zv.length = ks.length := by rw [loks_length k2, hkw.len _ _ _ h2]; exact hn2
      refine ⟨L1, L2, ?_⟩
      cases hv : vals lk with
      | none => simp only [hv] at po; exact po.elim
      | some zs =>
        simp only [hv] at po
        obtain ⟨q1, q2⟩ := vals_ok (K := X.K) (Z := Z2) (H := H2) hv k2
        rw [q1] at sr2
        split at po
        · rename_i hf
          have nf := nf_all hf
          have rz : RpF X.K Z2 H2 zs zv := by
            obtain ⟨M, r, _, _⟩ := sr2.bag.rp
            rw [List.append_assoc] at r
            obtain ⟨f1, f2, _, r1, _⟩ := RpB.app.mp r
            have r1' : RpL X.K Z2 H2 zs zv f1 := by
              have q : RpL X.K Z2 H2 ((zv.zip zs).map (·.2)) ((zv.zip zs).map (·.1)) f1 := r1
              have e1 : (zv.zip zs).map (·.2) = zs := by rw [← List.unzip_snd, List.unzip_zip q2]
              have e2 : (zv.zip zs).map (·.1) = zv := by rw [← List.unzip_fst, List.unzip_zip q2]
              rw [e1, e2] at q; exact q
            have toF : ∀ {ds : List D} {vs : List V} {f : List Addr}, RpL X.K Z2 H2 ds vs f → RpF X.K Z2 H2 ds vs := by
              intro ds
              induction ds with
              | nil => intro vs f h; obtain ⟨rfl, _⟩ := RpL_nil.mp h; exact .nil
              | cons d ds ih =>
                intro vs f h
                obtain ⟨v, vr, g1, g2, rfl, _, q1, q2⟩ := RpL_cons.mp h
                exact .cons q1 (ih q2)
            exact toF r1'
          have sr3 : SR X.K Z2 H2 σ e2 (lbags ls vs ++ tmp) := sr2.drop
          refine call_post (Z := Z2) sr3 kk (arr_rpf (hdd Z2 H2) rz) (arr_nf hd0 nf) po ?_
          rw [L1, arr_length]; exact hn3
        · exact po.elim

/-! ### a, b = x, y with plain local names -/
def sPar2 (i j : Nat) (fa : DE → Res (List L)) : DE → SRes := fun e => (fa e).toS fun ls e1 => match vals ls with
  | some [d1, d2] => if i < e1.length ∧ j < e1.length then .nx ((e1.set i (some d1)).set j (some d2)) else .stuck
  | _ => .stuck
theorem vs_par2 (i j : Nat) {x y : Str} {px py pt : Pos} {kt k2 pt2} {fa : DE → Res (List L)} (hN : X.N.Nodup) (ha : VA X W [a, b] fa) (hc : X.calm = true := by rfl) (hi : X.N[i]? = some x := by rfl) (hj : X.N[j]? = some y := by rfl) (hij : i ≠ j := by decide)
    (hx : X.env.scope.names.lookup x = some .local := by rfl) (hy : X.env.scope.names.lookup y = some .local := by rfl) (hf1 : fx.contains i = false := by rfl) (hf2 : fx.contains j = false := by rfl)
    (hw : swappedStores [.Tuple [.Name x px, .Name y py] kt pt] (.Tuple [a, b] k2 pt2) X.env = pure (some [x, y]) := by rfl)
    (hs : swapsWithSole [.Tuple [.Name x px, .Name y py] kt pt] (.Tuple [a, b] k2 pt2) pos.line X.env = pure false := by rfl) :
    VS X W fx (.Assign [.Tuple [.Name x px, .Name y py] kt pt] (.Tuple [a, b] k2 pt2) pos) (sPar2 i j fa) := by
  obtain ⟨t, p, s⟩ := ha.ex
  refine ⟨_, ps_par hc hN hi hj hij hx hy p hw hs, fun Z σ H e tmp D sr po => s Z σ H e tmp _ sr ?_⟩
  unfold sPar2 at po
  cases h1 : fa e with
  | stuck => rw [h1] at po; exact po
  | exn x e1 => rw [h1] at po; exact fun Z' H' c o q xr => po Z' H' σ c o q .refl xr
  | ok ls e1 =>
    rw [h1, Res.toS_ok] at po
    intro Z' H' vs q kk
    split at po
    · rename_i d1 d2 hv
      obtain ⟨q1, q2⟩ := vals_ok (K := X.K) (Z := Z') (H := H') hv kk
      rw [q1] at q
      match vs, q2 with
      | [v, w'], _ =>
        refine ⟨v, w', rfl, ?_⟩
        split at po
        · rename_i hl
          have q3 : SR X.K Z' H' σ e1 ((v, d1) :: (w', d2) :: tmp) := q
          have q4 := q3.assign hl.1
          have q5 := q4.assign (i := j) (by rw [List.length_set]; exact hl.2)
          exact po Z' H' _ q5 ((Fx.set hf1).trans (Fx.set hf2))
        · exact po.elim
    · exact po.elim
def sPar3 (i j k : Nat) (fa : DE → Res (List L)) : DE → SRes := fun e => (fa e).toS fun ls e1 => match vals ls with
  | some [d1, d2, d3] => if i < e1.length ∧ j < e1.length ∧ k < e1.length then .nx (((e1.set i (some d1)).set j (some d2)).set k (some d3)) else .stuck
  | _ => .stuck
theorem vs_par3 (i j l : Nat) {x y z : Str} {px py pz pt : Pos} {kt k2 pt2} {fa : DE → Res (List L)} (hN : X.N.Nodup) (ha : VA X W [a, b, c] fa) (hc : X.calm = true := by rfl) (hi : X.N[i]? = some x := by rfl) (hj : X.N[j]? = some y := by rfl) (hl : X.N[l]? = some z := by rfl) (hij : i ≠ j := by decide) (hil : i ≠ l := by decide) (hjl : j ≠ l := by decide)
    (hx : X.env.scope.names.lookup x = some .local := by rfl) (hy : X.env.scope.names.lookup y = some .local := by rfl) (hz : X.env.scope.names.lookup z = some .local := by rfl) (hf1 : fx.contains i = false := by rfl) (hf2 : fx.contains j = false := by rfl) (hf3 : fx.contains l = false := by rfl)
    (hw : swappedStores [.Tuple [.Name x px, .Name y py, .Name z pz] kt pt] (.Tuple [a, b, c] k2 pt2) X.env = pure (some [x, y, z]) := by rfl)
    (hs : swapsWithSole [.Tuple [.Name x px, .Name y py, .Name z pz] kt pt] (.Tuple [a, b, c] k2 pt2) pos.line X.env = pure false := by rfl) :
    VS X W fx (.Assign [.Tuple [.Name x px, .Name y py, .Name z pz] kt pt] (.Tuple [a, b, c] k2 pt2) pos) (sPar3 i j l fa) := by
  obtain ⟨t, p, s⟩ := ha.ex
  refine ⟨_, ps_par3 hc hN hi hj hl hij hil hjl hx hy hz p hw hs, fun Z σ H e tmp D sr po => s Z σ H e tmp _ sr ?_⟩
  unfold sPar3 at po
  cases h1 : fa e with
  | stuck => rw [h1] at po; exact po
  | exn x e1 => rw [h1] at po; exact fun Z' H' c o q xr => po Z' H' σ c o q .refl xr
  | ok ls e1 =>
    rw [h1, Res.toS_ok] at po
    intro Z' H' vs q kk
    split at po
    · rename_i d1 d2 d3 hv
      obtain ⟨q1, q2⟩ := vals_ok (K := X.K) (Z := Z') (H := H') hv kk
      rw [q1] at q
      match vs, q2 with
      | [v, w', u], _ =>
        refine ⟨v, w', u, rfl, ?_⟩
        split at po
        · rename_i hl
          have q3 : SR X.K Z' H' σ e1 ((v, d1) :: (w', d2) :: (u, d3) :: tmp) := q
          have q4 := q3.assign hl.1
          have q5 := q4.assign (i := j) (by rw [List.length_set]; exact hl.2.1)
          have q6 := q5.assign (i := l) (by rw [List.length_set, List.length_set]; exact hl.2.2)
          exact po Z' H' _ q6 (((Fx.set hf1).trans (Fx.set hf2)).trans (Fx.set hf3))
        · exact po.elim
    · exact po.elim
/-! ### += of ints -/
theorem os_ipI {K : PySem.W.Frag} {g : Int → Int → Int} : OpS K (ipI g) (dI0 fun i j => .int (g i j)) := by
  intro Z H B Q W d1 v1 f1 d2 v2 f2 b r1 r2 po
  unfold dI0 at po
  split at po
  · rename_i i j
    obtain ⟨rfl, _⟩ := Rp_int.mp r1
    obtain ⟨rfl, _⟩ := Rp_int.mp r2
    exact ⟨i, j, rfl, rfl, po.int b⟩
  · exact po.elim
def dIadd : D → D → Rs D := dI0 fun i j => .int (i + j)
def dIsub : D → D → Rs D := dI0 fun i j => .int (i - j)
theorem os_ipadd {K : PySem.W.Frag} : OpS K (ipI fun i j => i + j) dIadd := os_ipI
theorem os_ipsub {K : PySem.W.Frag} : OpS K (ipI fun i j => i - j) dIsub := os_ipI
/-! ### xs.count(n) -/
def dCount : D → D → Rs D
  | .lst _ ds, .int k => match dInts? ds with
    | some ns => .ok (.int (ns.count k : Nat))
    | none => .stuck
  | _, _ => .stuck
/-- a method of a built-in type with one argument, which changes nothing: chk: the receiver is of that type ahead of the argument -/
def eMt1 (chk : D → Bool) (g : D → D → Rs D) (fo fa : DE → Res L) : DE → Res D := fun e => (fo e).bind fun la e1 => match lget la e1 with
  | some d0 => if chk d0 = true then (fa e1).bind fun lb e2 => match lget la e2, lget lb e2 with
    | some da, some db => (g da db).at e2
    | _, _ => .stuck else .stuck
  | none => .stuck
def isLst : D → Bool
  | .lst _ _ => true
  | .scr _ => true
  | _ => false
def isStr : D → Bool
  | .str _ => true
  | _ => false
theorem ty_lst {K : PySem.W.Frag} {Z : AS} {H : Hp} {d : D} {v : V} {fp : List Addr} (h : Rp K Z H d v fp) (c : isLst d = true) : tyV K "list" v H := by
  cases d with
  | lst o ds => obtain ⟨a, vs, f, rfl, q, _⟩ := h.lst_get; exact .inl ⟨rfl, vs, .of q⟩
  | scr ns => obtain ⟨_, a, rfl, q⟩ := Rp_scr.mp h; exact .inl ⟨rfl, _, q.seq⟩
  | _ => cases c
theorem ty_str {K : PySem.W.Frag} {Z : AS} {H : Hp} {d : D} {v : V} {fp : List Addr} (h : Rp K Z H d v fp) (c : isStr d = true) : tyV K "str" v H := by
  cases d with
  | str x => obtain ⟨rfl, _⟩ := Rp_str.mp h; exact rfl
  | _ => cases c
theorem ve_mt1 {T name id : String} {r : V → List V → Hp → L2.VK → Prop} {chk : D → Bool} {g : D → D → Rs D} {o : Expr} {apos : Pos} {fo fa : DE → Res L} (pa : PlainAttrs T) (slot : Slot T name id) (hty : typeOf (.builtin id) = pure (.type "method_descriptor")) (hm : MtR X id r)
    (hc : ∀ {Z : AS} {H : Hp} {d : D} {v : V} {fp : List Addr}, Rp X.K Z H d v fp → chk d = true → tyV X.K T v H) (hg : OpS X.K (fun x y H Q => r x [y] H Q) g) (ho : VX X W o fo) (ha : VX X W e fa)
    (hbase : attributeBase o name X.env (eval o X.env) = eval o X.env := by rfl)
    (hfew : ((backTo pos (starEach [e] X.env)).all (fun x => !x.1) && (backToKw pos (keywordEach [] X.env)).all (fun x => x.1.isSome)
      && decide ([e].length + ([] : List Keyword).length + (if ([] : List Keyword).isEmpty then 0 else 1) < 30)) = true := by rfl)
    (hline : (apos.endLine == pos.line) = true := by rfl) (hs : starEach [e] X.env = (false, eval e X.env) :: starEach [] X.env := by rfl) (hpl : (backTo pos (starEach [] X.env)).any (·.1) = false := by rfl) : VE X W (.Call (.Attribute o name apos) [e] [] pos) (eMt1 chk g fo fa) := by
  obtain ⟨t, p, s⟩ := ho.ex
  obtain ⟨t2, p2, s2⟩ := ha.ex
  refine ⟨_, pe_bm pa slot hty hm p (pa_cons p2 pa_nil hs) hbase hfew hline hs hpl, fun Z σ H e tmp Q sr po => ?_⟩
  refine s Z σ H e tmp _ sr ?_
  unfold eMt1 at po
  cases h1 : fo e with
  | stuck => rw [h1] at po; exact po
  | exn x e1 => rw [h1] at po; exact po
  | ok la e1 =>
    rw [h1, Res.bind_ok] at po
    intro Z1 H1 v1 sr1 k1
    cases g0 : lget la e1 with
    | none => simp only [g0] at po; exact po.elim
    | some d0 =>
      simp only [g0] at po
      by_cases hch : chk d0 = true
      · rw [if_pos hch] at po
        obtain ⟨f0, r0⟩ := lread sr1 k1 g0
        refine ⟨hc r0 hch, ?_⟩
        refine s2 Z1 σ H1 e1 (lbag la v1 ++ tmp) _ sr1 ?_
        cases h2 : fa e1 with
        | stuck => rw [h2] at po; exact po
        | exn x e2 => rw [h2] at po; exact fun Z' H' c o q xr => po Z' H' c o q.drop xr
        | ok lb e2 =>
          rw [h2, Res.bind_ok] at po
          intro Z2 H2 v2 sr2 k2
          cases ga : lget la e2 with
          | none => simp only [ga] at po; exact po.elim
          | some da =>
            cases gb : lget lb e2 with
            | none => simp only [ga, gb] at po; exact po.elim
            | some db =>
              simp only [ga, gb] at po
              obtain ⟨f2, r2⟩ := lread sr2 k2 gb
              have sr3 : SR X.K Z2 H2 σ e2 (lbag la v1 ++ (lbag lb v2 ++ tmp)) := sr2.perm (List.perm_append_comm_assoc _ _ _)
              obtain ⟨f1, r1⟩ := lread sr3 k1 ga
              refine hg Z2 H2 ((lbag la v1 ++ lbag lb v2) ++ tmp ++ slots σ e2) Q (W σ) da v1 f1 db v2 f2 ?_ r1 r2 (PostV.to sr2.fit po)
              have q := sr3.bag
              rw [← List.append_assoc] at q
              exact q
      · rw [if_neg hch] at po; exact po.elim
theorem os_count {K : PySem.W.Frag} : OpS K (fun x y H Q => rCntI K x [y] H Q) dCount := by
  intro Z H B Q W d1 v1 f1 d2 v2 f2 b r1 r2 po
  unfold dCount at po
  split at po
  · rename_i o ds k
    obtain ⟨a, vs, f, rfl, q, l⟩ := r1.lst_get
    obtain ⟨rfl, _⟩ := Rp_int.mp r2
    split at po
    · rename_i ns h
      have e := l.allI h
      subst e
      exact ⟨a, ns, k, rfl, rfl, .of q, po.int b⟩
    · exact po.elim
  · exact po.elim
theorem ve_count {o : Expr} {apos : Pos} {fo fa : DE → Res L} (ho : VX X W o fo) (ha : VX X W e fa) (hbase : attributeBase o "count" X.env (eval o X.env) = eval o X.env := by rfl)
    (hfew : ((backTo pos (starEach [e] X.env)).all (fun x => !x.1) && (backToKw pos (keywordEach [] X.env)).all (fun x => x.1.isSome)
      && decide ([e].length + ([] : List Keyword).length + (if ([] : List Keyword).isEmpty then 0 else 1) < 30)) = true := by rfl)
    (hline : (apos.endLine == pos.line) = true := by rfl) (hs : starEach [e] X.env = (false, eval e X.env) :: starEach [] X.env := by rfl) (hpl : (backTo pos (starEach [] X.env)).any (·.1) = false := by rfl) : VE X W (.Call (.Attribute o "count" apos) [e] [] pos) (eMt1 isLst dCount fo fa) :=
  ve_mt1 PySem.F.plainAttrs_list PySem.F.slot_list_count PySem.F.type_list_count mt_lcount ty_lst os_count ho ha hbase hfew hline hs hpl

/-! ### enumerate(xs), zip(xs, ys): a new tuple a turn -/
theorem Yld.pair {K : PySem.W.Frag} {Z : AS} {H : Hp} {σ : Sg} {e : DE} {B tmp : Bag} {v w : V} {d d' : D} {T : Addr} (sr : SR K Z H σ e (B ++ tmp)) (r : Rp K Z H d v []) (r' : Rp K Z H d' w []) (hT : H T = none) : SR K Z (upd H T (.tup [v, w])) σ e ((.ref T, .tup [d, d']) :: (B ++ tmp)) := by
  refine .of sr.fit ?_
  have l : RpL K Z H [d, d'] [v, w] [] := RpL_cons.mpr ⟨_, _, [], [], rfl, rfl, r, RpL_cons.mpr ⟨_, _, [], [], rfl, rfl, r', RpL_nil.mpr ⟨rfl, rfl⟩⟩⟩
  exact Hold.mkT sr.bag l l.nf hT
def enumD : Nat → List D → List D
  | _, [] => []
  | k, d :: ds => .tup [.int (k : Nat), d] :: enumD (k + 1) ds
theorem enumD_at : ∀ {ds : List D} {k i : Nat}, (enumD k ds)[i]? = (ds[i]?).map fun d => .tup [.int ((k + i : Nat) : Nat), d]
  | [], k, i => by simp [enumD]
  | d :: ds, k, 0 => by simp [enumD]
  | d :: ds, k, i + 1 => by
    simp only [enumD, List.getElem?_cons_succ]
    rw [enumD_at]
    congr 2
    funext d
    rw [show k + 1 + i = k + (i + 1) by omega]
theorem enumD_length : ∀ {ds : List D} {k : Nat}, (enumD k ds).length = ds.length
  | [], k => rfl
  | d :: ds, k => by simp [enumD, enumD_length]
theorem its_enum {K : PySem.W.Frag} {a : Addr} {ds : List D} {S : Sg → DE → Prop} : Yld K [(.ref a, .lst false ds)] (Ite K a) (enumD 0 ds) S where
  go := fun Z H σ e tmp i d sr _ hi => by
    obtain ⟨fp, r⟩ := Hold.rep (L := tmp ++ slots σ e) sr.bag
    rcases Rp_lst.mp r with ⟨_, _, a', vs, ev, z, q, rl⟩ | ⟨h, _⟩
    · cases ev
      rw [enumD_at, Option.map_eq_some_iff] at hi
      obtain ⟨d', hi, rfl⟩ := hi
      obtain ⟨v, hv, rv⟩ := rl.ats hi
      refine ⟨⟨vs, v, .of q, hv⟩, fun x H' y => ?_⟩
      obtain ⟨T, w, rfl, hT, rfl, y⟩ := y
      have := y vs (.of q)
      rw [hv] at this; cases this
      rw [Nat.zero_add]
      exact ⟨Z, Yld.pair sr (Rp_int.mpr ⟨rfl, rfl⟩) rv hT⟩
    · cases h
  stop := fun Z H σ e tmp sr _ => by
    obtain ⟨fp, r⟩ := Hold.rep (L := tmp ++ slots σ e) sr.bag
    rcases Rp_lst.mp r with ⟨_, _, a', vs, ev, z, q, rl⟩ | ⟨h, _⟩
    · cases ev
      exact ⟨vs, .of q, by rw [rl.length, enumD_length]; exact Nat.le_refl _⟩
    · cases h
/-- the operands frozen, those in slots too -/
def frzS : L → DE → Option (D × DE)
  | .v d, e => some (d.frz, e)
  | .s i, e => match e.getD i none with
    | some d => if d.flag = true then some (d.frz, e.set i (some d.frz)) else some (d, e)
    | none => none
theorem frzS_ok {K : PySem.W.Frag} {Z : AS} {H : Hp} {σ : Sg} {e e' : DE} {tmp : Bag} {l : L} {v : V} {d : D} (h : SR K Z H σ e (lbag l v ++ tmp)) (k : lok σ l v) (f : frzS l e = some (d, e')) : ∃ Z', SR K Z' H σ e' ((v, d) :: tmp) ∧ d.flag = false := by
  cases l with
  | v d0 =>
    cases f
    obtain ⟨Z', q⟩ := SR.freeze h
    exact ⟨Z', q, frz_flag d0⟩
  | s i =>
    have h : SR K Z H σ e tmp := h
    unfold frzS at f
    cases g : e.getD i none with
    | none => simp only [g] at f; cases f
    | some d0 =>
      simp only [g] at f
      have gi := getD_some g
      have kv : σ[i]? = some (some v) := k
      by_cases hf : d0.flag = true
      · rw [if_pos hf] at f
        cases f
        obtain ⟨w, hs, h1⟩ := h.out gi
        rw [kv] at hs
        cases hs
        obtain ⟨Z', h2⟩ := h1.freeze
        have h3 : SR K Z' H σ (e.set i none) ((v, d0.frz) :: (v, d0.frz) :: tmp) := .of h2.fit (Hold.dup h2.bag (frz_flag d0))
        have h4 := h3.back (i := i) (by rw [List.getElem?_set_self (List.getElem?_eq_some_iff.mp gi).1]) kv
        rw [List.set_set] at h4
        exact ⟨Z', h4, frz_flag d0⟩
      · rw [if_neg hf] at f
        cases f
        obtain ⟨w, fp, hs, r⟩ := h.rd gi
        rw [kv] at hs
        cases hs
        have e0 := r.noflag (by simpa using hf)
        subst e0
        exact ⟨Z, h.add r, by simpa using hf⟩
def iEnumerate (fa : DE → Res (List L)) : DE → Res Wk := fun e => (fa e).bind fun ls e1 => match ls with
  | [l] => (match frzS l e1 with
    | some (.lst _ ds, e2) => .ok ⟨enumD 0 ds, none⟩ e2
    | _ => .stuck)
  | _ => .stuck
theorem vi_enumerate {p tpos : Pos} {elts : List Expr} {kk : Nat} {fa : DE → Res (List L)} (hg : Gl X "enumerate") (hm : X.mg "enumerate" = none) (ha : VA X W [a] fa) (hs : starEach [a] X.env = [(false, eval a X.env)] := by rfl) :
    VI X W (.Tuple elts kk tpos) (.Call (.Name "enumerate" p) [a] [] pos) (iEnumerate fa) := by
  obtain ⟨t, pt, s⟩ := ha.ex
  refine ⟨_, pi_enum hg hm pt hs, fun Z σ H e tmp R sr po => s Z σ H e tmp _ sr ?_⟩
  unfold iEnumerate at po
  cases h1 : fa e with
  | stuck => rw [h1] at po; exact po
  | exn x e1 => rw [h1] at po; exact po
  | ok ls e1 =>
    rw [h1, Res.bind_ok] at po
    intro Z1 H1 vs q k
    split at po
    · rename_i l
      match vs, k with
      | [v], k =>
        split at po
        · rename_i o ds e2 hf
          have q' : SR X.K Z1 H1 σ e1 (lbag l v ++ tmp) := by simpa [lbags] using q
          obtain ⟨Z2, q2, fl⟩ := frzS_ok q' k.1 hf
          have fl : o = false := fl
          subst fl
          obtain ⟨fp, r⟩ := q2.bag.rep
          obtain ⟨a', ws, f, rfl, hq, rl⟩ := r.lst_get
          exact ⟨a', ws, rfl, .of hq, po Z2 H1 _ [(.ref a', .lst false ds)] q2 its_enum⟩
        · exact po.elim
    · exact po.elim
def zipD : List D → List D → List D
  | a :: as, b :: bs => .tup [a, b] :: zipD as bs
  | _, _ => []
theorem zipD_at : ∀ {as bs : List D} {i : Nat} {d : D}, (zipD as bs)[i]? = some d → ∃ a b, as[i]? = some a ∧ bs[i]? = some b ∧ d = .tup [a, b]
  | [], bs, i, d, h => by simp [zipD] at h
  | _ :: _, [], i, d, h => by simp [zipD] at h
  | a :: as, b :: bs, 0, d, h => by simp [zipD] at h; first | exact ⟨a, b, rfl, rfl, h.symm⟩ | (subst h; exact ⟨a, b, rfl, rfl, rfl⟩)
  | a :: as, b :: bs, i + 1, d, h => by
    simp only [zipD, List.getElem?_cons_succ] at h
    simpa using zipD_at h
theorem zipD_length : ∀ {as bs : List D}, (zipD as bs).length = min as.length bs.length
  | [], bs => by simp [zipD]
  | _ :: _, [] => by simp [zipD]
  | a :: as, b :: bs => by
    simp only [zipD, List.length_cons, zipD_length]
    omega
theorem its_zipL {K : PySem.W.Frag} {a b : Addr} {as bs : List D} {S : Sg → DE → Prop} : Yld K [(.ref a, .lst false as), (.ref b, .lst false bs)] (Itz K a b) (zipD as bs) S where
  go := fun Z H σ e tmp i d sr _ hi => by
    obtain ⟨fp, r⟩ := Hold.rep (L := _) sr.bag
    obtain ⟨fp2, r2⟩ := Hold.rep (L := _) (Hold.tail sr.bag)
    rcases Rp_lst.mp r with ⟨_, _, a', vs, ev, z, q, rl⟩ | ⟨h, _⟩
    · rcases Rp_lst.mp r2 with ⟨_, _, b', ws, ev2, z2, q2, rl2⟩ | ⟨h, _⟩
      · cases ev
        cases ev2
        obtain ⟨da, db, ha, hb, rfl⟩ := zipD_at hi
        obtain ⟨v, hv, rv⟩ := rl.ats ha
        obtain ⟨w, hw, rw'⟩ := rl2.ats hb
        refine ⟨⟨vs, ws, v, w, .of q, .of q2, hv, hw⟩, fun x H' y => ?_⟩
        obtain ⟨T, x1, y1, rfl, hT, rfl, y2, y3⟩ := y
        have e1 := y2 vs (.of q)
        rw [hv] at e1; cases e1
        have e2 := y3 ws (.of q2)
        rw [hw] at e2; cases e2
        exact ⟨Z, Yld.pair (B := [(V.ref a, D.lst false as), (V.ref b, D.lst false bs)]) sr rv rw' hT⟩
      · cases h
    · cases h
  stop := fun Z H σ e tmp sr _ => by
    obtain ⟨fp, r⟩ := Hold.rep (L := _) sr.bag
    obtain ⟨fp2, r2⟩ := Hold.rep (L := _) (Hold.tail sr.bag)
    rcases Rp_lst.mp r with ⟨_, _, a', vs, ev, z, q, rl⟩ | ⟨h, _⟩
    · rcases Rp_lst.mp r2 with ⟨_, _, b', ws, ev2, z2, q2, rl2⟩ | ⟨h, _⟩
      · cases ev
        cases ev2
        refine ⟨vs, ws, .of q, .of q2, ?_⟩
        rw [zipD_length, rl.length, rl2.length]
        omega
      · cases h
    · cases h
theorem its_zipT {K : PySem.W.Frag} {a b : Addr} {as bs : List D} {S : Sg → DE → Prop} : Yld K [(.ref a, .tup as), (.ref b, .tup bs)] (RZ.ItzT K a b) (zipD as bs) S where
  go := fun Z H σ e tmp i d sr _ hi => by
    obtain ⟨fp, r⟩ := Hold.rep (L := _) sr.bag
    obtain ⟨fp2, r2⟩ := Hold.rep (L := _) (Hold.tail sr.bag)
    obtain ⟨_, a', vs, ev, q, rl⟩ := Rp_tup.mp r
    obtain ⟨_, b', ws, ev2, q2, rl2⟩ := Rp_tup.mp r2
    cases ev
    cases ev2
    obtain ⟨da, db, ha, hb, rfl⟩ := zipD_at hi
    obtain ⟨v, hv, rv⟩ := rl.ats ha
    obtain ⟨w, hw, rw'⟩ := rl2.ats hb
    refine ⟨⟨vs, ws, v, w, q.seq, q2.seq, hv, hw⟩, fun x H' y => ?_⟩
    obtain ⟨T, x1, y1, rfl, hT, rfl, y2, y3⟩ := y
    have e1 := y2 vs q.seq
    rw [hv] at e1; cases e1
    have e2 := y3 ws q2.seq
    rw [hw] at e2; cases e2
    exact ⟨Z, Yld.pair (B := [(V.ref a, D.tup as), (V.ref b, D.tup bs)]) sr rv rw' hT⟩
  stop := fun Z H σ e tmp sr _ => by
    obtain ⟨fp, r⟩ := Hold.rep (L := _) sr.bag
    obtain ⟨fp2, r2⟩ := Hold.rep (L := _) (Hold.tail sr.bag)
    obtain ⟨_, a', vs, ev, q, rl⟩ := Rp_tup.mp r
    obtain ⟨_, b', ws, ev2, q2, rl2⟩ := Rp_tup.mp r2
    cases ev
    cases ev2
    refine ⟨vs, ws, q.seq, q2.seq, ?_⟩
    rw [zipD_length, rl.length, rl2.length]
    omega
def iZip2 (fa : DE → Res (List L)) : DE → Res Wk := fun e => (fa e).bind fun ls e1 => match ls with
  | [l, l2] => (match frzS l2 e1 with
    | some (d2, e2) => (match frzS l e2 with
      | some (d, e3) => (match d, d2 with
        | .lst _ as, .lst _ bs => .ok ⟨zipD as bs, none⟩ e3
        | .tup as, .tup bs => .ok ⟨zipD as bs, none⟩ e3
        | _, _ => .stuck)
      | none => .stuck)
    | none => .stuck)
  | _ => .stuck
theorem vi_zip {p tpos : Pos} {elts : List Expr} {kk : Nat} {fa : DE → Res (List L)} (hg : Gl X "zip") (hm : X.mg "zip" = none) (ha : VA X W [a, b] fa) (hs : starEach [a, b] X.env = (false, eval a X.env) :: starEach [b] X.env := by rfl) (hpl : (backTo pos (starEach [b] X.env)).any (·.1) = false := by rfl) :
    VI X W (.Tuple elts kk tpos) (.Call (.Name "zip" p) [a, b] [] pos) (iZip2 fa) := by
  obtain ⟨t, pt, s⟩ := ha.ex
  refine ⟨_, RZ.pi_zipA hg hm pt hs hpl, fun Z σ H e tmp R sr po => s Z σ H e tmp _ sr ?_⟩
  unfold iZip2 at po
  cases h1 : fa e with
  | stuck => rw [h1] at po; exact po
  | exn x e1 => rw [h1] at po; exact po
  | ok ls e1 =>
    rw [h1, Res.bind_ok] at po
    intro Z1 H1 vs q k
    split at po
    · rename_i l l2
      match vs, k with
      | [v, w], k =>
        split at po
        · rename_i d2 e2 hf2
          split at po
          · rename_i d e3 hf
            have q' : SR X.K Z1 H1 σ e1 (lbag l2 w ++ (lbag l v ++ tmp)) := q.perm (by
              show (lbag l v ++ (lbag l2 w ++ []) ++ tmp).Perm _
              rw [List.append_nil, List.append_assoc]
              exact List.perm_append_comm_assoc _ _ _)
            obtain ⟨Z2, q2, fl2⟩ := frzS_ok q' k.2.1 hf2
            have q3 : SR X.K Z2 H1 σ e2 (lbag l v ++ (w, d2) :: tmp) := q2.perm (List.perm_middle (a := (w, d2))).symm
            obtain ⟨Z3, q4, fl⟩ := frzS_ok q3 k.1 hf
            obtain ⟨fp, r⟩ := q4.bag.rep
            obtain ⟨fp2, r2⟩ := q4.tail.bag.rep
            split at po
            · rename_i o as o2 bs
              have fl : o = false := fl
              have fl2 : o2 = false := fl2
              subst fl
              subst fl2
              obtain ⟨a1, vs1, g1, rfl, hq1, _⟩ := r.lst_get
              obtain ⟨a2, vs2, g2, rfl, hq2, _⟩ := r2.lst_get
              exact ⟨a1, a2, vs1, vs2, rfl, .inl ⟨.of hq1, .of hq2, po Z3 H1 _ [(.ref a1, .lst false as), (.ref a2, .lst false bs)] q4 its_zipL⟩⟩
            · rename_i as bs
              obtain ⟨_, a1, vs1, rfl, hq1, _⟩ := Rp_tup.mp r
              obtain ⟨_, a2, vs2, rfl, hq2, _⟩ := Rp_tup.mp r2
              exact ⟨a1, a2, vs1, vs2, rfl, .inr ⟨hq1.seq, hq2.seq, po Z3 H1 _ [(.ref a1, .tup as), (.ref a2, .tup bs)] q4 its_zipT⟩⟩
            · exact po.elim
          · exact po.elim
        · exact po.elim
    · exact po.elim
end
end Tr

set_option maxHeartbeats 2000000
/-! The tree layer 12: a law's end. -/
namespace Tr
open PySem PySem.Spec PyProof.Rows L2
/-- nothing is let out of the law -/
theorem cx_none {P : Program} {w : World} {H : Hp} {s : Shared} {e : Value} {s' : Shared} (h : L2.CX P w [] H s (fun _ _ _ => False) e s') : False := by
  obtain ⟨_, _, _, _, _, _, _, _, _, _, _, _, z⟩ := h
  exact z.elim
/-- the law's promise, met by what its trees say -/
theorem sp_trees {K : PySem.W.Frag} {G : List D → FR} (main : ∀ ns : List Int, ns.length ≤ 63 → ∃ ds', G [.scr ns] = .ok (.bl true) ds') {H : Hp} {a : Addr} {ns : List Int} (hl : ns.length ≤ 63) (hO : Only H) (hS : SqL K H a (ns.map V.int)) :
    spG K 1 G [.ref a] H (fun v _ => v = .bl true) fun _ _ _ => False := by
  have h : LkL K H a (ns.map V.int) := by
    rcases hS with (h | ⟨o, h⟩) | h
    · rcases hO a with q | ⟨o, xs, q⟩
      · rw [q] at h; cases h
      · rw [q] at h; cases h
    · exact .inl ⟨o, h⟩
    · exact .inr h
  obtain ⟨ds', e⟩ := main ns hl
  refine ⟨fun _ => False, [.scr ns], [], rfl, rfl, ⟨⟨[], ?_, by simp, by simp⟩, by simp, fun _ z => z.elim⟩, ?_⟩
  · exact RpL_cons.mpr ⟨_, _, [], [], rfl, rfl, Rp_scr.mpr ⟨rfl, a, rfl, h⟩, RpL_nil.mpr ⟨rfl, rfl⟩⟩
  · rw [e]
    intro Z' H' v h
    obtain ⟨fp, q⟩ := h.rep
    exact (Rp_bl.mp q).1
theorem walk_trees {l : PySem.W.OpenLaw} {k : Nat} {q : Program} {loose : List Str} {XP : (Str → Option Value) → Heap → Prop} {YP : World → Heap → Prop} {d : DefRec} {G : List D → FR}
    (hn : l.most = some 63) (hdf : d.params.defaults = []) (hr : Room k callerA)
    (F : ∀ (w : World) (mg : Str → Option Value) (f : Addr) (h : Heap), YP w h → h.Ns mainGlobals mg → mg d.name = some (.ref f) → ∃ (K : PySem.W.Frag) (fd : FuncData), K.In h ∧
      (∀ (s : Shared) (v : Value), BindsTo s fd ⟨[v], []⟩ [("script", v)]) ∧ ∀ base : Heap, K.In base → base.Ns mainGlobals mg → FnOk l.prog w K mg base (L2.CX l.prog w) k f fd ["script"] (spG K 1 G))
    (main : ∀ ns : List Int, ns.length ≤ 63 → ∃ ds', G [.scr ns] = .ok (.bl true) ds') : PySem.W.WalkO q loose XP YP l.row.toRowW d [] (fun f vs => PySem.call f vs) := by
  refine Att.attach_call hn hdf ?_
  intro w s₀ s₁ mg mb f o pm cd doc a vs ns R Y ho hd hcd hmg hobj hi hlen hg
  obtain ⟨K, fd, KX, hb, hF⟩ := F w mg f _ Y R.T.g hmg
  refine law_call KX R.T.g R.T.b R.T.builtins R.T.nolimit hg hobj hi ?_ hr hF hb ?_ ?_
  · exact Nat.le_trans hlen (by decide)
  · exact fun H hO hS => sp_trees main hlen hO hS
  · exact fun H e s' z => cx_none z
end Tr

set_option maxHeartbeats 2000000
/-! The tree layer 13: sorted ints. -/
namespace Tr
open PySem PySem.Spec PyProof.Rows L2
def insI (x : Int) : List Int → List Int
  | [] => [x]
  | y :: ys => if x ≤ y then x :: y :: ys else y :: insI x ys
def isort : List Int → List Int
  | [] => []
  | x :: xs => insI x (isort xs)
theorem insI_perm (x : Int) : ∀ l : List Int, (insI x l).Perm (x :: l)
  | [] => .refl _
  | y :: ys => by
    unfold insI
    split
    · exact .refl _
    · exact ((insI_perm x ys).cons y).trans (List.Perm.swap _ _ _)
theorem isort_perm : ∀ l : List Int, (isort l).Perm l
  | [] => .refl _
  | x :: xs => (insI_perm x _).trans ((isort_perm xs).cons x)
theorem insI_srt (x : Int) : ∀ l : List Int, l.Pairwise (· ≤ ·) → (insI x l).Pairwise (· ≤ ·)
  | [], _ => by simp [insI]
  | y :: ys, h => by
    unfold insI
    rw [List.pairwise_cons] at h
    split
    · rename_i hxy
      rw [List.pairwise_cons, List.pairwise_cons]
      refine ⟨fun z hz => ?_, h⟩
      rcases List.mem_cons.mp hz with rfl | hz
      · exact hxy
      · exact Int.le_trans hxy (h.1 z hz)
    · rename_i hxy
      rw [List.pairwise_cons]
      refine ⟨fun z hz => ?_, insI_srt x ys h.2⟩
      rcases List.mem_cons.mp ((insI_perm x ys).mem_iff.mp hz) with rfl | hz
      · omega
      · exact h.1 z hz
theorem isort_srt : ∀ l : List Int, (isort l).Pairwise (· ≤ ·)
  | [] => .nil
  | x :: xs => insI_srt x _ (isort_srt xs)
theorem srt_uniq : ∀ {l m : List Int}, l.Perm m → l.Pairwise (· ≤ ·) → m.Pairwise (· ≤ ·) → l = m
  | [], m, p, _, _ => (List.nil_perm.mp p).symm
  | x :: l, [], p, _, _ => by have := p.length_eq; simp at this
  | x :: l, y :: m, p, h1, h2 => by
    rw [List.pairwise_cons] at h1 h2
    have e : x = y := by
      have a : x ∈ y :: m := p.mem_iff.mp (by simp)
      have b : y ∈ x :: l := p.mem_iff.mpr (by simp)
      rcases List.mem_cons.mp a with q | q
      · exact q
      · rcases List.mem_cons.mp b with r | r
        · exact r.symm
        · have := h1.1 y r
          have := h2.1 x q
          omega
    subst e
    rw [srt_uniq p.cons_inv h1.2 h2.2]
def dSorted : D → Rs D
  | .lst _ ds => match dInts? ds with
    | some ns => .ok (.lst true ((isort ns).map .int))
    | none => .stuck
  | .scr ns => .ok (.lst true ((isort ns).map .int))
  | _ => .stuck
section
variable {K : PySem.W.Frag}
theorem cs_sorted : CallS K (rSortedI K) (d1 dSorted) := by
  intro Z H B Q W ds vs b r po
  unfold d1 at po
  split at po
  · cases r with
    | cons r rr =>
      cases rr
      unfold dSorted at po
      split at po
      · obtain ⟨a, vs, f, rfl, q, l⟩ := r.lst_get
        split at po
        · rename_i ns h
          have e := l.allI h
          subst e
          refine ⟨a, ns, rfl, .of q, fun ns' p hp hs hn => ?_⟩
          obtain rfl : ns' = isort ns := srt_uniq (hp.trans (isort_perm ns).symm) hs (isort_srt ns)
          exact po Z _ _ (Hold.mkL b (rpl_ints _) (rpl_ints (K := K) (Z := Z) (H := H) _).nf hn)
        · exact po.elim
      · obtain ⟨_, a, rfl, q⟩ := Rp_scr.mp r
        refine ⟨a, _, rfl, q.seq, fun ns' p hp hs hn => ?_⟩
        obtain rfl : ns' = isort _ := srt_uniq (hp.trans (isort_perm _).symm) hs (isort_srt _)
        exact po Z _ _ (Hold.mkL b (rpl_ints _) (rpl_ints (K := K) (Z := Z) (H := H) _).nf hn)
      · exact po.elim
  · exact po.elim
end
end Tr

set_option maxHeartbeats 2000000
/-! The tree layer 14: xs[::-1]. -/
namespace Tr
open PySem PySem.Spec PyProof.Rows L2 HT
section
variable {prog : Program} {w : World} {A : Around} {E : Value → Shared → Prop} {s : Shared}
theorem sliceApplied_rev {sl : Addr} {vt : Value} {n : Nat} {Q : Int × Int × Nat → Shared → Prop} (hs : s.heap.IsSliceOf sl .none .none vt) (ps : IsPart vt (some (-1)))
    (h : Q ((n : Int) - 1, -1, n) s) : wpAny (model prog w) A (Builtin.Slice.sliceApplied (.ref sl) (pure (n : Int))) Q E s := by
  obtain ⟨os, hos, hcs, hds⟩ := id hs
  unfold Builtin.Slice.sliceApplied Builtin.Slice.sliceFields
  refine wpAny_bind (wpAny_bind (wpAny_field hos hds (x := .none) rfl (wpAny_bind (wpAny_field hos hds (x := .none) rfl (wpAny_bind (wpAny_field hos hds (x := vt) rfl (wpAny_pure ?_)))))))
  refine wpAny_bind (slicePart_ ps ?_)
  show wpAny _ _ (if ((-1 : Int) == 0) = true then _ else _) _ _ s
  rw [if_neg (by decide)]
  refine wpAny_bind (slicePart_none (wpAny_bind (slicePart_none (wpAny_bind (wpAny_pure ?_)))))
  have e1 : Builtin.Slice.sliceAdjust none none (-1) (n : Int) = ((n : Int) - 1, -1) := by
    unfold Builtin.Slice.sliceAdjust
    simp
  have e2 : Builtin.Slice.slicePlaces ((n : Int) - 1) (-1) (-1) = n := by
    unfold Builtin.Slice.slicePlaces
    simp
    split <;> omega
  show wpAny _ _ (match Builtin.Slice.sliceAdjust none none (-1) (n : Int) with | (lo, hi) => pure (lo, (-1 : Int), Builtin.Slice.slicePlaces lo hi (-1))) _ _ s
  rw [e1]
  show wpAny _ _ (pure ((n : Int) - 1, (-1 : Int), Builtin.Slice.slicePlaces ((n : Int) - 1) (-1) (-1))) _ _ s
  rw [e2]
  exact wpAny_pure h
theorem fmap_some {α β : Type} {f : α → Option β} {g : α → β} : ∀ {L : List α}, (∀ m ∈ L, f m = some (g m)) → L.filterMap f = L.map g
  | [], _ => rfl
  | a :: L, h => by rw [List.filterMap_cons, h a (by simp), fmap_some fun m hm => h m (by simp [hm])]; rfl
theorem pick_rev (xs : Array Value) : ((List.range xs.size).filterMap fun (m : Nat) => xs[((xs.size : Int) - 1 + (m : Int) * -1).toNat]?).toArray = xs.toList.reverse.toArray := by
  congr 1
  have e : ∀ l : List Value, (List.range l.length).filterMap (fun (m : Nat) => l[((l.length : Int) - 1 + (m : Int) * -1).toNat]?) = l.reverse := by
    intro l
    have h1 : ∀ m ∈ List.range l.length, l[((l.length : Int) - 1 + (m : Int) * -1).toNat]? = some (l.reverse.getD m .none) := by
      intro m hm
      rw [List.mem_range] at hm
      rw [show ((l.length : Int) - 1 + (m : Int) * -1).toNat = l.length - 1 - m by omega]
      rw [List.getD_eq_getElem?_getD, List.getElem?_reverse hm]
      rw [List.getElem?_eq_getElem (by omega)]
      rfl
    rw [fmap_some h1]
    apply List.ext_getElem (by simp)
    intro i h2 h3
    simp at h3
    simp [h3]
  have := e xs.toList
  simpa using this
theorem getItem_tuple_rev {t sl : Addr} {items : Array Value} {vt : Value} {Q : Value → Shared → Prop} (ht : IsTup s.heap t items) (hs : s.heap.IsSliceOf sl .none .none vt) (ps : IsPart vt (some (-1)))
    (h : Q (.ref s.heap.objs.size) { s with heap := s.heap.push { cls := .type "tuple", data := .seq items.toList.reverse.toArray } })
    (hsz : items.size ≤ sizeLine) : wpAny (model prog w) A (getItem (.ref t) (.ref sl)) Q E s := by
  have htake : sizeOk (.seq items.toList.reverse.toArray) := by
    show items.toList.reverse.toArray.size ≤ sizeLine
    rw [List.size_toArray, List.length_reverse, Array.length_toList]
    exact hsz
  obtain ⟨os, hos, hcs, hds⟩ := id hs
  have hTs : s.TypeIs (.ref sl) "slice" := ⟨os, hos, hcs⟩
  unfold getItem
  try with_reducible refine wpAny_holding ?_
  first | refine wpAny_bind (wpAny_pure ?_) | skip
  refine wpAny_bind (wpAny_sequenceKey ht.typeIs (by decide) ?_)
  refine wpAny_bind (wpAny_callSpecial?_slot (name := Str.ofString "__getitem__") ht.typeIs PyProof.Rows.slot_tuple_getitem
    (wpAny_call_entry PyProof.Rows.slot_tuple_getitem ht.typeIs entry_tuple_getitem ?_ (args_tuple_getitem _ _)))
  show wpAny _ _ (Builtin.Tuple.tupleItemsOf (.ref t) >>= _) _ _ s
  refine wpAny_bind (tupleItemsOf_ ht ?_)
  refine wpAny_bind (wpAny_typeOf hTs ?_)
  rw [if_pos (by decide)]
  refine wpAny_bind (sliceApplied_rev hs ps ?_)
  have hno : ¬ ((((items.size : Int) - 1) == 0 && (-1 : Int) == 1 && items.size == items.size) = true) := by
    simp
  show wpAny _ _ (if (((items.size : Int) - 1) == 0 && (-1 : Int) == 1 && items.size == items.size) = true then _ else _) _ _ s
  rw [if_neg hno, pick_rev]
  first
    | exact wpAny_bind (m := Builtin.Tuple.tupleExact _) (wpAny_newObj_type (wpAny_pure ⟨_, rfl, wpAny_pure h⟩) htake)
    | exact wpAny_bind (m := Builtin.Tuple.tupleExact _) (wpAny_newObj_type (wpAny_bind (wpAny_pure (wpAny_pure ⟨_, rfl, wpAny_pure h⟩))) htake)
    | exact wpAny_bind (wpAny_bind (m := Builtin.Tuple.tupleExact _) (wpAny_newObj_type (wpAny_pure (wpAny_pure ⟨_, rfl, wpAny_pure h⟩)) htake))
    | exact wpAny_bind (wpAny_bind (m := Builtin.Tuple.tupleExact _) (wpAny_newObj_type (wpAny_pure ⟨_, rfl, wpAny_pure h⟩) htake))
end
/-- xs[::-1] of a list or a tuple -/
def rRev (K : PySem.W.Frag) : V → Hp → L2.VK → Prop := fun x H1 Q => (∃ a xs, x = .ref a ∧ SqL K H1 a xs ∧ ∀ p, H1 p = none → Q (.ref p) (upd H1 p (.lst xs.reverse))) ∨ (∃ a xs, x = .ref a ∧ SqT K H1 a xs ∧ ∀ p, H1 p = none → Q (.ref p) (upd H1 p (.tup xs.reverse)))
theorem pe_rev {X : Cx} {e : Expr} {te : TE} {k : Nat} {p1 p2 p3 pos : Pos} (he : PE X e te) : PE X (.Subscript e (.Slice none none (some (.UnaryOp .USub (.Constant (.int 1) k p1) p2)) p3) pos) (tUn (rRev X.K) te) := by
  refine ⟨fun pins s σ H Q I h => ?_⟩
  refine Subscript_ (thn (he.run pins s σ H _ I h) fun v s1 ⟨x, H1, I1, r1, q1⟩ => ?_)
  have hst : PO X (some (.UnaryOp .USub (.Constant (.int 1) k p1) p2)) (tPart (tUn (rU fun i => .int (-i)) (tC (.int 1)))) := po_some (pe_un un_neg pe_int)
  refine wpAny_Slice (thn (po_none.run pins s1 σ H1 (fun o H2 => o = none ∧ H2 = H1) I1 ⟨rfl, rfl⟩) fun vl s2 ⟨l, H2, I2, pl, el, e2⟩ => ?_)
  subst el e2
  refine thn (po_none.run pins s2 σ H2 (fun o H3 => o = none ∧ H3 = H2) I2 ⟨rfl, rfl⟩) fun vu s3 ⟨u, H3, I3, pu, eu, e3⟩ => ?_
  subst eu e3
  refine thn (hst.run pins s3 σ H3 (fun o H4 => o = some (-1) ∧ H4 = H3) I3 ⟨1, rfl, -1, rfl, rfl, rfl⟩) fun vs s4 ⟨o, H4, I4, ps, eo, e4⟩ => ?_
  subst eo e4
  have I5 : Inv X pins σ H4 { s4 with heap := s4.heap.push { cls := .type "slice", data := .fields #[vl, vu, vs] } } := I4.kept (t' := s4.toks) fun b ob q => Heap.get?_push_of_some _ q
  rcases q1 with ⟨a, xs, ex, hx, q⟩ | ⟨a, xs, ex, hx, q⟩
  · subst ex
    cases r1
    obtain ⟨its, r, ht, hz⟩ := I5.list hx
    have hlen := r.length
    show wpAny (model X.prog X.w) X.A (subscriptTail e (.Slice none none (some (.UnaryOp .USub (.Constant (.int 1) k p1) p2)) p3) (.ref a) (.ref s4.heap.objs.size)) (EP X pins σ Q) X.xe { s4 with heap := s4.heap.push { cls := .type "slice", data := .fields #[vl, vu, vs] } }
    refine tail_any (ops := [.ref a, .ref s4.heap.objs.size]) ht.isList.typeIs (PySem.slot_list_getitem.lookup) ?_ (by with_unfolding_all rfl)
    refine wpAny_getItem_list_slice ht.isList (Heap.IsSliceOf.new _ vl vu vs) pl pu ps (by decide) ?_ (by rw [List.size_toArray]; omega)
    rw [PySem.W.krv_pick]
    refine ⟨.ref _, _, I5.laid (t' := s4.toks) (o := .lst xs.reverse) (fun b ob q => Heap.get?_push_of_some _ q) (Nat.le_refl _) ?_, rfl, q _ (I5.hok.fresh (Nat.le_refl _))⟩
    exact ⟨by rw [List.length_reverse]; exact hz, _, 0, r.reverse, Heap.get?_push_size _ rfl⟩
  · subst ex
    cases r1
    cases pl
    cases pu
    obtain ⟨its, r, ht, hz⟩ := I5.tuple hx
    have hlen := r.length
    show wpAny (model X.prog X.w) X.A (subscriptTail e (.Slice none none (some (.UnaryOp .USub (.Constant (.int 1) k p1) p2)) p3) (.ref a) (.ref s4.heap.objs.size)) (EP X pins σ Q) X.xe { s4 with heap := s4.heap.push { cls := .type "slice", data := .fields #[.none, .none, vs] } }
    refine tail_any (ops := [.ref a, .ref s4.heap.objs.size]) ht.typeIs (PyProof.Rows.slot_tuple_getitem.lookup) ?_ (by with_unfolding_all rfl)
    refine getItem_tuple_rev ht (Heap.IsSliceOf.new _ .none .none vs) ps ?_ (by rw [List.size_toArray]; omega)
    refine ⟨.ref _, _, I5.laid (t' := s4.toks) (o := .tup xs.reverse) (fun b ob q => Heap.get?_push_of_some _ q) (Nat.le_refl _) ?_, rfl, q _ (I5.hok.fresh (Nat.le_refl _))⟩
    exact ⟨by rw [List.length_reverse]; exact hz, _, r.reverse, IsTup.new _ _⟩
def dRev : D → Rs D
  | .tup ds => .ok (.tup ds.reverse)
  | .lst _ ds => if ds.all (fun d => !d.flag) = true then .ok (.lst true ds.reverse) else .stuck
  | .scr ns => .ok (.lst true (ns.map .int).reverse)
  | _ => .stuck
theorem RpL.rev {K : PySem.W.Frag} {Z : AS} {H : Hp} : ∀ {ds : List D} {vs : List V}, RpL K Z H ds vs [] → RpL K Z H ds.reverse vs.reverse []
  | [], vs, h => by obtain ⟨rfl, _⟩ := RpL_nil.mp h; exact h
  | d :: ds, vs, h => by
    obtain ⟨v, vr, f1, f2, rfl, e, r1, r2⟩ := RpL_cons.mp h
    obtain ⟨rfl, rfl⟩ := List.append_eq_nil_iff.mp e.symm
    rw [List.reverse_cons, List.reverse_cons]
    exact (RpL.rev r2).app (RpL_cons.mpr ⟨v, [], [], [], rfl, rfl, r1, RpL_nil.mpr ⟨rfl, rfl⟩⟩)
theorem us_rev {K : PySem.W.Frag} : UnS K (rRev K) dRev := by
  intro Z H B Q W d1 v1 f1 b r po
  unfold dRev at po
  split at po
  · obtain ⟨_, a, vs, rfl, q, l⟩ := Rp_tup.mp r
    have e0 := r.noflag rfl
    subst e0
    exact .inr ⟨a, vs, rfl, q.seq, fun p hp => po Z _ _ (Hold.mkT b l.rev (RpL.rev l).nf hp)⟩
  · obtain ⟨a, vs, f, rfl, q, l⟩ := r.lst_get
    split at po
    · rename_i h
      have e := RpL.noflag l (nf_all h)
      subst e
      exact .inl ⟨a, vs, rfl, .of q, fun p hp => po Z _ _ (Hold.mkL b l.rev (RpL.rev l).nf hp)⟩
    · exact po.elim
  · obtain ⟨_, a, rfl, q⟩ := Rp_scr.mp r
    exact .inl ⟨a, _, rfl, q.seq, fun p hp => po Z _ _ (Hold.mkL b (rpl_ints (K := K) (Z := Z) (H := H) _).rev ((rpl_ints (K := K) (Z := Z) (H := H) _).rev).nf hp)⟩
  · exact po.elim
theorem ve_rev {X : Cx} {W : XW} {a : Expr} {fa : DE → Res L} {k : Nat} {p1 p2 p3 pos : Pos} (ha : VX X W a fa) : VE X W (.Subscript a (.Slice none none (some (.UnaryOp .USub (.Constant (.int 1) k p1) p2)) p3) pos) (eUn dRev fa) := by
  obtain ⟨ta, pa, sa⟩ := ha.ex
  exact ⟨_, pe_rev pa, snd_un sa us_rev⟩
end Tr

set_option maxHeartbeats 2000000
/-! The tree layer 15: sorted(set(t)) of a tuple of ints. -/
namespace Tr
open PySem PySem.Spec PyProof.Rows L2
def insU (x : Int) : List Int → List Int
  | [] => [x]
  | y :: ys => if x < y then x :: y :: ys else if x = y then y :: ys else y :: insU x ys
def usort : List Int → List Int
  | [] => []
  | x :: xs => insU x (usort xs)
theorem insU_mem (x k : Int) : ∀ l : List Int, k ∈ insU x l ↔ k = x ∨ k ∈ l
  | [] => by simp [insU]
  | y :: ys => by
    unfold insU
    split
    · simp
    · split
      · rename_i h; subst h; simp
      · simp only [List.mem_cons, insU_mem x k ys]
        constructor
        · rintro (h | h | h) <;> simp [h]
        · rintro (h | h | h) <;> simp [h]
theorem usort_mem (k : Int) : ∀ l : List Int, k ∈ usort l ↔ k ∈ l
  | [] => by simp [usort]
  | x :: xs => by simp only [usort, insU_mem, usort_mem k xs, List.mem_cons]
theorem insU_srt (x : Int) : ∀ l : List Int, l.Pairwise (· < ·) → (insU x l).Pairwise (· < ·)
  | [], _ => by simp [insU]
  | y :: ys, h => by
    unfold insU
    have h' := h
    rw [List.pairwise_cons] at h
    split
    · rename_i hxy
      rw [List.pairwise_cons]
      refine ⟨fun z hz => ?_, h'⟩
      rcases List.mem_cons.mp hz with rfl | hz
      · exact hxy
      · exact Int.lt_trans hxy (h.1 z hz)
    · split
      · exact h'
      · rw [List.pairwise_cons]
        refine ⟨fun z hz => ?_, insU_srt x ys h.2⟩
        rcases (insU_mem x z ys).mp hz with rfl | hz
        · omega
        · exact h.1 z hz
theorem usort_srt : ∀ l : List Int, (usort l).Pairwise (· < ·)
  | [] => .nil
  | x :: xs => insU_srt x _ (usort_srt xs)
theorem lt_uniq : ∀ {l m : List Int}, l.Pairwise (· < ·) → m.Pairwise (· < ·) → (∀ k : Int, k ∈ l ↔ k ∈ m) → l = m
  | [], [], _, _, _ => rfl
  | [], y :: m, _, _, h => by have := (h y).mpr (by simp); simp at this
  | x :: l, [], _, _, h => by have := (h x).mp (by simp); simp at this
  | x :: l, y :: m, h1, h2, h => by
    rw [List.pairwise_cons] at h1 h2
    have e : x = y := by
      rcases List.mem_cons.mp ((h x).mp (by simp)) with q | q
      · exact q
      · rcases List.mem_cons.mp ((h y).mpr (by simp)) with r | r
        · exact r.symm
        · have := h1.1 y r
          have := h2.1 x q
          omega
    subst e
    rw [lt_uniq h1.2 h2.2 fun k => ?_]
    constructor
    · intro hk
      rcases List.mem_cons.mp ((h k).mp (by simp [hk])) with q | q
      · subst q; exact absurd (h1.1 _ hk) (by omega)
      · exact q
    · intro hk
      rcases List.mem_cons.mp ((h k).mpr (by simp [hk])) with q | q
      · subst q; exact absurd (h2.1 _ hk) (by omega)
      · exact q
def rSortSet (K : PySem.W.Frag) : V → Hp → L2.VK → Prop := fun x H Q => ∃ (l : Addr) (ns : List Int), x = .ref l ∧ SqT K H l (ns.map V.int) ∧ ns.length < 60 ∧ ∀ p, H p = none → Q (.ref p) (upd H p (.lst ((usort ns).map V.int)))
theorem pe_sortSet {X : Cx} {a : Expr} {ta : TE} {p p2 q pos : Pos} (hg : Gl X "sorted") (hm : X.mg "sorted" = none) (hg2 : Gl X "set") (hm2 : X.mg "set" = none) (ha : PE X a ta) (hc : X.calm = true := by rfl)
    (na : starEach [a] X.env = (false, eval a X.env) :: starEach [] X.env := by rfl) : PE X (.Call (.Name "sorted" p) [.Call (.Name "set" p2) [a] [] q] [] pos) (tUn (rSortSet X.K) ta) := by
  refine ⟨fun pins s σ H Q I h => ?_⟩
  refine Call_ (ld_blt I hg hm (show bootBuiltins "sorted" = some (.builtin "sorted") by decide +kernel) ?_)
  refine PyProof.Rows.callWith_builtin1 (PyProof.Rows.args_cons ?_ rfl) rfl rfl
  refine Call_ (ld_blt I hg2 hm2 (show bootBuiltins "set" = some (.type "set") by decide +kernel) ?_)
  refine PyProof.Rows.callWith_type1 (PyProof.Rows.args_cons (thn (ha.run pins s σ H _ I h) fun v s1 ⟨x, H1, I1, r1, q1⟩ => PyProof.Rows.args_nil ?_) na) na rfl
  obtain ⟨l, ns, rfl, hq, hl, q1⟩ := q1
  cases r1
  obtain ⟨its, r, pl, hz⟩ := I1.tuple hq
  refine call_set_tupI ns (I1.ok.hd hc) pl (by simpa using r.ints) (by unfold scanBound; omega) fun h' tk c hS hcn hk => ?_
  refine PyProof.Rows.args_nil ?_
  have I2 : Inv X pins σ H1 { s1 with heap := h', toks := tk } := I1.kept hk
  refine sorted_set (s := { s1 with heap := h', toks := tk }) hS (I2.ok.hd hc) (by omega) fun s' p out c2 ms k g o hp hg hi hs hm hlen => ?_
  have e0 : ms = usort ns := lt_uniq hs (usort_srt ns) fun k => by rw [hm k, usort_mem]; simp
  subst e0
  have hz2 : ((usort ns).map V.int).length ≤ sizeLine := by rw [List.length_map, hlen, sizeLine_eq]; omega
  have hn : H1 p = none := I2.hok.fresh hp
  have J : Inv X pins σ (upd H1 p (.lst ((usort ns).map V.int))) { s1 with heap := s'.heap, gens := s'.gens, drawn := s'.drawn, toks := s'.toks } :=
    L2.Inv.call (s := { s1 with heap := h', toks := tk }) I2 (ch := []) (Un.laid k hp hn) (I2.hok.laid k hp ⟨hz2, out.toList, c2, vals_of_ints hi, hg⟩) (by rw [g]; exact I2.bare) (fun _ z => nomatch z)
  have e : s' = { s1 with heap := s'.heap, gens := s'.gens, drawn := s'.drawn, toks := s'.toks } := by
    cases s'
    cases s1
    cases o
    rfl
  rw [e]
  exact ⟨.ref p, _, J, rfl, q1 p hn⟩
def dSortSet : D → Rs D
  | .tup ds => match dInts? ds with
    | some ns => if ns.length < 60 then .ok (.lst true ((usort ns).map .int)) else .stuck
    | none => .stuck
  | _ => .stuck
theorem us_sortSet {K : PySem.W.Frag} : UnS K (rSortSet K) dSortSet := by
  intro Z H B Q W d1 v1 f1 b r po
  unfold dSortSet at po
  split at po
  · obtain ⟨_, a, vs, rfl, q, l⟩ := Rp_tup.mp r
    split at po
    · rename_i ns h
      have e := l.allI h
      subst e
      split at po
      · rename_i hl
        exact ⟨a, ns, rfl, q.seq, hl, fun p hp => po Z _ _ (Hold.mkL b (rpl_ints _) (rpl_ints (K := K) (Z := Z) (H := H) _).nf hp)⟩
      · exact po.elim
    · exact po.elim
  · exact po.elim
theorem ve_sortSet {X : Cx} {W : XW} {a : Expr} {fa : DE → Res L} {p p2 q pos : Pos} (hg : Gl X "sorted") (hm : X.mg "sorted" = none) (hg2 : Gl X "set") (hm2 : X.mg "set" = none) (ha : VX X W a fa) (hc : X.calm = true := by rfl)
    (na : starEach [a] X.env = (false, eval a X.env) :: starEach [] X.env := by rfl) : VE X W (.Call (.Name "sorted" p) [.Call (.Name "set" p2) [a] [] q] [] pos) (eUn dSortSet fa) := by
  obtain ⟨ta, pa, sa⟩ := ha.ex
  exact ⟨_, pe_sortSet hg hm hg2 hm2 pa hc na, snd_un sa us_sortSet⟩
end Tr

set_option maxHeartbeats 2000000
/-! The tree layer 16: dicts: taken, laid, {}. -/
namespace Tr
open PySem PySem.Spec PyProof.Rows L2
section
variable {K : PySem.W.Frag} {Z : AS} {H : Hp} {L : Bag} {ex : List Addr}
theorem KD.nst (kk : KD) (vs : List V) : ¬ Stab (kk.ho vs) := by cases kk <;> exact fun z => z
theorem Hold.takeD {v : V} {kk : KD} {ds : List D} (h : Hold K ex Z H ((v, .dct true kk ds) :: L)) : ∃ a vs, v = .ref a ∧ H a = some (kk.ho vs) ∧ kk.len = vs.length ∧ vs.length = ds.length ∧ Hold K (a :: ex) Z H (vs.zip ds ++ L) := by
  obtain ⟨M, r, nd, ne⟩ := h.rp
  obtain ⟨f1, f2, e, r1, r2⟩ := RpB.cons.mp r
  subst e
  rcases Rp_dct.mp r1 with ⟨e, _⟩ | ⟨_, a, vs, fp', ev, e2, za, q, kl, r3⟩
  · cases e
  subst e2
  have hl := r3.length
  have hb : RpB K Z H (vs.zip ds) fp' := by
    show RpL K Z H ((vs.zip ds).map (·.2)) ((vs.zip ds).map (·.1)) fp'
    have e1 : (vs.zip ds).map (·.2) = ds := by rw [← List.unzip_snd, List.unzip_zip hl]
    have e2 : (vs.zip ds).map (·.1) = vs := by rw [← List.unzip_fst, List.unzip_zip hl]
    rw [e1, e2]; exact r3
  have nd' : (a :: (fp' ++ f2)).Nodup := nd
  have ndc := List.nodup_cons.mp nd'
  refine ⟨a, vs, ev, q, kl, hl, ⟨fp' ++ f2, RpB.app.mpr ⟨fp', f2, rfl, hb, r2⟩, ndc.2, fun b hb hm => ?_⟩, fun b hb => ?_, h.zd⟩
  · rcases List.mem_cons.mp hb with rfl | hb
    · exact ndc.1 hm
    · exact ne b hb (List.mem_cons_of_mem _ hm)
  · rcases List.mem_cons.mp hb with rfl | hb
    · exact ⟨za, fun o e => by rw [q] at e; cases e; exact KD.nst _ _⟩
    · exact h.ez b hb
theorem Hold.layD {p : Addr} {kk : KD} {vs : List V} {ds : List D} (h : Hold K (p :: ex) Z H (vs.zip ds ++ L)) (hl : vs.length = ds.length) (hk : kk.len = vs.length) (hx : p ∉ ex) : Hold K ex Z (upd H p (kk.ho vs)) ((.ref p, .dct true kk ds) :: L) := by
  have h' := h.at (o := kk.ho vs) (KD.nst _ _)
  obtain ⟨M, r, nd, ne⟩ := h'.rp
  obtain ⟨f1, f2, e, r1, r2⟩ := RpB.app.mp r
  subst e
  have e1 : (vs.zip ds).map (·.2) = ds := by rw [← List.unzip_snd, List.unzip_zip hl]
  have e2 : (vs.zip ds).map (·.1) = vs := by rw [← List.unzip_fst, List.unzip_zip hl]
  have r1' : RpL K Z (upd H p (kk.ho vs)) ds vs f1 := by
    have q : RpL K Z (upd H p (kk.ho vs)) ((vs.zip ds).map (·.2)) ((vs.zip ds).map (·.1)) f1 := r1
    rw [e1, e2] at q; exact q
  refine ⟨⟨p :: (f1 ++ f2), ?_, List.nodup_cons.mpr ⟨ne p List.mem_cons_self, nd⟩, fun a ha hm => ?_⟩, fun a ha => h'.ez a (List.mem_cons_of_mem _ ha), h'.zd⟩
  · refine RpB.cons.mpr ⟨p :: f1, f2, rfl, ?_, r2⟩
    exact Rp_dct.mpr (.inr ⟨rfl, p, vs, f1, rfl, rfl, (h'.ez p List.mem_cons_self).1, upd_same, hk, r1'⟩)
  · rcases List.mem_cons.mp hm with rfl | hm
    · exact hx ha
    · exact ne a (List.mem_cons_of_mem _ ha) hm
end
section
variable {X : Cx} {W : XW} {pos : Pos}
/-- {}, of ints and texts as keys, or of tuples of them -/
theorem ve_dnewK : VE X W (.Dict [] [] pos) (eC (.dct true (.k []) [])) := ⟨_, pe_dnewK, fun Z σ H e tmp Q sr po p hp => po Z _ (.ref p) (.of sr.fit (Hold.layD (kk := .k []) (vs := []) (ds := []) (L := tmp ++ slots σ e) (sr.bag.new hp) rfl rfl (by simp)))⟩
theorem ve_dnewT : VE X W (.Dict [] [] pos) (eC (.dct true (.t []) [])) := ⟨_, pe_dnewT, fun Z σ H e tmp Q sr po p hp => po Z _ (.ref p) (.of sr.fit (Hold.layD (kk := .t []) (vs := []) (ds := []) (L := tmp ++ slots σ e) (sr.bag.new hp) rfl rfl (by simp)))⟩
end
end Tr

set_option maxHeartbeats 2000000
/-! The tree layer 17: a value is frozen as it is made. -/
namespace Tr
open PySem PySem.Spec PyProof.Rows L2
def eFz (f : DE → Res D) : DE → Res D := fun e => (f e).bind fun d e1 => .ok d.frz e1
theorem ve_fz {X : Cx} {W : XW} {a : Expr} {f : DE → Res D} (h : VE X W a f) : VE X W a (eFz f) := by
  obtain ⟨t, p, s⟩ := h.ex
  refine ⟨t, p, fun Z σ H e tmp Q sr po => s Z σ H e tmp Q sr ?_⟩
  unfold eFz at po
  cases h1 : f e with
  | stuck => rw [h1] at po; exact po
  | exn x e1 => rw [h1] at po; exact po
  | ok d e1 =>
    rw [h1] at po
    intro Z' H' v q
    obtain ⟨Z2, q2⟩ := SR.freeze q
    exact po Z2 H' v q2
@[simp] theorem ap_fz {f : DE → Res D} {e : DE} : eFz f e = (f e).bind fun d e1 => .ok d.frz e1 := (rfl)
end Tr

set_option maxHeartbeats 2000000
/-! The tree layer's evaluation: how the meaning functions are computed. -/
namespace Tr
open PySem PySem.Spec PyProof.Rows L2
def gd (e : DE) (i : Nat) : Option D := e.getD i none
@[simp] theorem gd_0 {x : Option D} {e : DE} : gd (x :: e) 0 = x := (rfl)
@[simp] theorem gd_s {x : Option D} {e : DE} {i : Nat} : gd (x :: e) (i + 1) = gd e i := (rfl)
section
variable {e : DE} {g : D → D → Rs D} {fa fb fc : DE → Res L} {f h : DE → Res D} {ft : DE → Res Bool} {i : Nat} {d : D}
@[simp] theorem ap_op2 : eOp2 g fa fb e = ((fa e).bind fun la e1 => (fb e1).bind fun lb e2 => match lget la e2, lget lb e2 with
  | some da, some db => (g da db).at e2
  | _, _ => .stuck) := (rfl)
@[simp] theorem ap_of : xOf f e = (f e).bind fun d e1 => .ok (.v d) e1 := (rfl)
@[simp] theorem ap_slot : xSlot i e = match gd e i with
  | some _ => .ok (.s i) e
  | none => .stuck := (rfl)
@[simp] theorem ap_c : eC d e = .ok d e := (rfl)
@[simp] theorem ap_use : eUse i e = match gd e i with
  | some d => if d.flag = true then .ok d.frz (e.set i (some d.frz)) else .ok d e
  | none => .stuck := (rfl)
@[simp] theorem ap_move : eMove i e = match gd e i with
  | some d => .ok d (e.set i none)
  | none => .stuck := (rfl)
@[simp] theorem ap_tOf : tOfE f e = (f e).bind fun d e1 => match d with
  | .bl b => .ok b e1
  | _ => .stuck := (rfl)
@[simp] theorem ap_tNot : tNotF ft e = (ft e).bind fun b e1 => .ok (!b) e1 := (rfl)
@[simp] theorem ap_tAnd {fu} : tAndF ft fu e = (ft e).bind fun b e1 => if b = true then fu e1 else .ok false e1 := (rfl)
@[simp] theorem ap_tOr {fu} : tOrF ft fu e = (ft e).bind fun b e1 => if b = true then .ok true e1 else fu e1 := (rfl)
@[simp] theorem ap_tYes : tYesF e = .ok true e := (rfl)
@[simp] theorem ap_if : eIf ft f h e = (ft e).bind fun b e1 => if b = true then f e1 else h e1 := (rfl)
@[simp] theorem ap_and : eAnd f h e = (f e).bind fun d e1 => match d with
  | .bl b => if b = true then h e1 else .ok (.bl false) e1
  | _ => .stuck := (rfl)
@[simp] theorem ap_or : eOr f h e = (f e).bind fun d e1 => match d with
  | .bl b => if b = true then .ok (.bl true) e1 else h e1
  | _ => .stuck := (rfl)
@[simp] theorem ap_chain {g'} : eChain g g' fa fb fc e = (fa e).bind fun la e1 => (fb e1).bind fun lb e2 => match lget la e2, lget lb e2 with
  | some da, some db => ((g da db).at e2).bind fun d e3 => match d with
    | .bl true => (fc e3).bind fun lc e4 => match lget lb e4, lget lc e4 with
      | some db, some dc => (g' db dc).at e4
      | _, _ => .stuck
    | .bl false => .ok (.bl false) e3
    | _ => .stuck
  | _, _ => .stuck := (rfl)
@[simp] theorem ap_un {g : D → Rs D} : eUn g fa e = (fa e).bind fun la e1 => match lget la e1 with
  | some da => (g da).at e1
  | none => .stuck := (rfl)
@[simp] theorem ap_nil : aNil e = .ok [] e := (rfl)
@[simp] theorem ap_cons {ga} : aCons fa ga e = (fa e).bind fun l e1 => (ga e1).bind fun ls e2 => .ok (l :: ls) e2 := (rfl)
@[simp] theorem ap_tup {ga} : eTup ga e = (ga e).bind fun ls e1 => match vals ls with
  | some ds => if ds.length ≤ sizeLine then .ok (.tup (frzL ds)) e1 else .stuck
  | none => .stuck := (rfl)
@[simp] theorem ap_lst {ga} : eLst ga e = (ga e).bind fun ls e1 => match vals ls with
  | some ds => if ds.length ≤ sizeLine then .ok (.lst true ds) e1 else .stuck
  | none => .stuck := (rfl)
@[simp] theorem ap_blt {gl} {ga} : eBlt gl ga e = (ga e).bind fun ls e1 => match lgets ls e1 with
  | some ds => (gl ds).at e1
  | none => .stuck := (rfl)
@[simp] theorem ap_call {G : List D → FR} {dds} {ga} : eCall G dds ga e = (ga e).bind fun ls e1 => match take ls e1 with
  | some (ds, e2) => match G (ds ++ dds) with
    | .ok d ds' => .ok d (give ls ds ds' e2)
    | .exn x ds' => .exn x (give ls ds ds' e2)
    | .stuck => .stuck
  | none => .stuck := (rfl)
@[simp] theorem ap_callK {G : List D → FR} {sp dds} {ga gk} : eCallK G sp dds ga gk e = (ga e).bind fun ls e1 => (gk e1).bind fun lk e2 => match vals lk with
  | some zs => if zs.all (fun d => !d.flag) = true then (match take ls e2 with
    | some (ds, e3) => match G (ds ++ arr .non dds sp zs) with
      | .ok d ds' => .ok d (give ls ds ds' e3)
      | .exn x ds' => .exn x (give ls ds ds' e3)
      | .stuck => .stuck
    | none => .stuck) else .stuck
  | none => .stuck := (rfl)
@[simp] theorem ap_sNil : sNil e = .nx e := (rfl)
@[simp] theorem ap_sCons {a b : DE → SRes} : sCons a b e = (a e).seq b := (rfl)
@[simp] theorem ap_sExpr : sExpr f e = (f e).toS fun _ e1 => .nx e1 := (rfl)
@[simp] theorem ap_sRet : sRet f e = (f e).toS fun d e1 => .rt d e1 := (rfl)
@[simp] theorem ap_sIf {a b : DE → SRes} : sIf ft a b e = (ft e).toS fun b' e1 => if b' = true then a e1 else b e1 := (rfl)
@[simp] theorem ap_sSet : sSet i f e = (f e).toS fun d e1 => if i < e1.length then .nx (e1.set i (some d)) else .stuck := (rfl)
@[simp] theorem ap_sAsg {gt} : sAsg f gt e = (f e).toS fun d e1 => match gt d e1 with
  | some e2 => .nx e2
  | none => .stuck := (rfl)
@[simp] theorem ap_sPar {ga : DE → Res (List L)} {gs : List D → DE → Option DE} : sPar ga gs e = ((ga e).toS fun ls e1 => match vals ls with
  | some ds => if ds.length ≤ sizeLine then (match gs ds e1 with
    | some e2 => .nx e2
    | none => .stuck) else .stuck
  | none => .stuck) := (rfl)
@[simp] theorem ap_sPar2 {i j} {ga} : sPar2 i j ga e = (ga e).toS fun ls e1 => match vals ls with
  | some [d1, d2] => if i < e1.length ∧ j < e1.length then .nx ((e1.set i (some d1)).set j (some d2)) else .stuck
  | _ => .stuck := (rfl)
@[simp] theorem ap_sFor {fi g} {b : DE → SRes} : sFor fi g b e = (fi e).toS fun k e1 => match k.at_ with
  | none => forL g b k.ds e1
  | some _ => .stuck := (rfl)
@[simp] theorem ap_rng1 {ga} : iRng1f ga e = (ga e).bind fun ls e1 => match lgets ls e1 with
  | some [.int j] => if small62 j = true then .ok ⟨rng 0 j, none⟩ e1 else .stuck
  | _ => .stuck := (rfl)
@[simp] theorem ap_rng2 {ga} : iRng2f ga e = (ga e).bind fun ls e1 => match lgets ls e1 with
  | some [.int i, .int j] => if (small62 i && small62 j) = true then .ok ⟨rng i j, none⟩ e1 else .stuck
  | _ => .stuck := (rfl)
@[simp] theorem ap_rng3 {ga} : iRng3f ga e = (ga e).bind fun ls e1 => match lgets ls e1 with
  | some [.int i, .int j, .int c] => if rgOk i j c = true then .ok ⟨rngC i j c, none⟩ e1 else .stuck
  | _ => .stuck := (rfl)
@[simp] theorem ap_iVal : iVal f e = (f e).bind fun d e1 => match d.items with
  | some ds => .ok ⟨ds, none⟩ e1
  | none => .stuck := (rfl)
@[simp] theorem ap_iSlot : iSlot i e = match gd e i with
  | some (.lst true ds) => if ds.all (fun d => !d.flag) = true then .ok ⟨ds, some (i, .lst true ds)⟩ e else .stuck
  | some d => match d.items with
    | some ds => .ok ⟨ds, none⟩ e
    | none => .stuck
  | none => .stuck := (rfl)
@[simp] theorem ap_gN : gN i d e = if i < e.length then some (e.set i (some d)) else none := (rfl)
@[simp] theorem ap_gIx {fi} : gIx i fi d e = match gd e i with
  | none => none
  | some _ => (match fi e with
    | .ok l e1 => (match lget l e1 with
      | some (.int k) => (match gd e1 i with
        | some (.lst true ds) => (match ixN ds.length k with
          | some j => some (e1.set i (some (.lst true (ds.set j d))))
          | none => none)
        | _ => none)
      | _ => none)
    | _ => none) := (rfl)
@[simp] theorem ap_app : eApp i f e = match gd e i with
  | some (.lst true _) => (f e).bind fun d e1 => match gd e1 i with
    | some (.lst true ds) => if ds.length < sizeLine then .ok .non (e1.set i (some (.lst true (ds ++ [d])))) else .stuck
    | _ => .stuck
  | _ => .stuck := (rfl)
@[simp] theorem ap_mt1 {chk} : eMt1 chk g fa fb e = (fa e).bind fun la e1 => match lget la e1 with
  | some d0 => if chk d0 = true then (fb e1).bind fun lb e2 => match lget la e2, lget lb e2 with
    | some da, some db => (g da db).at e2
    | _, _ => .stuck else .stuck
  | none => .stuck := (rfl)
@[simp] theorem ap_sl {gs fl fh} : eSl gs fa fl fh e = (fa e).bind fun la e1 => (fl e1).bind fun lo e2 => (fh e2).bind fun hi e3 => match lget la e3 with
  | some d => (gs d lo hi).at e3
  | none => .stuck := (rfl)
@[simp] theorem ap_oNo : oNo e = .ok none e := (rfl)
@[simp] theorem ap_oAt : oAt fa e = (fa e).bind fun l e1 => match lget l e1 with
  | some (.int i) => .ok (some i) e1
  | _ => .stuck := (rfl)
@[simp] theorem ap_fnG {fx n m fb} {ds : List D} : fnG fx n m fb ds = match fb (ds.map some ++ List.replicate (m - n) none) with
  | .nx e => fin fx ds e (.ok .non)
  | .rt d e => fin fx ds e (.ok d)
  | .exn x e => fin fx ds e (.exn x)
  | _ => .stuck := by rw [fnG_eq]; rfl
end
@[simp] theorem seq_nx (e : DE) (k : DE → SRes) : (SRes.nx e).seq k = k e := (rfl)
@[simp] theorem seq_rt (d : D) (e : DE) (k : DE → SRes) : (SRes.rt d e).seq k = .rt d e := (rfl)
@[simp] theorem seq_stuck (k : DE → SRes) : SRes.stuck.seq k = .stuck := (rfl)
@[simp] theorem fl_non : D.non.flag = false := (rfl)
@[simp] theorem fl_int {i} : (D.int i).flag = false := (rfl)
@[simp] theorem fl_bl {i} : (D.bl i).flag = false := (rfl)
@[simp] theorem fl_str {i} : (D.str i).flag = false := (rfl)
@[simp] theorem fl_ty {i} : (D.ty i).flag = false := (rfl)
@[simp] theorem fl_tup {i} : (D.tup i).flag = false := (rfl)
@[simp] theorem fl_scr {i} : (D.scr i).flag = false := (rfl)
@[simp] theorem fl_lst {o i} : (D.lst o i).flag = o := (rfl)
@[simp] theorem fz_non : D.non.frz = .non := by simp [D.frz]
@[simp] theorem fz_int {i} : (D.int i).frz = .int i := by simp [D.frz]
@[simp] theorem fz_bl {i} : (D.bl i).frz = .bl i := by simp [D.frz]
@[simp] theorem fz_tup {i} : (D.tup i).frz = .tup i := by simp [D.frz]
@[simp] theorem fz_lst {i} : (D.lst true i).frz = .lst false (frzL i) := by simp [D.frz]
@[simp] theorem fz_lstf {i} : (D.lst false i).frz = .lst false i := by simp [D.frz]
theorem frzL_map {α : Type} {F : α → D} (h : ∀ a, (F a).frz = F a) : ∀ xs : List α, frzL (xs.map F) = xs.map F
  | [] => by simp [frzL]
  | x :: xs => by simp [frzL, h, frzL_map h xs]
@[simp] theorem frzL_ints (xs : List Int) : frzL (xs.map D.int) = xs.map D.int := frzL_map (fun _ => by simp) xs
@[simp] theorem lg_v {d e} : lget (.v d) e = some d := (rfl)
@[simp] theorem lg_s {i e} : lget (.s i) e = gd e i := (rfl)
@[simp] theorem vals_ints_v {d ls} : vals (.v d :: ls) = (vals ls).map (d :: ·) := (rfl)
@[simp] theorem vals_n : vals [] = some [] := (rfl)
@[simp] theorem lgets_n {e} : lgets [] e = some [] := (rfl)
@[simp] theorem lgets_c {l ls e} : lgets (l :: ls) e = match lget l e with
    | some d => (lgets ls e).map (d :: ·)
    | none => none := (rfl)
@[simp] theorem d1_1 {g : D → Rs D} {d} : d1 g [d] = g d := (rfl)
@[simp] theorem d2_2 {g : D → D → Rs D} {d d'} : d2 g [d, d'] = g d d' := (rfl)
@[simp] theorem add_int {i j} : dAdd (.int i) (.int j) = .ok (.int (i + j)) := (rfl)
@[simp] theorem sub_int {i j} : dSub (.int i) (.int j) = .ok (.int (i - j)) := (rfl)
@[simp] theorem mul_int {i j} : dMul (.int i) (.int j) = if mulOk i j = true then .ok (.int (i * j)) else .stuck := (rfl)
@[simp] theorem mod_int {i j} : dMod (.int i) (.int j) = if 0 < j then .ok (.int (i % j)) else .stuck := by simp [dMod, dI]
@[simp] theorem fdiv_int {i j} : dFdiv (.int i) (.int j) = if 0 < j ∧ j.natAbs.log2 < 9000 then .ok (.int (i / j)) else .stuck := by simp [dFdiv, dI]
@[simp] theorem pow_int' {i j} : dPow (.int i) (.int j) = if powOk i j = true then .ok (.int (i ^ j.toNat)) else .stuck := (rfl)
@[simp] theorem neg_int {i} : dNeg (.int i) = .ok (.int (-i)) := (rfl)
@[simp] theorem lt_int {i j} : dLt (.int i) (.int j) = .ok (.bl (decide (i < j))) := (rfl)
@[simp] theorem le_int {i j} : dLe (.int i) (.int j) = .ok (.bl (decide (i ≤ j))) := (rfl)
@[simp] theorem gt_int {i j} : dGt (.int i) (.int j) = .ok (.bl (decide (j < i))) := (rfl)
@[simp] theorem ge_int {i j} : dGe (.int i) (.int j) = .ok (.bl (decide (j ≤ i))) := (rfl)
@[simp] theorem isn_non {a b} : dIsN b a .non = .ok (.bl (if b then !a.isNon else a.isNon)) := by cases b <;> rfl
@[simp] theorem isNon_non : D.non.isNon = true := (rfl)
@[simp] theorem isNon_int {i} : (D.int i).isNon = false := (rfl)
@[simp] theorem len_tup {ds} : dLen (.tup ds) = .ok (.int ds.length) := (rfl)
@[simp] theorem len_lst {o ds} : dLen (.lst o ds) = .ok (.int ds.length) := (rfl)
@[simp] theorem len_scr {ds} : dLen (.scr ds) = .ok (.int ds.length) := (rfl)
@[simp] theorem abs_int {i} : dAbs (.int i) = .ok (.int (i.natAbs : Nat)) := (rfl)
@[simp] theorem int_int {i} : dInt (.int i) = .ok (.int i) := (rfl)
@[simp] theorem int_bl {b} : dInt (.bl b) = .ok (.int (if b then 1 else 0)) := (rfl)
@[simp] theorem tup_tup {ds} : dTuple (.tup ds) = .ok (.tup ds) := (rfl)
@[simp] theorem max_int {i j} : dMax [.int i, .int j] = .ok (.int (max i j)) := (rfl)
@[simp] theorem min_int {i j} : dMin [.int i, .int j] = .ok (.int (min i j)) := (rfl)
@[simp] theorem isi_int_int {i} : dIsi (.int i) (.ty "int") = .ok (.bl true) := (rfl)
@[simp] theorem isi_int_bool {i} : dIsi (.int i) (.ty "bool") = .ok (.bl false) := (rfl)
@[simp] theorem isi_tup {i} : dIsi (.tup i) (.ty "tuple") = .ok (.bl true) := (rfl)
@[simp] theorem tk_n {e} : take [] e = some ([], e) := (rfl)
@[simp] theorem tk_v {d ls e} : take (.v d :: ls) e = (take ls e).map fun p => (d :: p.1, p.2) := (rfl)
@[simp] theorem tk_s {i ls e} : take (.s i :: ls) e = match gd e i with
    | some d => if d.flag = true then (take ls (e.set i none)).map fun p => (d :: p.1, p.2) else (take ls e).map fun p => (d :: p.1, p.2)
    | none => none := (rfl)
@[simp] theorem gv_n {ds ds' e} : give [] ds ds' e = e := by simp [give]
@[simp] theorem gv_v {x ls d ds d' ds' e} : give (.v x :: ls) (d :: ds) (d' :: ds') e = give ls ds ds' e := (rfl)
@[simp] theorem gv_s {i ls d ds d' ds' e} : give (.s i :: ls) (d :: ds) (d' :: ds') e = if d.flag = true then (give ls ds ds' e).set i (some d') else give ls ds ds' e := (rfl)
@[simp] theorem wp_n {e} : wipeE e [] = e := (rfl)
@[simp] theorem wp_c {e v vs} : wipeE e (v :: vs) = (wipeE e vs).set v none := (rfl)
@[simp] theorem rs_n {e e2} : restE e [] e2 = e2 := (rfl)
@[simp] theorem rs_c {e v vs e2} : restE e (v :: vs) e2 = restE e vs (match gd (wipeE e vs) v with
    | some d => e2.set v (some d)
    | none => e2) := (rfl)
@[simp] theorem Wk_C0 {ds e} : (Wk.mk ds none).C e = True := (rfl)
@[simp] theorem Wk_C1 {ds e i d} : (Wk.mk ds (some (i, d))).C e = (gd e i = some d) := (rfl)

theorem dInts_map : ∀ ns : List Int, dInts? (ns.map .int) = some ns
  | [] => rfl
  | n :: ns => by simp [dInts?, dInts_map ns]
theorem dBls_map : ∀ ns : List Bool, dBls? (ns.map .bl) = some ns
  | [] => rfl
  | n :: ns => by simp [dBls?, dBls_map ns]
@[simp] theorem sum_ints {o} {ns : List Int} : dSum (.lst o (ns.map .int)) = .ok (.int ns.sum) := by simp [dSum, dInts_map]
@[simp] theorem all_bls {o} {ns : List Bool} : dAll (.lst o (ns.map .bl)) = .ok (.bl (ns.all id)) := by simp [dAll, dBls_map]
theorem noflag_map {α : Type} {F : α → D} (h : ∀ a, (F a).flag = false) (xs : List α) : (xs.map F).all (fun d => !d.flag) = true := by
  simp [h]
@[simp] theorem tuple_ints {o} {ns : List Int} : dTuple (.lst o (ns.map .int)) = .ok (.tup (ns.map .int)) := by
  show (if _ then _ else _) = _; rw [if_pos (noflag_map (fun _ => rfl) ns)]

@[simp] theorem ap_fin {fx ds e} {k : List D → FR} : fin fx ds e k = match back fx 0 ds e with
  | some ds' => k ds'
  | none => .stuck := (rfl)
@[simp] theorem bk_n {fx i e} : back fx i [] e = some [] := by simp [back]
@[simp] theorem bk_c {fx i d ds o e} : back fx i (d :: ds) (o :: e) = (if fx.contains i = true then o else if d.flag = true then none else some d).bind fun d' => (back fx (i + 1) ds e).map (d' :: ·) := (rfl)
/-! ### comprehensions -/
def lcStep (vs : List Nat) (g : D → DE → Option DE) (ft : DE → Res Bool) (fe : DE → Res D) (d : D) (e : DE) : Option (Option D × DE) := match g d e with
  | some e1 => (match ft e1 with
    | .ok true e2 => (match fe e2 with
      | .ok y e3 => some (some y, wipeE e3 vs)
      | _ => none)
    | .ok false e2 => some (none, wipeE e2 vs)
    | _ => none)
  | none => none
theorem lcL_step {C : DE → Prop} {vs : List Nat} {g : D → DE → Option DE} {ft : DE → Res Bool} {fe : DE → Res D} {d : D} {ds : List D} {e e' : DE} {o : Option D} (hC : C e) (h : lcStep vs g ft fe d e = some (o, e')) :
    lcL C vs g ft fe (d :: ds) e = (lcL C vs g ft fe ds e').map fun p => (o.toList ++ p.1, p.2) := by
  rw [lcL, if_pos hC]
  unfold lcStep at h
  cases h1 : g d e with
  | none => simp [h1] at h
  | some e1 =>
    simp only [h1] at h ⊢
    cases h2 : ft e1 with
    | exn x e2 => simp [h2] at h
    | stuck => simp [h2] at h
    | ok b e2 =>
      cases b with
      | true =>
        simp only [h2] at h ⊢
        cases h3 : fe e2 with
        | exn x e3 => simp [h3] at h
        | stuck => simp [h3] at h
        | ok y e3 =>
          simp only [h3] at h ⊢
          cases h
          rfl
      | false =>
        simp only [h2] at h ⊢
        cases h
        cases lcL C vs g ft fe ds (wipeE e2 vs) <;> rfl
theorem lcL_pure {α : Type} {C : DE → Prop} {vs : List Nat} {g : D → DE → Option DE} {ft : DE → Res Bool} {fe : DE → Res D} {I : α → D} {p : α → Bool} {F : α → D} {e : DE} (hC : C e) : ∀ {as : List α}, (∀ a ∈ as, lcStep vs g ft fe (I a) e = some (if p a = true then some (F a) else none, e)) →
    lcL C vs g ft fe (as.map I) e = some ((as.filter p).map F, e)
  | [], _ => rfl
  | a :: as, h => by
    rw [List.map_cons, lcL_step hC (h a (by simp)), lcL_pure hC fun b hb => h b (by simp [hb])]
    by_cases q : p a = true <;> simp [q]
/-- a comprehension with no effects -/
theorem eLc_pure {α : Type} {vs : List Nat} {fi : DE → Res Wk} {g : D → DE → Option DE} {ft : DE → Res Bool} {fe : DE → Res D} {e e1 : DE} {k : Wk} (as : List α) (I : α → D) (p : α → Bool) (F : α → D) (hi : fi e = .ok k e1) (hk : k.ds = as.map I) (hv : ∀ q, k.at_ = some q → vs.contains q.1 = false) (hs : as.length ≤ sizeLine)
    (hC : k.C (wipeE e1 vs)) (h : ∀ a ∈ as, lcStep vs g ft fe (I a) (wipeE e1 vs) = some (if p a = true then some (F a) else none, wipeE e1 vs)) : eLc vs fi g ft fe e = .ok (.lst true ((as.filter p).map F)) (restE e1 vs (wipeE e1 vs)) := by
  rw [eLc_eq]; unfold eLc0
  rw [hi, Res.bind_ok, if_pos ⟨by rw [hk, List.length_map]; exact hs, hv⟩, hk, lcL_pure hC h]
  simp [hC]
theorem eLc_map {α : Type} {vs : List Nat} {fi : DE → Res Wk} {g : D → DE → Option DE} {fe : DE → Res D} {e e1 : DE} {k : Wk} (as : List α) (I : α → D) (F : α → D) (hi : fi e = .ok k e1) (hk : k.ds = as.map I) (hv : ∀ q, k.at_ = some q → vs.contains q.1 = false) (hs : as.length ≤ sizeLine)
    (hC : k.C (wipeE e1 vs)) (h : ∀ a ∈ as, lcStep vs g tYesF fe (I a) (wipeE e1 vs) = some (some (F a), wipeE e1 vs)) : eLc vs fi g tYesF fe e = .ok (.lst true (as.map F)) (restE e1 vs (wipeE e1 vs)) := by
  have q := eLc_pure (ft := tYesF) as I (fun _ => true) F hi hk hv hs hC (fun a ha => by rw [if_pos rfl]; exact h a ha)
  rw [q, List.filter_eq_self.mpr (fun _ _ => rfl)]
/-- a comprehension with an invariant: what it makes is told entry by entry -/
theorem lcL_inv {C : DE → Prop} {vs : List Nat} {g : D → DE → Option DE} {ft : DE → Res Bool} {fe : DE → Res D} (P : Nat → List D → DE → Prop) (hC : ∀ i l e, P i l e → C e) : ∀ {ds : List D} {i : Nat} {l : List D} {e : DE}, P i l e →
    (∀ j d l e, ds[j]? = some d → P (i + j) l e → ∃ o e', lcStep vs g ft fe d e = some (o, e') ∧ P (i + j + 1) (l ++ o.toList) e') →
    ∃ l' e', lcL C vs g ft fe ds e = some (l', e') ∧ P (i + ds.length) (l ++ l') e'
  | [], i, l, e, h, _ => ⟨[], e, rfl, by simpa using h⟩
  | d :: ds, i, l, e, h, hs => by
    obtain ⟨o, e1, h1, h2⟩ := hs 0 d l e rfl h
    obtain ⟨l', e', h3, h4⟩ := lcL_inv P hC (ds := ds) h2 (fun j d' l e hd hp => by
      have q := hs (j + 1) d' l e (by simpa using hd) (by rw [← Nat.add_assoc, Nat.add_right_comm]; exact hp)
      rw [← Nat.add_assoc, Nat.add_right_comm i j 1] at q
      exact q)
    refine ⟨o.toList ++ l', e', by rw [lcL_step (hC _ _ _ h) h1, h3]; rfl, ?_⟩
    rw [← List.append_assoc, List.length_cons, show i + (ds.length + 1) = i + 0 + 1 + ds.length by omega]
    exact h4
theorem eLc_inv {vs : List Nat} {fi : DE → Res Wk} {g : D → DE → Option DE} {ft : DE → Res Bool} {fe : DE → Res D} {e e1 : DE} {k : Wk} (P : Nat → List D → DE → Prop) (hi : fi e = .ok k e1) (hv : ∀ q, k.at_ = some q → vs.contains q.1 = false) (hl : k.ds.length ≤ sizeLine)
    (hC : ∀ i l e, P i l e → k.C e) (h0 : P 0 [] (wipeE e1 vs)) (hs : ∀ j d l e, k.ds[j]? = some d → P j l e → ∃ o e', lcStep vs g ft fe d e = some (o, e') ∧ P (j + 1) (l ++ o.toList) e') :
    ∃ l e2, eLc vs fi g ft fe e = .ok (.lst true l) (restE e1 vs e2) ∧ P k.ds.length l e2 := by
  obtain ⟨l, e2, h1, h2⟩ := lcL_inv (C := k.C) (vs := vs) (g := g) (ft := ft) (fe := fe) P hC h0 (by simpa using hs)
  refine ⟨l, e2, ?_, by simpa using h2⟩
  rw [eLc_eq]; unfold eLc0
  rw [hi, Res.bind_ok, if_pos ⟨hl, hv⟩, h1]
  have hc : k.C e2 := hC _ _ _ h2
  simp [hc]
/-! ### for -/
theorem forL_inv {g : D → DE → Option DE} {b : DE → SRes} (P : Nat → DE → Prop) : ∀ {ds : List D} {i : Nat} {e : DE}, P i e →
    (∀ j d e, ds[j]? = some d → P (i + j) e → ∃ e1 e2, g d e = some e1 ∧ b e1 = .nx e2 ∧ P (i + j + 1) e2) →
    ∃ e', forL g b ds e = .nx e' ∧ P (i + ds.length) e'
  | [], i, e, h, _ => ⟨e, rfl, h⟩
  | d :: ds, i, e, h, hs => by
    obtain ⟨e1, e2, h1, h2, h3⟩ := hs 0 d e rfl h
    obtain ⟨e', h4, h5⟩ := forL_inv P (ds := ds) h3 (fun j d' e hd hp => by
      have q := hs (j + 1) d' e (by simpa using hd) (by rw [← Nat.add_assoc, Nat.add_right_comm]; exact hp)
      rw [← Nat.add_assoc, Nat.add_right_comm i j 1] at q
      exact q)
    refine ⟨e', by rw [forL, h1]; dsimp only; rw [h2]; exact h4, ?_⟩
    rw [List.length_cons, show i + (ds.length + 1) = i + 0 + 1 + ds.length by omega]
    exact h5
theorem forL_inv0 {g : D → DE → Option DE} {b : DE → SRes} (P : Nat → DE → Prop) {ds : List D} {e : DE} (h : P 0 e)
    (hs : ∀ j d e, ds[j]? = some d → P j e → ∃ e1 e2, g d e = some e1 ∧ b e1 = .nx e2 ∧ P (j + 1) e2) :
    ∃ e', forL g b ds e = .nx e' ∧ P ds.length e' := by
  have q := forL_inv (b := b) P (ds := ds) h (by simpa using hs)
  simpa using q
/-! ### while -/
theorem sWhile_at {c : DE → Res Bool} {b : DE → SRes} {e : DE} {n : Nat} {r : SRes} (h : whF c b n e = r) (hr : r ≠ .stuck) : sWhile c b e = r := by
  exact sWhile_eq h hr
theorem log2_lt' {n k : Nat} (hk : 0 < k) (h : n < 2 ^ k) : n.log2 < k := by
  by_cases h0 : n = 0
  · subst h0; simpa using hk
  · exact (Nat.log2_lt h0).mpr h
theorem mulOk_of {i j : Int} (hi : i.natAbs < 2 ^ 1000) (hj : j.natAbs < 2 ^ 1000) : mulOk i j = true := by
  have a := log2_lt' (by decide) hi
  have b := log2_lt' (by decide) hj
  unfold mulOk
  simp only [decide_eq_true_eq]
  omega
end Tr

set_option maxHeartbeats 2000000
/-! The evaluation, 2: equality, membership, items, zip, targets. -/
namespace Tr
open PySem PySem.Spec PyProof.Rows L2
@[simp] theorem ap_gTp {n gs d e} : gTp n gs d e = match d with
  | .tup ds => if ds.length = n then gs ds e else none
  | _ => none := (rfl)
@[simp] theorem ap_gsNil {e} : gsNil [] e = some e := (rfl)
@[simp] theorem ap_gsCons {g gs d ds e} : gsCons g gs (d :: ds) e = (g d e).bind (gs ds) := (rfl)
@[simp] theorem ap_frz_v {d e} : frzS (.v d) e = some (d.frz, e) := (rfl)
@[simp] theorem ap_frz_s {i e} : frzS (.s i) e = match gd e i with
    | some d => if d.flag = true then some (d.frz, e.set i (some d.frz)) else some (d, e)
    | none => none := (rfl)
@[simp] theorem ap_zip2 {fa e} : iZip2 fa e = (fa e).bind fun ls e1 => match ls with
  | [l, l2] => (match frzS l2 e1 with
    | some (d2, e2) => (match frzS l e2 with
      | some (d, e3) => (match d, d2 with
        | .lst _ as, .lst _ bs => .ok ⟨zipD as bs, none⟩ e3
        | .tup as, .tup bs => .ok ⟨zipD as bs, none⟩ e3
        | _, _ => .stuck)
      | none => .stuck)
    | none => .stuck)
  | _ => .stuck := (rfl)
theorem zipD_ints : ∀ xs ys : List Int, zipD (xs.map .int) (ys.map .int) = (xs.zip ys).map fun p => D.tup [.int p.1, .int p.2]
  | [], _ => rfl
  | _ :: _, [] => rfl
  | x :: xs, y :: ys => by simp [zipD, zipD_ints xs ys]
theorem sIx_le {n d : Nat} {k : Nat} : HT.sIx n d (some (k : Int)) = min k n := HT.sIx_nat n d k
theorem cutD_from {α : Type} (xs : List α) (k : Nat) : cutD xs (some (k : Int)) none = xs.drop k := by
  unfold cutD
  rw [sIx_le, HT.sIx_none]
  by_cases h : k ≤ xs.length
  · rw [Nat.min_eq_left h]; exact List.take_of_length_le (by simp)
  · rw [Nat.min_eq_right (by omega)]; simp; omega
theorem flats_ints : ∀ xs : List Int, flats (xs.map .int) = some (xs.map .int)
  | [] => by simp [flats]
  | x :: xs => by simp [flats, D.flatV, flats_ints xs]
theorem inV_ints (i : Int) : ∀ xs : List Int, inV (.int i) (xs.map .int) = decide (i ∈ xs)
  | [] => by simp [inV]
  | x :: xs => by
    have h := inV_ints i xs
    unfold inV at h ⊢
    rw [List.map_cons, List.any_cons, h]
    by_cases q : x = i
    · subst q; simp [eqV]
    · simp [eqV, q, Ne.symm q, show ¬ i = x from fun h => q h.symm]
theorem in_tup {b : Bool} {i : Int} {xs : List Int} : dIn b (.int i) (.tup (xs.map .int)) = .ok (.bl (if b then !decide (i ∈ xs) else decide (i ∈ xs))) := by
  cases b <;> simp [dIn, D.flatV, flats_ints, inV_ints]
theorem in_lst {b o : Bool} {i : Int} {xs : List Int} : dIn b (.int i) (.lst o (xs.map .int)) = .ok (.bl (if b then !decide (i ∈ xs) else decide (i ∈ xs))) := by
  cases b <;> simp [dIn, D.flatV, flats_ints, inV_ints]
theorem dInts_of {α : Type} (f : α → Int) : ∀ l : List α, dInts? (l.map fun k => D.int (f k)) = some (l.map f)
  | [] => rfl
  | n :: ns => by simp [dInts?, dInts_of f ns]
theorem count_of {α : Type} {o} {f : α → Int} {l : List α} {k : Int} : dCount (.lst o (l.map fun x => D.int (f x))) (.int k) = .ok (.int ((l.map f).count k : Nat)) := by simp [dCount, dInts_of]
end Tr

set_option maxHeartbeats 2000000
/-! The typed layer 1: slots' promises, typed judgements over the trees' meaning. -/
namespace Tr
open PySem PySem.Spec PyProof.Rows L2
abbrev SA := Option D → Prop
abbrev DP := D → Prop
def Sl (P : DP) : SA := fun o => ∃ d, o = some d ∧ P d
def No : SA := fun o => o = none
def An : SA := fun _ => True
def Eq1 (d : D) : DP := fun x => x = d
/-- a list that is owned or not -/
def LiU {α : Type} (e : α → D) (l : List α) : DP := fun x => ∃ b, x = .lst b (l.map e)
abbrev Ctx := List SA
def Fits : Ctx → DE → Prop
  | [], [] => True
  | a :: Γ, o :: e => a o ∧ Fits Γ e
  | _, _ => False
def All2 : List DP → List D → Prop
  | [], [] => True
  | P :: Ps, d :: ds => P d ∧ All2 Ps ds
  | _, _ => False
theorem Fits.get : ∀ {Γ : Ctx} {e : DE} {i : Nat} {a : SA}, Fits Γ e → Γ[i]? = some a → a (gd e i)
  | [], [], i, a, _, h => by simp at h
  | [], _ :: _, _, _, h, _ => h.elim
  | _ :: _, [], _, _, h, _ => h.elim
  | b :: Γ, o :: e, 0, a, h, hi => by
    simp at hi; subst hi; exact h.1
  | b :: Γ, o :: e, i + 1, a, h, hi => by
    have q := Fits.get (i := i) h.2 (by simpa using hi)
    simpa using q
theorem Fits.set : ∀ {Γ : Ctx} {e : DE} {i : Nat} {a : SA} {o : Option D}, Fits Γ e → a o → Fits (Γ.set i a) (e.set i o)
  | [], [], i, a, o, h, _ => h
  | [], _ :: _, _, _, _, h, _ => h.elim
  | _ :: _, [], _, _, _, h, _ => h.elim
  | b :: Γ, x :: e, 0, a, o, h, ha => ⟨ha, h.2⟩
  | b :: Γ, x :: e, i + 1, a, o, h, ha => ⟨h.1, Fits.set h.2 ha⟩
theorem Fits.len : ∀ {Γ : Ctx} {e : DE}, Fits Γ e → Γ.length = e.length
  | [], [], _ => rfl
  | [], _ :: _, h => h.elim
  | _ :: _, [], h => h.elim
  | b :: Γ, x :: e, h => by simp [Fits.len h.2]
theorem Fits.sl {Γ : Ctx} {e : DE} {i : Nat} {P : DP} (h : Fits Γ e) (hi : Γ[i]? = some (Sl P)) : ∃ d, gd e i = some d ∧ P d := h.get hi
theorem set_gd : ∀ {e : DE} {i : Nat} {o : Option D}, i < e.length → gd e i = o → e.set i o = e
  | [], i, o, h, _ => by simp at h
  | x :: e, 0, o, _, h => by simp at h; subst h; rfl
  | x :: e, i + 1, o, h, hg => by
    simp only [List.set_cons_succ]
    rw [set_gd (i := i) (by simpa using h) (by simpa using hg)]
theorem gd_lt {e : DE} {i : Nat} {d : D} (h : gd e i = some d) : i < e.length := by
  unfold gd at h
  rw [List.getD_eq_getElem?_getD] at h
  by_cases hi : i < e.length
  · exact hi
  · rw [List.getElem?_eq_none (by omega)] at h; cases h
/-! ### weakening -/
def Sub (Γ Γ' : Ctx) : Prop := ∀ env, Fits Γ env → Fits Γ' env
theorem Sub.refl {Γ : Ctx} : Sub Γ Γ := fun _ h => h
theorem sub_n : Sub [] [] := fun _ h => h
theorem sub_c {a b : SA} {Γ Γ' : Ctx} (h : ∀ o, a o → b o) (t : Sub Γ Γ') : Sub (a :: Γ) (b :: Γ') := fun env q => match env, q with
  | o :: env, q => ⟨h o q.1, t env q.2⟩
theorem w_id {a : SA} : ∀ o, a o → a o := fun _ h => h
theorem w_an {a : SA} : ∀ o, a o → An o := fun _ _ => trivial
theorem w_un {α : Type} {e : α → D} {l : List α} {b : Bool} : ∀ o, Sl (Eq1 (.lst b (l.map e))) o → Sl (LiU e l) o := fun o ⟨d, h1, h2⟩ => ⟨d, h1, b, h2⟩
/-! ### kinds -/
abbrev U := {d : D // d.flag = false}
structure Imm {α : Type} (e : α → D) : Prop where
  nf : ∀ x, (e x).flag = false
theorem frz_nf {d : D} (h : d.flag = false) : d.frz = d := by
  cases d with
  | lst o ds => simp at h; subst h; simp
  | ins o C ns ds => simp only [D.flag] at h; subst h; simp [D.frz]
  | dct o ks ds => simp only [D.flag] at h; subst h; simp [D.frz]
  | _ => simp [D.frz]
theorem frzL_map' {α : Type} {e : α → D} (h : Imm e) (l : List α) : frzL (l.map e) = l.map e := frzL_map (fun a => frz_nf (h.nf a)) l
theorem nf_map {α : Type} {e : α → D} (h : Imm e) (l : List α) : (l.map e).all (fun d => !d.flag) = true := noflag_map h.nf l
theorem im_int : Imm D.int := ⟨fun _ => rfl⟩
theorem im_bl : Imm D.bl := ⟨fun _ => rfl⟩
theorem im_str : Imm D.str := ⟨fun _ => rfl⟩
def eN : Unit → D := fun _ => .non
theorem im_non : Imm eN := ⟨fun _ => rfl⟩
def eU : U → D := fun x => x.1
theorem im_u : Imm eU := ⟨fun x => x.2⟩
/-- tuples of one kind -/
def eTO {α : Type} (e : α → D) : List α → D := fun l => .tup (l.map e)
theorem im_to {α : Type} {e : α → D} : Imm (eTO e) := ⟨fun _ => rfl⟩
def eT2 {α β : Type} (e : α → D) (f : β → D) : α × β → D := fun p => .tup [e p.1, f p.2]
theorem im_t2 {α β : Type} {e : α → D} {f : β → D} : Imm (eT2 e f) := ⟨fun _ => rfl⟩
def eT3 {α β γ : Type} (e : α → D) (f : β → D) (g : γ → D) : α × β × γ → D := fun p => .tup [e p.1, f p.2.1, g p.2.2]
theorem im_t3 {α β γ : Type} {e : α → D} {f : β → D} {g : γ → D} : Imm (eT3 e f g) := ⟨fun _ => rfl⟩
def eT1 {α : Type} (e : α → D) : α → D := fun p => .tup [e p]
theorem im_t1 {α : Type} {e : α → D} : Imm (eT1 e) := ⟨fun _ => rfl⟩
/-- lists: owned, frozen -/
def eLO {α : Type} (e : α → D) : List α → D := fun l => .lst true (l.map e)
def eLF {α : Type} (e : α → D) : List α → D := fun l => .lst false (l.map e)
theorem im_lf {α : Type} {e : α → D} : Imm (eLF e) := ⟨fun _ => rfl⟩
def eO {α : Type} (e : α → D) : Option α → D := fun o => match o with
  | none => .non
  | some x => e x
theorem im_o {α : Type} {e : α → D} (h : Imm e) : Imm (eO e) := ⟨fun o => by cases o; rfl; exact h.nf _⟩
def uOf {α : Type} {e : α → D} (h : Imm e) (x : α) : U := ⟨e x, h.nf x⟩
/-! ### judgements -/
section
variable {α β γ : Type}
def PE (Γ : Ctx) (f : DE → Res D) (d : D) (Γ' : Ctx) : Prop := ∀ env, Fits Γ env → ∃ env', f env = .ok d env' ∧ Fits Γ' env'
def TE (Γ : Ctx) (f : DE → Res D) (m : Option α) (e : α → D) (Γ' : α → Ctx) : Prop := ∀ env, Fits Γ env → ∀ r, m = some r → ∃ env', f env = .ok (e r) env' ∧ Fits (Γ' r) env'
def PX (Γ : Ctx) (f : DE → Res L) (l : L) (Γ' : Ctx) : Prop := ∀ env, Fits Γ env → ∃ env', f env = .ok l env' ∧ Fits Γ' env'
def TAp (Γ : Ctx) (f : DE → Res (List L)) (ls : List L) (Γ' : Ctx) : Prop := ∀ env, Fits Γ env → ∃ env', f env = .ok ls env' ∧ Fits Γ' env'
def TA (Γ : Ctx) (f : DE → Res (List L)) (m : Option α) (ls : α → List L) (Γ' : α → Ctx) : Prop := ∀ env, Fits Γ env → ∀ r, m = some r → ∃ env', f env = .ok (ls r) env' ∧ Fits (Γ' r) env'
def PT (Γ : Ctx) (f : DE → Res Bool) (b : Bool) (Γ' : Ctx) : Prop := ∀ env, Fits Γ env → ∃ env', f env = .ok b env' ∧ Fits Γ' env'
def TT (Γ : Ctx) (f : DE → Res Bool) (m : Option α) (b : α → Bool) (Γ' : α → Ctx) : Prop := ∀ env, Fits Γ env → ∀ r, m = some r → ∃ env', f env = .ok (b r) env' ∧ Fits (Γ' r) env'
def TB (Γ : Ctx) (f : DE → SRes) (m : Option α) (Γ' : α → Ctx) : Prop := ∀ env, Fits Γ env → ∀ r, m = some r → ∃ env', f env = .nx env' ∧ Fits (Γ' r) env'
def TBp (Γ : Ctx) (f : DE → SRes) (Γ' : Ctx) : Prop := ∀ env, Fits Γ env → ∃ env', f env = .nx env' ∧ Fits Γ' env'
def TS (Γ : Ctx) (f : DE → SRes) (m : Option α) (I : α → SRes → Prop) : Prop := ∀ env, Fits Γ env → ∀ r, m = some r → I r (f env)
def Rd (Γ : Ctx) (l : L) (P : DP) : Prop := ∀ env, Fits Γ env → ∃ d, lget l env = some d ∧ P d
def Rds (Γ : Ctx) (ls : List L) (Ps : List DP) : Prop := ∀ env, Fits Γ env → ∃ ds, lgets ls env = some ds ∧ All2 Ps ds
def OpT (g : List D → Rs D) (Ps : List DP) (d : D) : Prop := ∀ ds, All2 Ps ds → g ds = .ok d
def OpN (g : List D → Rs D) (Ps : List DP) (m : Option α) (e : α → D) : Prop := ∀ ds, All2 Ps ds → ∀ r, m = some r → g ds = .ok (e r)
theorem op_t {g : List D → Rs D} {Ps : List DP} {v : α} {e : α → D} (h : OpT g Ps (e v)) : OpN g Ps (some v) e := fun ds a r hr => by cases hr; exact h ds a
/-- reading -/
theorem rd_v {Γ : Ctx} {d : D} {P : DP} (h : P d) : Rd Γ (.v d) P := fun env _ => ⟨d, rfl, h⟩
theorem rd_e {Γ : Ctx} {d : D} : Rd Γ (.v d) (Eq1 d) := rd_v rfl
theorem rd_s {Γ : Ctx} {i : Nat} {P Q : DP} (hi : Γ[i]? = some (Sl P)) (h : ∀ d, P d → Q d) : Rd Γ (.s i) Q := fun env f => by
  obtain ⟨d, h1, h2⟩ := f.sl hi
  exact ⟨d, h1, h d h2⟩
theorem p_id {P : DP} : ∀ d, P d → P d := fun _ h => h
theorem p_lu {e : α → D} {l : List α} {b : Bool} : ∀ d, Eq1 (.lst b (l.map e)) d → LiU e l d := fun d h => ⟨b, h⟩
theorem p_lue {e : α → D} {l : List α} {b : Bool} : LiU e l (.lst b (l.map e)) := ⟨b, rfl⟩
theorem rds_n {Γ : Ctx} : Rds Γ [] [] := fun env _ => ⟨[], rfl, trivial⟩
theorem rds_c {Γ : Ctx} {l : L} {P : DP} {ls : List L} {Ps : List DP} (h : Rd Γ l P) (t : Rds Γ ls Ps) : Rds Γ (l :: ls) (P :: Ps) := fun env f => by
  obtain ⟨d, h1, h2⟩ := h env f
  obtain ⟨ds, t1, t2⟩ := t env f
  exact ⟨d :: ds, by simp [h1, t1], h2, t2⟩
/-- operands -/
theorem px_s {Γ : Ctx} {i : Nat} {P : DP} (hi : Γ[i]? = some (Sl P)) : PX Γ (xSlot i) (.s i) Γ := fun env f => by
  obtain ⟨d, h1, h2⟩ := f.sl hi
  exact ⟨env, by simp [h1], f⟩
theorem px_o {Γ Γ' : Ctx} {f : DE → Res D} {d : D} (h : PE Γ f d Γ') : PX Γ (xOf f) (.v d) Γ' := fun env q => by
  obtain ⟨env', h1, h2⟩ := h env q
  exact ⟨env', by simp [h1], h2⟩
theorem tap_n {Γ : Ctx} : TAp Γ aNil [] Γ := fun env q => ⟨env, rfl, q⟩
theorem tap_c {Γ Γ1 Γ2 : Ctx} {f : DE → Res L} {l : L} {ft : DE → Res (List L)} {ls : List L} (h : PX Γ f l Γ1) (t : TAp Γ1 ft ls Γ2) : TAp Γ (aCons f ft) (l :: ls) Γ2 := fun env q => by
  obtain ⟨e1, h1, h2⟩ := h env q
  obtain ⟨e2, t1, t2⟩ := t e1 h2
  exact ⟨e2, by simp [h1, t1], t2⟩
theorem ta_p {Γ Γ1 : Ctx} {Γ2 : α → Ctx} {f : DE → Res L} {l : L} {ft : DE → Res (List L)} {m : Option α} {ls : α → List L} (h : PX Γ f l Γ1) (t : TA Γ1 ft m ls Γ2) : TA Γ (aCons f ft) m (fun r => l :: ls r) Γ2 := fun env q r hr => by
  obtain ⟨e1, h1, h2⟩ := h env q
  obtain ⟨e2, t1, t2⟩ := t e1 h2 r hr
  exact ⟨e2, by simp [h1, t1], t2⟩
theorem ta_m {Γ : Ctx} {Γ1 Γ2 : α → Ctx} {f : DE → Res D} {m : Option α} {e : α → D} {ft : DE → Res (List L)} {ls : α → List L} (h : TE Γ f m e Γ1) (t : ∀ r, TAp (Γ1 r) ft (ls r) (Γ2 r)) : TA Γ (aCons (xOf f) ft) m (fun r => .v (e r) :: ls r) Γ2 := fun env q r hr => by
  obtain ⟨e1, h1, h2⟩ := h env q r hr
  obtain ⟨e2, t1, t2⟩ := t r e1 h2
  exact ⟨e2, by simp [h1, t1], t2⟩
theorem ta_mm {Γ : Ctx} {Γ1 : α → Ctx} {Γ2 : α → β → Ctx} {f : DE → Res D} {m : Option α} {e : α → D} {ft : DE → Res (List L)} {mt : α → Option β} {ls : α → β → List L} (h : TE Γ f m e Γ1) (t : ∀ r, TA (Γ1 r) ft (mt r) (ls r) (Γ2 r)) :
    TA Γ (aCons (xOf f) ft) (m.bind fun a => (mt a).map fun b => (a, b)) (fun r => .v (e r.1) :: ls r.1 r.2) (fun r => Γ2 r.1 r.2) := fun env q r hr => by
  rw [Option.bind_eq_some_iff] at hr
  obtain ⟨a, ha, hr⟩ := hr
  rw [Option.map_eq_some_iff] at hr
  obtain ⟨b, hb, rfl⟩ := hr
  obtain ⟨e1, h1, h2⟩ := h env q a ha
  obtain ⟨e2, t1, t2⟩ := t a e1 h2 b hb
  exact ⟨e2, by simp [h1, t1], t2⟩
/-- expressions -/
theorem te_p {Γ Γ' : Ctx} {f : DE → Res D} {v : α} {e : α → D} (h : PE Γ f (e v) Γ') : TE Γ f (some v) e (fun _ => Γ') := fun env q r hr => by
  cases hr; exact h env q
theorem pe_c {Γ : Ctx} {d : D} : PE Γ (eC d) d Γ := fun env q => ⟨env, rfl, q⟩
theorem pe_use {Γ : Ctx} {i : Nat} {d : D} (hi : Γ[i]? = some (Sl (Eq1 d))) (hf : d.flag = false) : PE Γ (eUse i) d Γ := fun env q => by
  obtain ⟨d', h1, h2⟩ := q.sl hi
  cases h2
  exact ⟨env, by simp [h1, hf], q⟩
theorem pe_useO {Γ : Ctx} {i : Nat} {e : α → D} {l : List α} (hi : Γ[i]? = some (Sl (Eq1 (.lst true (l.map e))))) (he : Imm e) : PE Γ (eUse i) (.lst false (l.map e)) (Γ.set i (Sl (Eq1 (.lst false (l.map e))))) := fun env q => by
  obtain ⟨d', h1, h2⟩ := q.sl hi
  cases h2
  exact ⟨env.set i (some (.lst false (l.map e))), by simp [h1, frzL_map' he], q.set ⟨_, rfl, rfl⟩⟩
theorem pe_useU {Γ : Ctx} {i : Nat} {e : α → D} {l : List α} (hi : Γ[i]? = some (Sl (LiU e l))) (he : Imm e) : PE Γ (eUse i) (.lst false (l.map e)) (Γ.set i (Sl (Eq1 (.lst false (l.map e))))) := fun env q => by
  obtain ⟨d', h1, b, h2⟩ := q.sl hi
  cases h2
  cases b with
  | true => exact ⟨env.set i (some (.lst false (l.map e))), by simp [h1, frzL_map' he], q.set ⟨_, rfl, rfl⟩⟩
  | false =>
    refine ⟨env, by simp [h1], ?_⟩
    have h := q.set (i := i) (a := Sl (Eq1 (.lst false (l.map e)))) (o := some (.lst false (l.map e))) ⟨_, rfl, rfl⟩
    rw [set_gd (gd_lt h1) h1] at h
    exact h
theorem pe_move {Γ : Ctx} {i : Nat} {d : D} (hi : Γ[i]? = some (Sl (Eq1 d))) : PE Γ (eMove i) d (Γ.set i No) := fun env q => by
  obtain ⟨d', h1, h2⟩ := q.sl hi
  cases h2
  exact ⟨env.set i none, by simp [h1], q.set rfl⟩
/-! built-ins -/
section
variable {Γ Γ' : Ctx} {Γ1 : α → Ctx} {g : List D → Rs D} {fa : DE → Res (List L)} {ls : List L} {lr : α → List L} {Ps : List DP} {Pr : α → List DP} {d : D} {m : Option α} {e : β → D} {mo : α → Option β} {m1 : Option β}
theorem pe_blt (h : TAp Γ fa ls Γ') (r : Rds Γ' ls Ps) (o : OpT g Ps d) : PE Γ (eBlt g fa) d Γ' := fun env q => by
  obtain ⟨e1, h1, h2⟩ := h env q
  obtain ⟨ds, r1, r2⟩ := r e1 h2
  exact ⟨e1, by simp [h1, r1, o ds r2], h2⟩
theorem te_blt (h : TAp Γ fa ls Γ') (r : Rds Γ' ls Ps) (o : OpN g Ps m1 e) : TE Γ (eBlt g fa) m1 e (fun _ => Γ') := fun env q v hv => by
  obtain ⟨e1, h1, h2⟩ := h env q
  obtain ⟨ds, r1, r2⟩ := r e1 h2
  exact ⟨e1, by simp [h1, r1, o ds r2 v hv], h2⟩
theorem te_bltm (h : TA Γ fa m lr (fun _ => Γ')) (r : ∀ a, Rds Γ' (lr a) (Pr a)) (o : ∀ a, OpN g (Pr a) (mo a) e) : TE Γ (eBlt g fa) (m.bind mo) e (fun _ => Γ') := fun env q v hv => by
  rw [Option.bind_eq_some_iff] at hv
  obtain ⟨a, ha, hv⟩ := hv
  obtain ⟨e1, h1, h2⟩ := h env q a ha
  obtain ⟨ds, r1, r2⟩ := r a e1 h2
  exact ⟨e1, by simp [h1, r1, o a ds r2 v hv], h2⟩
theorem te_blte {e' : γ → D} {Γ2 : γ → Ctx} {φ : α → β → γ} (h : TA Γ fa m lr Γ1) (r : ∀ a, Rds (Γ1 a) (lr a) (Pr a)) (o : ∀ a, OpN g (Pr a) (mo a) e) (he : ∀ a b, e' (φ a b) = e b) (hg : ∀ a b, Γ2 (φ a b) = Γ1 a) : TE Γ (eBlt g fa) (m.bind fun a => (mo a).map (φ a)) e' Γ2 := fun env q v hv => by
  rw [Option.bind_eq_some_iff] at hv
  obtain ⟨a, ha, hv⟩ := hv
  rw [Option.map_eq_some_iff] at hv
  obtain ⟨b, hb, rfl⟩ := hv
  obtain ⟨e1, h1, h2⟩ := h env q a ha
  obtain ⟨ds, r1, r2⟩ := r a e1 h2
  exact ⟨e1, by simp [h1, r1, o a ds r2 b hb, he], by rw [hg]; exact h2⟩
end
theorem op2_blt {g : D → D → Rs D} {fa fb : DE → Res L} : eOp2 g fa fb = eBlt (d2 g) (aCons fa (aCons fb aNil)) := by
  funext e
  simp only [ap_op2, ap_blt, ap_cons, ap_nil]
  cases fa e with
  | ok la e1 =>
    simp only [Res.bind_ok]
    cases fb e1 with
    | ok lb e2 =>
      simp only [Res.bind_ok, lgets_c, lgets_n]
      cases lget la e2 <;> cases lget lb e2 <;> simp
    | exn x e2 => rfl
    | stuck => rfl
  | exn x e1 => rfl
  | stuck => rfl
theorem un_blt {g : D → Rs D} {fa : DE → Res L} : eUn g fa = eBlt (d1 g) (aCons fa aNil) := by
  funext e
  simp only [ap_un, ap_blt, ap_cons, ap_nil]
  cases fa e with
  | ok la e1 =>
    simp only [Res.bind_ok, lgets_c, lgets_n]
    cases lget la e1 <;> simp
  | exn x e1 => rfl
  | stuck => rfl
section
variable {Γ Γ' : Ctx} {Γ1 : α → Ctx} {g : D → D → Rs D} {fa fb : DE → Res L} {ls : List L} {lr : α → List L} {Ps : List DP} {Pr : α → List DP} {d : D} {m : Option α} {e : β → D} {mo : α → Option β} {m1 : Option β}
theorem pe_op2 (h : TAp Γ (aCons fa (aCons fb aNil)) ls Γ') (r : Rds Γ' ls Ps) (o : OpT (d2 g) Ps d) : PE Γ (eOp2 g fa fb) d Γ' := by rw [op2_blt]; exact pe_blt h r o
theorem te_op2 (h : TAp Γ (aCons fa (aCons fb aNil)) ls Γ') (r : Rds Γ' ls Ps) (o : OpN (d2 g) Ps m1 e) : TE Γ (eOp2 g fa fb) m1 e (fun _ => Γ') := by rw [op2_blt]; exact te_blt h r o
theorem te_op2m (h : TA Γ (aCons fa (aCons fb aNil)) m lr (fun _ => Γ')) (r : ∀ a, Rds Γ' (lr a) (Pr a)) (o : ∀ a, OpN (d2 g) (Pr a) (mo a) e) : TE Γ (eOp2 g fa fb) (m.bind mo) e (fun _ => Γ') := by rw [op2_blt]; exact te_bltm h r o
theorem te_op2e {e' : γ → D} {Γ2 : γ → Ctx} {φ : α → β → γ} (h : TA Γ (aCons fa (aCons fb aNil)) m lr Γ1) (r : ∀ a, Rds (Γ1 a) (lr a) (Pr a)) (o : ∀ a, OpN (d2 g) (Pr a) (mo a) e) (he : ∀ a b, e' (φ a b) = e b) (hg : ∀ a b, Γ2 (φ a b) = Γ1 a) : TE Γ (eOp2 g fa fb) (m.bind fun a => (mo a).map (φ a)) e' Γ2 := by rw [op2_blt]; exact te_blte h r o he hg
end
section
variable {Γ Γ' : Ctx} {Γ1 : α → Ctx} {g : D → Rs D} {fa : DE → Res L} {ls : List L} {lr : α → List L} {Ps : List DP} {Pr : α → List DP} {d : D} {m : Option α} {e : β → D} {mo : α → Option β} {m1 : Option β}
theorem pe_un (h : TAp Γ (aCons fa aNil) ls Γ') (r : Rds Γ' ls Ps) (o : OpT (d1 g) Ps d) : PE Γ (eUn g fa) d Γ' := by rw [un_blt]; exact pe_blt h r o
theorem te_un (h : TAp Γ (aCons fa aNil) ls Γ') (r : Rds Γ' ls Ps) (o : OpN (d1 g) Ps m1 e) : TE Γ (eUn g fa) m1 e (fun _ => Γ') := by rw [un_blt]; exact te_blt h r o
theorem te_unm (h : TA Γ (aCons fa aNil) m lr (fun _ => Γ')) (r : ∀ a, Rds Γ' (lr a) (Pr a)) (o : ∀ a, OpN (d1 g) (Pr a) (mo a) e) : TE Γ (eUn g fa) (m.bind mo) e (fun _ => Γ') := by rw [un_blt]; exact te_bltm h r o
theorem te_une {e' : γ → D} {Γ2 : γ → Ctx} {φ : α → β → γ} (h : TA Γ (aCons fa aNil) m lr Γ1) (r : ∀ a, Rds (Γ1 a) (lr a) (Pr a)) (o : ∀ a, OpN (d1 g) (Pr a) (mo a) e) (he : ∀ a b, e' (φ a b) = e b) (hg : ∀ a b, Γ2 (φ a b) = Γ1 a) : TE Γ (eUn g fa) (m.bind fun a => (mo a).map (φ a)) e' Γ2 := by rw [un_blt]; exact te_blte h r o he hg
end
/-! tuples and lists written out -/
section
variable {Γ Γ' : Ctx} {Γ1 : α → Ctx} {fa : DE → Res (List L)} {ls : List L} {lr : α → List L} {ds es : List D} {dr er : α → List D} {m : Option α}
theorem fz_n : frzL [] = [] := by simp [frzL]
theorem fz_i {d : D} {ds es : List D} (h : d.flag = false) (t : frzL ds = es) : frzL (d :: ds) = d :: es := by simp [frzL, frz_nf h, t]
theorem fz_l {e : α → D} {l : List α} {ds es : List D} (he : Imm e) (t : frzL ds = es) : frzL (.lst true (l.map e) :: ds) = .lst false (l.map e) :: es := by simp [frzL, frzL_map' he, t]
theorem pe_tup (h : TAp Γ fa ls Γ') (hv : vals ls = some ds) (hz : frzL ds = es) (hl : ds.length ≤ sizeLine) : PE Γ (eTup fa) (.tup es) Γ' := fun env q => by
  obtain ⟨e1, h1, h2⟩ := h env q
  exact ⟨e1, by simp [h1, hv, hl, hz], h2⟩
theorem te_tup {e : α → D} (h : TA Γ fa m lr Γ1) (hv : ∀ r, vals (lr r) = some (dr r)) (hz : ∀ r, frzL (dr r) = er r) (hl : ∀ r, (dr r).length ≤ sizeLine) (he : ∀ r, e r = .tup (er r)) : TE Γ (eTup fa) m e Γ1 := fun env q r hr => by
  obtain ⟨e1, h1, h2⟩ := h env q r hr
  exact ⟨e1, by simp [h1, hv, hl, hz, he], h2⟩
theorem pe_lst (h : TAp Γ fa ls Γ') (hv : vals ls = some ds) (hl : ds.length ≤ sizeLine) : PE Γ (eLst fa) (.lst true ds) Γ' := fun env q => by
  obtain ⟨e1, h1, h2⟩ := h env q
  exact ⟨e1, by simp [h1, hv, hl], h2⟩
theorem te_lst {e : α → D} (h : TA Γ fa m lr Γ1) (hv : ∀ r, vals (lr r) = some (dr r)) (hl : ∀ r, (dr r).length ≤ sizeLine) (he : ∀ r, e r = .lst true (dr r)) : TE Γ (eLst fa) m e Γ1 := fun env q r hr => by
  obtain ⟨e1, h1, h2⟩ := h env q r hr
  exact ⟨e1, by simp [h1, hv, hl, he], h2⟩
end
/-- another view of what is told -/
theorem te_map {Γ : Ctx} {f : DE → Res D} {m : Option α} {e : α → D} {Γ1 : α → Ctx} {φ : α → β} {e' : β → D} {Γ2 : β → Ctx} (h : TE Γ f m e Γ1) (he : ∀ a, e' (φ a) = e a) (hg : ∀ a, Γ2 (φ a) = Γ1 a) : TE Γ f (m.map φ) e' Γ2 := fun env q r hr => by
  rw [Option.map_eq_some_iff] at hr
  obtain ⟨a, ha, rfl⟩ := hr
  obtain ⟨e1, h1, h2⟩ := h env q a ha
  exact ⟨e1, by rw [he]; exact h1, by rw [hg]; exact h2⟩
theorem te_sub {Γ0 Γ : Ctx} {f : DE → Res D} {m : Option α} {e : α → D} {Γ1 Γ2 : α → Ctx} (s : Sub Γ0 Γ) (h : TE Γ f m e Γ1) (t : ∀ r, Sub (Γ1 r) (Γ2 r)) : TE Γ0 f m e Γ2 := fun env q r hr => by
  obtain ⟨e1, h1, h2⟩ := h env (s env q) r hr
  exact ⟨e1, h1, t r e1 h2⟩
theorem pe_sub {Γ0 Γ Γ1 Γ2 : Ctx} {f : DE → Res D} {d : D} (s : Sub Γ0 Γ) (h : PE Γ f d Γ1) (t : Sub Γ1 Γ2) : PE Γ0 f d Γ2 := fun env q => by
  obtain ⟨e1, h1, h2⟩ := h env (s env q)
  exact ⟨e1, h1, t e1 h2⟩
end
end Tr

set_option maxHeartbeats 2000000
/-! The typed layer 2: tests, calls, statements, loops, comprehensions. -/
namespace Tr
open PySem PySem.Spec PyProof.Rows L2
section
variable {α β γ σ ρ : Type}
/-! ### tests -/
theorem pt_e {Γ Γ' : Ctx} {f : DE → Res D} {b : Bool} (h : PE Γ f (.bl b) Γ') : PT Γ (tOfE f) b Γ' := fun env q => by
  obtain ⟨e1, h1, h2⟩ := h env q
  exact ⟨e1, by simp [h1], h2⟩
theorem tt_e {Γ : Ctx} {Γ1 : α → Ctx} {f : DE → Res D} {m : Option α} {b : α → Bool} {e : α → D} (h : TE Γ f m e Γ1) (he : ∀ r, e r = .bl (b r)) : TT Γ (tOfE f) m b Γ1 := fun env q r hr => by
  obtain ⟨e1, h1, h2⟩ := h env q r hr
  exact ⟨e1, by simp [h1, he], h2⟩
theorem pt_n {Γ Γ' : Ctx} {f : DE → Res Bool} {b : Bool} (h : PT Γ f b Γ') : PT Γ (tNotF f) (!b) Γ' := fun env q => by
  obtain ⟨e1, h1, h2⟩ := h env q
  exact ⟨e1, by simp [h1], h2⟩
theorem tt_n {Γ : Ctx} {Γ1 : α → Ctx} {f : DE → Res Bool} {m : Option α} {b : α → Bool} (h : TT Γ f m b Γ1) : TT Γ (tNotF f) m (fun r => !b r) Γ1 := fun env q r hr => by
  obtain ⟨e1, h1, h2⟩ := h env q r hr
  exact ⟨e1, by simp [h1], h2⟩
theorem pt_y {Γ : Ctx} : PT Γ tYesF true Γ := fun env q => ⟨env, rfl, q⟩
theorem tt_p {Γ Γ' : Ctx} {f : DE → Res Bool} {b : Bool} (h : PT Γ f b Γ') : TT Γ f (some b) id (fun _ => Γ') := fun env q r hr => by cases hr; exact h env q
theorem pt_and {Γ : Ctx} {f g : DE → Res Bool} {a b : Bool} (h : PT Γ f a Γ) (k : PT Γ g b Γ) : PT Γ (tAndF f g) (a && b) Γ := fun env q => by
  obtain ⟨e1, h1, h2⟩ := h env q
  obtain ⟨e2, k1, k2⟩ := k e1 h2
  cases a
  · exact ⟨e1, by simp [h1], h2⟩
  · exact ⟨e2, by simp [h1, k1], k2⟩
theorem pt_or {Γ : Ctx} {f g : DE → Res Bool} {a b : Bool} (h : PT Γ f a Γ) (k : PT Γ g b Γ) : PT Γ (tOrF f g) (a || b) Γ := fun env q => by
  obtain ⟨e1, h1, h2⟩ := h env q
  obtain ⟨e2, k1, k2⟩ := k e1 h2
  cases a
  · exact ⟨e2, by simp [h1, k1], k2⟩
  · exact ⟨e1, by simp [h1], h2⟩
theorem tt_and {Γ : Ctx} {f g : DE → Res Bool} {m n : Option Bool} (h : TT Γ f m id fun _ => Γ) (k : TT Γ g n id fun _ => Γ) : TT Γ (tAndF f g) (m.bind fun a => if a = true then n else some false) id (fun _ => Γ) := fun env q r hr => by
  rw [Option.bind_eq_some_iff] at hr
  obtain ⟨a, ha, hr⟩ := hr
  obtain ⟨e1, h1, h2⟩ := h env q a ha
  cases a
  · simp at hr; subst hr
    exact ⟨e1, by simp [h1], h2⟩
  · rw [if_pos rfl] at hr
    obtain ⟨e2, k1, k2⟩ := k e1 h2 r hr
    exact ⟨e2, by simp [h1, k1], k2⟩
theorem tt_or {Γ : Ctx} {f g : DE → Res Bool} {m n : Option Bool} (h : TT Γ f m id fun _ => Γ) (k : TT Γ g n id fun _ => Γ) : TT Γ (tOrF f g) (m.bind fun a => if a = true then some true else n) id (fun _ => Γ) := fun env q r hr => by
  rw [Option.bind_eq_some_iff] at hr
  obtain ⟨a, ha, hr⟩ := hr
  obtain ⟨e1, h1, h2⟩ := h env q a ha
  cases a
  · simp at hr
    obtain ⟨e2, k1, k2⟩ := k e1 h2 r hr
    exact ⟨e2, by simp [h1, k1], k2⟩
  · rw [if_pos rfl] at hr; cases hr
    exact ⟨e1, by simp [h1], h2⟩
/-- the first part told, the second one partial -/
theorem tt_andp {Γ : Ctx} {f g : DE → Res Bool} {a : Bool} {n : Option Bool} (h : PT Γ f a Γ) (k : TT Γ g n id fun _ => Γ) : TT Γ (tAndF f g) (if a = true then n else some false) id (fun _ => Γ) := tt_and (m := some a) (tt_p h) k
theorem tt_orp {Γ : Ctx} {f g : DE → Res Bool} {a : Bool} {n : Option Bool} (h : PT Γ f a Γ) (k : TT Γ g n id fun _ => Γ) : TT Γ (tOrF f g) (if a = true then some true else n) id (fun _ => Γ) := tt_or (m := some a) (tt_p h) k
/-! values by and, or, not -/
theorem pe_and {Γ : Ctx} {f g : DE → Res D} {a b : Bool} (h : PE Γ f (.bl a) Γ) (k : PE Γ g (.bl b) Γ) : PE Γ (eAnd f g) (.bl (a && b)) Γ := fun env q => by
  obtain ⟨e1, h1, h2⟩ := h env q
  obtain ⟨e2, k1, k2⟩ := k e1 h2
  cases a
  · exact ⟨e1, by simp [h1], h2⟩
  · exact ⟨e2, by simp [h1, k1], k2⟩
theorem pe_or {Γ : Ctx} {f g : DE → Res D} {a b : Bool} (h : PE Γ f (.bl a) Γ) (k : PE Γ g (.bl b) Γ) : PE Γ (eOr f g) (.bl (a || b)) Γ := fun env q => by
  obtain ⟨e1, h1, h2⟩ := h env q
  obtain ⟨e2, k1, k2⟩ := k e1 h2
  cases a
  · exact ⟨e2, by simp [h1, k1], k2⟩
  · exact ⟨e1, by simp [h1], h2⟩
theorem te_and {Γ : Ctx} {f g : DE → Res D} {m n : Option Bool} (h : TE Γ f m D.bl fun _ => Γ) (k : TE Γ g n D.bl fun _ => Γ) : TE Γ (eAnd f g) (m.bind fun a => if a = true then n else some false) D.bl (fun _ => Γ) := fun env q r hr => by
  rw [Option.bind_eq_some_iff] at hr
  obtain ⟨a, ha, hr⟩ := hr
  obtain ⟨e1, h1, h2⟩ := h env q a ha
  cases a
  · simp at hr; subst hr
    exact ⟨e1, by simp [h1], h2⟩
  · rw [if_pos rfl] at hr
    obtain ⟨e2, k1, k2⟩ := k e1 h2 r hr
    exact ⟨e2, by simp [h1, k1], k2⟩
theorem te_or {Γ : Ctx} {f g : DE → Res D} {m n : Option Bool} (h : TE Γ f m D.bl fun _ => Γ) (k : TE Γ g n D.bl fun _ => Γ) : TE Γ (eOr f g) (m.bind fun a => if a = true then some true else n) D.bl (fun _ => Γ) := fun env q r hr => by
  rw [Option.bind_eq_some_iff] at hr
  obtain ⟨a, ha, hr⟩ := hr
  obtain ⟨e1, h1, h2⟩ := h env q a ha
  cases a
  · simp at hr
    obtain ⟨e2, k1, k2⟩ := k e1 h2 r hr
    exact ⟨e2, by simp [h1, k1], k2⟩
  · rw [if_pos rfl] at hr; cases hr
    exact ⟨e1, by simp [h1], h2⟩
theorem te_andp {Γ : Ctx} {f g : DE → Res D} {a : Bool} {n : Option Bool} (h : PE Γ f (.bl a) Γ) (k : TE Γ g n D.bl fun _ => Γ) : TE Γ (eAnd f g) (if a = true then n else some false) D.bl (fun _ => Γ) := te_and (m := some a) (te_p h) k
theorem te_orp {Γ : Ctx} {f g : DE → Res D} {a : Bool} {n : Option Bool} (h : PE Γ f (.bl a) Γ) (k : TE Γ g n D.bl fun _ => Γ) : TE Γ (eOr f g) (if a = true then some true else n) D.bl (fun _ => Γ) := te_or (m := some a) (te_p h) k
theorem not_eq {f : DE → Res D} : eNot f = fun e => (f e).bind fun d e1 => match d with
  | .bl b => .ok (.bl (!b)) e1
  | _ => .stuck := by
  funext e
  unfold eNot
  cases f e with
  | ok d e1 => cases d <;> first | rfl | (rename_i b; cases b <;> rfl)
  | exn x e1 => rfl
  | stuck => rfl
theorem pe_not {Γ Γ' : Ctx} {f : DE → Res D} {b : Bool} (h : PE Γ f (.bl b) Γ') : PE Γ (eNot f) (.bl (!b)) Γ' := fun env q => by
  obtain ⟨e1, h1, h2⟩ := h env q
  exact ⟨e1, by simp [not_eq, h1], h2⟩
theorem te_not {Γ : Ctx} {Γ1 : α → Ctx} {f : DE → Res D} {m : Option α} {b : α → Bool} {e e' : α → D} (h : TE Γ f m e Γ1) (he : ∀ r, e r = .bl (b r)) (he' : ∀ r, e' r = .bl (!b r)) : TE Γ (eNot f) m e' Γ1 := fun env q r hr => by
  obtain ⟨e1, h1, h2⟩ := h env q r hr
  exact ⟨e1, by simp [not_eq, h1, he, he'], h2⟩
theorem pe_if {Γ Γ1 Γ' : Ctx} {t : DE → Res Bool} {f g : DE → Res D} {b : Bool} {x y : α} {e : α → D} (h : PT Γ t b Γ1) (k1 : PE Γ1 f (e x) Γ') (k2 : PE Γ1 g (e y) Γ') : PE Γ (eIf t f g) (e (if b = true then x else y)) Γ' := fun env q => by
  obtain ⟨e1, h1, h2⟩ := h env q
  cases b
  · obtain ⟨e2, q1, q2⟩ := k2 e1 h2
    exact ⟨e2, by simp [h1, q1], q2⟩
  · obtain ⟨e2, q1, q2⟩ := k1 e1 h2
    exact ⟨e2, by simp [h1, q1], q2⟩
theorem te_if {Γ : Ctx} {Γ1 : α → Ctx} {t : DE → Res Bool} {f g : DE → Res D} {m : Option α} {b : α → Bool} {e : β → D} {m1 m2 : α → Option β} {Γ2 : β → Ctx} (h : TT Γ t m b Γ1) (k1 : ∀ a, TE (Γ1 a) f (m1 a) e Γ2) (k2 : ∀ a, TE (Γ1 a) g (m2 a) e Γ2) : TE Γ (eIf t f g) (m.bind fun a => if b a = true then m1 a else m2 a) e Γ2 := fun env q r hr => by
  rw [Option.bind_eq_some_iff] at hr
  obtain ⟨a, ha, hr⟩ := hr
  obtain ⟨e1, h1, h2⟩ := h env q a ha
  by_cases hb : b a = true
  · rw [if_pos hb] at hr
    obtain ⟨e2, q1, q2⟩ := k1 a e1 h2 r hr
    exact ⟨e2, by simp [h1, q1, hb], q2⟩
  · rw [if_neg hb] at hr
    obtain ⟨e2, q1, q2⟩ := k2 a e1 h2 r hr
    exact ⟨e2, by simp [h1, q1, hb], q2⟩
theorem te_ifp {Γ Γ1 : Ctx} {t : DE → Res Bool} {f g : DE → Res D} {b : Bool} {e : β → D} {m1 m2 : Option β} {Γ2 : β → Ctx} (h : PT Γ t b Γ1) (k1 : TE Γ1 f m1 e Γ2) (k2 : TE Γ1 g m2 e Γ2) : TE Γ (eIf t f g) (if b = true then m1 else m2) e Γ2 := te_if (m := some b) (tt_p h) (fun _ => k1) (fun _ => k2)
/-! ### chains a < b < c -/
theorem pe_chain {Γ : Ctx} {g g' : D → D → Rs D} {fa fb fc : DE → Res L} {la lb lc : L} {Pa Pb Pc : DP} {x y : Bool} (ha : PX Γ fa la Γ) (hb : PX Γ fb lb Γ) (hc : PX Γ fc lc Γ) (ra : Rd Γ la Pa) (rb : Rd Γ lb Pb) (rc : Rd Γ lc Pc)
    (o1 : OpT (d2 g) [Pa, Pb] (.bl x)) (o2 : OpT (d2 g') [Pb, Pc] (.bl y)) : PE Γ (eChain g g' fa fb fc) (.bl (x && y)) Γ := fun env q => by
  obtain ⟨e1, a1, a2⟩ := ha env q
  obtain ⟨e2, b1, b2⟩ := hb e1 a2
  obtain ⟨d1, ra1, ra2⟩ := ra e2 b2
  obtain ⟨dd, rb1, rb2⟩ := rb e2 b2
  have q1 : g d1 dd = .ok (.bl x) := o1 [d1, dd] ⟨ra2, rb2, trivial⟩
  cases x
  · exact ⟨e2, by simp [a1, b1, ra1, rb1, q1], b2⟩
  · obtain ⟨e3, c1, c2⟩ := hc e2 b2
    obtain ⟨db, rb3, rb4⟩ := rb e3 c2
    obtain ⟨dc, rc3, rc4⟩ := rc e3 c2
    have q2 : g' db dc = .ok (.bl y) := o2 [db, dc] ⟨rb4, rc4, trivial⟩
    exact ⟨e3, by simp [a1, b1, ra1, rb1, q1, c1, rb3, rc3, q2], c2⟩
theorem te_chain {Γ : Ctx} {g g' : D → D → Rs D} {fa fb fc : DE → Res L} {la lb lc : L} {Pa Pb Pc : DP} {x y : Option Bool} (ha : PX Γ fa la Γ) (hb : PX Γ fb lb Γ) (hc : PX Γ fc lc Γ) (ra : Rd Γ la Pa) (rb : Rd Γ lb Pb) (rc : Rd Γ lc Pc)
    (o1 : OpN (d2 g) [Pa, Pb] x D.bl) (o2 : OpN (d2 g') [Pb, Pc] y D.bl) : TE Γ (eChain g g' fa fb fc) (x.bind fun b => if b = true then y else some false) D.bl fun _ => Γ := fun env q r hr => by
  rw [Option.bind_eq_some_iff] at hr
  obtain ⟨v, hv, hr⟩ := hr
  obtain ⟨e1, a1, a2⟩ := ha env q
  obtain ⟨e2, b1, b2⟩ := hb e1 a2
  obtain ⟨d1, ra1, ra2⟩ := ra e2 b2
  obtain ⟨dd, rb1, rb2⟩ := rb e2 b2
  have q1 : g d1 dd = .ok (.bl v) := o1 [d1, dd] ⟨ra2, rb2, trivial⟩ v hv
  cases v
  · simp at hr; subst hr
    exact ⟨e2, by simp [a1, b1, ra1, rb1, q1], b2⟩
  · rw [if_pos rfl] at hr
    obtain ⟨e3, c1, c2⟩ := hc e2 b2
    obtain ⟨db, rb3, rb4⟩ := rb e3 c2
    obtain ⟨dc, rc3, rc4⟩ := rc e3 c2
    have q2 : g' db dc = .ok (.bl r) := o2 [db, dc] ⟨rb4, rc4, trivial⟩ r hr
    exact ⟨e3, by simp [a1, b1, ra1, rb1, q1, c1, rb3, rc3, q2], c2⟩
/-- a chain whose parts are partial: the middle one is a value -/
theorem te_chainm {Γ : Ctx} {g g' : D → D → Rs D} {fa fc : DE → Res L} {fb : DE → Res D} {la lc : L} {Pa Pc : DP} {m : Option α} {eb : α → D} {x y : α → Option Bool} (ha : PX Γ fa la Γ) (hb : TE Γ fb m eb fun _ => Γ) (hc : PX Γ fc lc Γ) (ra : Rd Γ la Pa) (rc : Rd Γ lc Pc)
    (o1 : ∀ v, OpN (d2 g) [Pa, Eq1 (eb v)] (x v) D.bl) (o2 : ∀ v, OpN (d2 g') [Eq1 (eb v), Pc] (y v) D.bl) : TE Γ (eChain g g' fa (xOf fb) fc) (m.bind fun v => (x v).bind fun b => if b = true then y v else some false) D.bl fun _ => Γ := fun env q r hr => by
  rw [Option.bind_eq_some_iff] at hr
  obtain ⟨v, hv, hr⟩ := hr
  rw [Option.bind_eq_some_iff] at hr
  obtain ⟨w, hw, hr⟩ := hr
  obtain ⟨e1, a1, a2⟩ := ha env q
  obtain ⟨e2, b1, b2⟩ := hb e1 a2 v hv
  obtain ⟨d1, ra1, ra2⟩ := ra e2 b2
  have q1 : g d1 (eb v) = .ok (.bl w) := o1 v [d1, eb v] ⟨ra2, rfl, trivial⟩ w hw
  cases w
  · simp at hr; subst hr
    exact ⟨e2, by simp [a1, b1, ra1, q1], b2⟩
  · rw [if_pos rfl] at hr
    obtain ⟨e3, c1, c2⟩ := hc e2 b2
    obtain ⟨dc, rc3, rc4⟩ := rc e3 c2
    have q2 : g' (eb v) dc = .ok (.bl r) := o2 v [eb v, dc] ⟨rfl, rc4, trivial⟩ r hr
    exact ⟨e3, by simp [a1, b1, ra1, q1, c1, rc3, q2], c2⟩
/-! ### own defs -/
def Spec (G : List D → FR) (Ps : List DP) (m : Option α) (e : α → D) (Qs : α → List DP) : Prop := ∀ ds, All2 Ps ds → ∀ r, m = some r → ∃ ds', G ds = .ok (e r) ds' ∧ All2 (Qs r) ds'
def CG (Γ : Ctx) (ls : List L) (Ps Qs : List DP) (Γ' : Ctx) : Prop := ∀ env, Fits Γ env → ∃ ds env2, take ls env = some (ds, env2) ∧ All2 Ps ds ∧ ∀ ds', All2 Qs ds' → Fits Γ' (give ls ds ds' env2)
theorem cg_n {Γ : Ctx} {Qs : List DP} : CG Γ [] [] Qs Γ := fun env q => ⟨[], env, rfl, trivial, fun ds' _ => by simpa using q⟩
theorem cg_v {Γ Γ' : Ctx} {d : D} {ls : List L} {P Q : DP} {Ps Qs : List DP} (h : P d) (t : CG Γ ls Ps Qs Γ') : CG Γ (.v d :: ls) (P :: Ps) (Q :: Qs) Γ' := fun env q => by
  obtain ⟨ds, e2, h1, h2, h3⟩ := t env q
  refine ⟨d :: ds, e2, by simp [h1], ⟨h, h2⟩, fun ds' a => ?_⟩
  cases ds' with
  | nil => exact a.elim
  | cons d' ds' => simpa using h3 ds' a.2
theorem cg_i {Γ Γ' : Ctx} {i : Nat} {ls : List L} {P0 P Q : DP} {Ps Qs : List DP} (hi : Γ[i]? = some (Sl P0)) (hf : ∀ d, P0 d → d.flag = false) (hp : ∀ d, P0 d → P d) (t : CG Γ ls Ps Qs Γ') : CG Γ (.s i :: ls) (P :: Ps) (Q :: Qs) Γ' := fun env q => by
  obtain ⟨d, g1, g2⟩ := q.sl hi
  obtain ⟨ds, e2, h1, h2, h3⟩ := t env q
  have f := hf d g2
  refine ⟨d :: ds, e2, by simp [g1, f, h1], ⟨hp d g2, h2⟩, fun ds' a => ?_⟩
  cases ds' with
  | nil => exact a.elim
  | cons d' ds' => simpa [f] using h3 ds' a.2
theorem cg_o {Γ Γ1 : Ctx} {i : Nat} {ls : List L} {P0 P Q : DP} {Ps Qs : List DP} (hi : Γ[i]? = some (Sl P0)) (hf : ∀ d, P0 d → d.flag = true) (hp : ∀ d, P0 d → P d) (t : CG (Γ.set i No) ls Ps Qs Γ1) : CG Γ (.s i :: ls) (P :: Ps) (Q :: Qs) (Γ1.set i (Sl Q)) := fun env q => by
  obtain ⟨d, g1, g2⟩ := q.sl hi
  obtain ⟨ds, e2, h1, h2, h3⟩ := t (env.set i none) (q.set rfl)
  have f := hf d g2
  refine ⟨d :: ds, e2, by simp [g1, f, h1], ⟨hp d g2, h2⟩, fun ds' a => ?_⟩
  cases ds' with
  | nil => exact a.elim
  | cons d' ds' => simpa [f] using (h3 ds' a.2).set (i := i) (a := Sl Q) (o := some d') ⟨d', rfl, a.1⟩
/-- a list of which it is not told whether it is owned; it comes back so -/
theorem cg_u {Γ Γ1 Γ2 : Ctx} {i : Nat} {ls : List L} {e : α → D} {l : List α} {P Q : DP} {Ps Qs : List DP} (hi : Γ[i]? = some (Sl (LiU e l))) (hp : ∀ d, LiU e l d → P d) (t : CG (Γ.set i No) ls Ps Qs Γ1) (u : CG Γ ls Ps Qs Γ2) (s : Sub Γ2 (Γ1.set i (Sl Q))) : CG Γ (.s i :: ls) (P :: Ps) (Q :: Qs) (Γ1.set i (Sl Q)) := fun env q => by
  obtain ⟨d, g1, b, g2⟩ := q.sl hi
  have pd := hp d ⟨b, g2⟩
  subst g2
  cases b with
  | true =>
    obtain ⟨ds, e2, h1, h2, h3⟩ := t (env.set i none) (q.set rfl)
    refine ⟨_ :: ds, e2, by simp [g1, h1], ⟨pd, h2⟩, fun ds' a => ?_⟩
    cases ds' with
    | nil => exact a.elim
    | cons d' ds' => simpa using (h3 ds' a.2).set (i := i) (a := Sl Q) (o := some d') ⟨d', rfl, a.1⟩
  | false =>
    obtain ⟨ds, e2, h1, h2, h3⟩ := u env q
    refine ⟨_ :: ds, e2, by simp [g1, h1], ⟨pd, h2⟩, fun ds' a => ?_⟩
    cases ds' with
    | nil => exact a.elim
    | cons d' ds' => simpa using s _ (h3 ds' a.2)
theorem All2.app : ∀ {Ps Qs : List DP} {ds es : List D}, All2 Ps ds → All2 Qs es → All2 (Ps ++ Qs) (ds ++ es)
  | [], Qs, [], es, _, h => h
  | [], _, _ :: _, _, h, _ => h.elim
  | _ :: _, _, [], _, h, _ => h.elim
  | P :: Ps, Qs, d :: ds, es, h, k => ⟨h.1, All2.app h.2 k⟩
theorem te_call {Γ Γ1 : Ctx} {Γ' : α → Ctx} {G : List D → FR} {dds : List D} {fa : DE → Res (List L)} {ls : List L} {Ps Pd : List DP} {Qs : α → List DP} {m : Option α} {e : α → D} (h : TAp Γ fa ls Γ1) (sp : Spec G (Ps ++ Pd) m e Qs) (hd : All2 Pd dds) (c : ∀ r, CG Γ1 ls Ps (Qs r) (Γ' r)) : TE Γ (eCall G dds fa) m e Γ' := fun env q r hr => by
  obtain ⟨e1, h1, h2⟩ := h env q
  obtain ⟨ds, e2, c1, c2, c3⟩ := c r e1 h2
  obtain ⟨ds', s1, s2⟩ := sp (ds ++ dds) (c2.app hd) r hr
  exact ⟨_, by simp [h1, c1, s1], c3 ds' s2⟩
theorem te_callm {Γ : Ctx} {Γ1 : α → Ctx} {Γ' : γ → Ctx} {G : List D → FR} {dds : List D} {fa : DE → Res (List L)} {ls : α → List L} {Ps : α → List DP} {Pd : List DP} {Qs : α → β → List DP} {m : Option α} {mo : α → Option β} {e : β → D} {e' : γ → D} {φ : α → β → γ} (h : TA Γ fa m ls Γ1) (sp : ∀ a, Spec G (Ps a ++ Pd) (mo a) e (Qs a)) (hd : All2 Pd dds) (c : ∀ a r, CG (Γ1 a) (ls a) (Ps a) (Qs a r) (Γ' (φ a r))) (he : ∀ a r, e' (φ a r) = e r) :
    TE Γ (eCall G dds fa) (m.bind fun a => (mo a).map (φ a)) e' Γ' := fun env q r hr => by
  rw [Option.bind_eq_some_iff] at hr
  obtain ⟨a, ha, hr⟩ := hr
  rw [Option.map_eq_some_iff] at hr
  obtain ⟨b, hb, rfl⟩ := hr
  obtain ⟨e1, h1, h2⟩ := h env q a ha
  obtain ⟨ds, e2, c1, c2, c3⟩ := c a b e1 h2
  obtain ⟨ds', s1, s2⟩ := sp a (ds ++ dds) (c2.app hd) b hb
  exact ⟨_, by simp [h1, c1, s1, he], c3 ds' s2⟩
theorem te_callb {Γ : Ctx} {Γ1 : α → Ctx} {Γ' : β → Ctx} {G : List D → FR} {dds : List D} {fa : DE → Res (List L)} {ls : α → List L} {Ps : α → List DP} {Pd : List DP} {Qs : α → β → List DP} {m : Option α} {mo : α → Option β} {e : β → D} (h : TA Γ fa m ls Γ1) (sp : ∀ a, Spec G (Ps a ++ Pd) (mo a) e (Qs a)) (hd : All2 Pd dds) (c : ∀ a r, CG (Γ1 a) (ls a) (Ps a) (Qs a r) (Γ' r)) :
    TE Γ (eCall G dds fa) (m.bind mo) e Γ' := fun env q r hr => by
  rw [Option.bind_eq_some_iff] at hr
  obtain ⟨a, ha, hb⟩ := hr
  obtain ⟨e1, h1, h2⟩ := h env q a ha
  obtain ⟨ds, e2, c1, c2, c3⟩ := c a r e1 h2
  obtain ⟨ds', s1, s2⟩ := sp a (ds ++ dds) (c2.app hd) r hb
  exact ⟨_, by simp [h1, c1, s1], c3 ds' s2⟩
/-- with keywords: their values are told -/
theorem te_callK {Γ Γ1 : Ctx} {Γ' : α → Ctx} {G : List D → FR} {sp : List (Option Nat)} {dds zs ws : List D} {fa fk : DE → Res (List L)} {ls lk : List L} {Ps Pd : List DP} {Qs : α → List DP} {m : Option α} {e : α → D} (h : TAp Γ fa ls Γ) (k : TAp Γ fk lk Γ1) (hz : vals lk = some zs) (hn : zs.all (fun d => !d.flag) = true) (hw : arr .non dds sp zs = ws) (s : Spec G (Ps ++ Pd) m e Qs) (hd : All2 Pd ws) (c : ∀ r, CG Γ1 ls Ps (Qs r) (Γ' r)) : TE Γ (eCallK G sp dds fa fk) m e Γ' := fun env q r hr => by
  obtain ⟨e1, h1, h2⟩ := h env q
  obtain ⟨e2, k1, k2⟩ := k e1 h2
  obtain ⟨ds, e3, c1, c2, c3⟩ := c r e2 k2
  obtain ⟨ds', s1, s2⟩ := s (ds ++ ws) (c2.app hd) r hr
  subst hw
  refine ⟨give ls ds ds' e3, ?_, c3 ds' s2⟩
  simp only [ap_callK, h1, Res.bind_ok, k1, hz, hn, if_true, c1, s1]
theorem te_callKm {Γ : Ctx} {Γ1 : α → Ctx} {Γ' : β → Ctx} {G : List D → FR} {sp : List (Option Nat)} {dds : List D} {zs ws : α → List D} {fa fk : DE → Res (List L)} {ls : List L} {lk : α → List L} {Ps : List DP} {Pd : α → List DP} {Qs : α → β → List DP} {m : Option α} {mo : α → Option β} {e : β → D} (h : TAp Γ fa ls Γ) (k : TA Γ fk m lk Γ1) (hz : ∀ a, vals (lk a) = some (zs a)) (hn : ∀ a, (zs a).all (fun d => !d.flag) = true) (hw : ∀ a, arr .non dds sp (zs a) = ws a) (s : ∀ a, Spec G (Ps ++ Pd a) (mo a) e (Qs a)) (hd : ∀ a, All2 (Pd a) (ws a)) (c : ∀ a r, CG (Γ1 a) ls Ps (Qs a r) (Γ' r)) : TE Γ (eCallK G sp dds fa fk) (m.bind mo) e Γ' := fun env q r hr => by
  rw [Option.bind_eq_some_iff] at hr
  obtain ⟨a, ha, hr⟩ := hr
  obtain ⟨e1, h1, h2⟩ := h env q
  obtain ⟨e2, k1, k2⟩ := k e1 h2 a ha
  obtain ⟨ds, e3, c1, c2, c3⟩ := c a r e2 k2
  obtain ⟨ds', s1, s2⟩ := s a (ds ++ ws a) (c2.app (hd a)) r hr
  have w := hw a
  refine ⟨give ls ds ds' e3, ?_, c3 ds' s2⟩
  simp only [ap_callK, h1, Res.bind_ok, k1, hz a, hn a, if_true, c1, w, s1]
/-- the keyword call's positional part is partial, its keywords are told -/
theorem te_callKp {Γ : Ctx} {Γ1 : α → Ctx} {Γ' : β → Ctx} {G : List D → FR} {sp : List (Option Nat)} {dds : List D} {zs ws : List D} {fa fk : DE → Res (List L)} {ls : α → List L} {lk : List L} {Ps : α → List DP} {Pd : List DP} {Qs : α → β → List DP} {m : Option α} {mo : α → Option β} {e : β → D} (h : TA Γ fa m ls Γ1) (k : ∀ a, TAp (Γ1 a) fk lk (Γ1 a)) (hz : vals lk = some zs) (hn : zs.all (fun d => !d.flag) = true) (hw : arr .non dds sp zs = ws) (s : ∀ a, Spec G (Ps a ++ Pd) (mo a) e (Qs a)) (hd : All2 Pd ws) (c : ∀ a r, CG (Γ1 a) (ls a) (Ps a) (Qs a r) (Γ' r)) : TE Γ (eCallK G sp dds fa fk) (m.bind mo) e Γ' := fun env q r hr => by
  rw [Option.bind_eq_some_iff] at hr
  obtain ⟨a, ha, hr⟩ := hr
  obtain ⟨e1, h1, h2⟩ := h env q a ha
  obtain ⟨e2, k1, k2⟩ := k a e1 h2
  obtain ⟨ds, e3, c1, c2, c3⟩ := c a r e2 k2
  obtain ⟨ds', s1, s2⟩ := s a (ds ++ ws) (c2.app hd) r hr
  refine ⟨give (ls a) ds ds' e3, ?_, c3 ds' s2⟩
  simp only [ap_callK, h1, Res.bind_ok, k1, hz, hn, if_true, c1, hw, s1]
/-! ### statements -/
variable {I : α → SRes → Prop}
theorem tb_p {Γ Γ' : Ctx} {f : DE → SRes} (h : TBp Γ f Γ') : TB Γ f (some ()) (fun _ => Γ') := fun env q r hr => h env q
theorem tb_0 {Γ : Ctx} {s : α} {Γ' : α → Ctx} (h : Sub Γ (Γ' s)) : TB Γ sNil (some s) Γ' := fun env q r hr => by cases hr; exact ⟨env, rfl, h env q⟩
theorem tb_sub {Γ : Ctx} {f : DE → SRes} {m : Option α} {Γ1 Γ2 : α → Ctx} (h : TB Γ f m Γ1) (t : ∀ r, Sub (Γ1 r) (Γ2 r)) : TB Γ f m Γ2 := fun env q r hr => by
  obtain ⟨e1, h1, h2⟩ := h env q r hr
  exact ⟨e1, h1, t r e1 h2⟩
theorem tb_map {Γ : Ctx} {f : DE → SRes} {m : Option α} {Γ1 : α → Ctx} {Γ2 : β → Ctx} {φ : α → β} (h : TB Γ f m Γ1) (t : ∀ r, Sub (Γ1 r) (Γ2 (φ r))) : TB Γ f (m.map φ) Γ2 := fun env q r hr => by
  rw [Option.map_eq_some_iff] at hr
  obtain ⟨a, ha, rfl⟩ := hr
  obtain ⟨e1, h1, h2⟩ := h env q a ha
  exact ⟨e1, h1, t a e1 h2⟩
theorem tb_set {Γ : Ctx} {i : Nat} {f : DE → Res D} {m : Option α} {e : α → D} {Γ1 : α → Ctx} (h : TE Γ f m e Γ1) (hi : ∀ r, i < (Γ1 r).length) : TB Γ (sSet i f) m (fun r => (Γ1 r).set i (Sl (Eq1 (e r)))) := fun env q r hr => by
  obtain ⟨e1, h1, h2⟩ := h env q r hr
  have hl : i < e1.length := by rw [← h2.len]; exact hi r
  exact ⟨_, by simp [h1, hl], h2.set ⟨_, rfl, rfl⟩⟩
theorem tb_expr {Γ : Ctx} {f : DE → Res D} {m : Option α} {e : α → D} {Γ1 : α → Ctx} (h : TE Γ f m e Γ1) : TB Γ (sExpr f) m Γ1 := fun env q r hr => by
  obtain ⟨e1, h1, h2⟩ := h env q r hr
  exact ⟨e1, by simp [h1], h2⟩
theorem tbp_nil {Γ : Ctx} : TBp Γ sNil Γ := fun env q => ⟨env, rfl, q⟩
/-- in order -/
theorem ts_c {Γ : Ctx} {a b : DE → SRes} {m : Option β} {Γ1 : β → Ctx} {k : β → Option α} (h : TB Γ a m Γ1) (t : ∀ r, TS (Γ1 r) b (k r) I) : TS Γ (sCons a b) (m.bind k) I := fun env q r hr => by
  rw [Option.bind_eq_some_iff] at hr
  obtain ⟨x, hx, hr⟩ := hr
  obtain ⟨e1, h1, h2⟩ := h env q x hx
  have := t x e1 h2 r hr
  simpa [h1] using this
theorem ts_cp {Γ Γ1 : Ctx} {a b : DE → SRes} {k : Option α} (h : TBp Γ a Γ1) (t : TS Γ1 b k I) : TS Γ (sCons a b) k I := fun env q r hr => by
  obtain ⟨e1, h1, h2⟩ := h env q
  have := t e1 h2 r hr
  simpa [h1] using this
theorem tb_c {Γ : Ctx} {a b : DE → SRes} {m : Option β} {Γ1 : β → Ctx} {k : β → Option α} {Γ' : α → Ctx} (h : TB Γ a m Γ1) (t : ∀ r, TB (Γ1 r) b (k r) Γ') : TB Γ (sCons a b) (m.bind k) Γ' := fun env q r hr => by
  rw [Option.bind_eq_some_iff] at hr
  obtain ⟨x, hx, hr⟩ := hr
  obtain ⟨e1, h1, h2⟩ := h env q x hx
  obtain ⟨e2, t1, t2⟩ := t x e1 h2 r hr
  exact ⟨e2, by simp [h1, t1], t2⟩
theorem tb_cp {Γ Γ1 : Ctx} {a b : DE → SRes} {k : Option α} {Γ' : α → Ctx} (h : TBp Γ a Γ1) (t : TB Γ1 b k Γ') : TB Γ (sCons a b) k Γ' := fun env q r hr => by
  obtain ⟨e1, h1, h2⟩ := h env q
  obtain ⟨e2, t1, t2⟩ := t e1 h2 r hr
  exact ⟨e2, by simp [h1, t1], t2⟩
/-- forks -/
theorem tb_if {Γ : Ctx} {t : DE → Res Bool} {a b : DE → SRes} {m : Option β} {c : β → Bool} {Γ1 : β → Ctx} {m1 m2 : β → Option α} {Γ' : α → Ctx} (h : TT Γ t m c Γ1) (k1 : ∀ x, TB (Γ1 x) a (m1 x) Γ') (k2 : ∀ x, TB (Γ1 x) b (m2 x) Γ') : TB Γ (sIf t a b) (m.bind fun x => if c x = true then m1 x else m2 x) Γ' := fun env q r hr => by
  rw [Option.bind_eq_some_iff] at hr
  obtain ⟨x, hx, hr⟩ := hr
  obtain ⟨e1, h1, h2⟩ := h env q x hx
  by_cases hc : c x = true
  · rw [if_pos hc] at hr
    obtain ⟨e2, q1, q2⟩ := k1 x e1 h2 r hr
    exact ⟨e2, by simp [h1, hc, q1], q2⟩
  · rw [if_neg hc] at hr
    obtain ⟨e2, q1, q2⟩ := k2 x e1 h2 r hr
    exact ⟨e2, by simp [h1, hc, q1], q2⟩
theorem tb_ifp {Γ Γ1 : Ctx} {t : DE → Res Bool} {a b : DE → SRes} {c : Bool} {m1 m2 : Option α} {Γ' : α → Ctx} (h : PT Γ t c Γ1) (k1 : TB Γ1 a m1 Γ') (k2 : TB Γ1 b m2 Γ') : TB Γ (sIf t a b) (if c = true then m1 else m2) Γ' := tb_if (m := some c) (tt_p h) (fun _ => k1) (fun _ => k2)
theorem ts_if {Γ : Ctx} {t : DE → Res Bool} {a b : DE → SRes} {m : Option β} {c : β → Bool} {Γ1 : β → Ctx} {m1 m2 : β → Option α} (h : TT Γ t m c Γ1) (k1 : ∀ x, TS (Γ1 x) a (m1 x) I) (k2 : ∀ x, TS (Γ1 x) b (m2 x) I) : TS Γ (sIf t a b) (m.bind fun x => if c x = true then m1 x else m2 x) I := fun env q r hr => by
  rw [Option.bind_eq_some_iff] at hr
  obtain ⟨x, hx, hr⟩ := hr
  obtain ⟨e1, h1, h2⟩ := h env q x hx
  by_cases hc : c x = true
  · rw [if_pos hc] at hr
    have := k1 x e1 h2 r hr
    simpa [h1, hc] using this
  · rw [if_neg hc] at hr
    have := k2 x e1 h2 r hr
    simpa [h1, hc] using this
theorem ts_ifp {Γ Γ1 : Ctx} {t : DE → Res Bool} {a b : DE → SRes} {c : Bool} {m1 m2 : Option α} (h : PT Γ t c Γ1) (k1 : TS Γ1 a m1 I) (k2 : TS Γ1 b m2 I) : TS Γ (sIf t a b) (if c = true then m1 else m2) I := ts_if (m := some c) (tt_p h) (fun _ => k1) (fun _ => k2)
/-- what ends nowhere else than by an end that I knows stands ahead of the rest -/
def Ends0 (I : α → SRes → Prop) : Prop := ∀ r o (k : DE → SRes), I r o → I r (o.seq k)
theorem ts_ifr {Γ : Ctx} {t : DE → Res Bool} {a b c : DE → SRes} {m : Option β} {cc : β → Bool} {Γ1 : β → Ctx} {m1 m2 : β → Option α} (hI : ∀ r o, I r o → (∃ d e, o = .rt d e) ∨ (∃ e, o = .bk e) ∨ (∃ e, o = .ct e) ∨ ∃ e, o = .nx e) (h : TT Γ t m cc Γ1) (k1 : ∀ x, TS (Γ1 x) a (m1 x) fun r o => I r o ∧ ∀ e, o ≠ .nx e) (k2 : ∀ x, TS (Γ1 x) (sCons b c) (m2 x) I) : TS Γ (sCons (sIf t a b) c) (m.bind fun x => if cc x = true then m1 x else m2 x) I := fun env q r hr => by
  rw [Option.bind_eq_some_iff] at hr
  obtain ⟨x, hx, hr⟩ := hr
  obtain ⟨e1, h1, h2⟩ := h env q x hx
  by_cases hc : cc x = true
  · rw [if_pos hc] at hr
    obtain ⟨k3, k4⟩ := k1 x e1 h2 r hr
    simp only [ap_sCons, ap_sIf, h1, Res.toS_ok, hc, if_true]
    rcases hI r _ k3 with ⟨d, e, q⟩ | ⟨e, q⟩ | ⟨e, q⟩ | ⟨e, q⟩
    · rw [q] at k3 ⊢; exact k3
    · rw [q] at k3 ⊢; exact k3
    · rw [q] at k3 ⊢; exact k3
    · exact absurd q (k4 e)
  · rw [if_neg hc] at hr
    have := k2 x e1 h2 r hr
    simpa [h1, hc] using this
end
end Tr

set_option maxHeartbeats 2000000
/-! The typed layer 3: ends, loops, comprehensions, defs. -/
namespace Tr
open PySem PySem.Spec PyProof.Rows L2
section
variable {α β γ σ ρ τ : Type} {I : α → SRes → Prop}
/-! ### ends -/
def NoNx : SRes → Prop
  | .nx _ => False
  | _ => True
theorem seq_nonx {o : SRes} {k : DE → SRes} (h : NoNx o) : o.seq k = o := by cases o <;> first | rfl | exact h.elim
def SI (I : α → SRes → Prop) : α → SRes → Prop := fun r o => I r o ∧ NoNx o
/-- a def's end: a value is given back -/
def IR (e : α → D) (Γ' : α → Ctx) : α → SRes → Prop := fun r o => ∃ env', o = .rt (e r) env' ∧ Fits (Γ' r) env'
inductive Fl (σ ρ : Type) where
  | go (s : σ) | bk (s : σ) | rt (r : ρ)
/-- a loop's body's end -/
def IF (Inv : σ → Ctx) (e : ρ → D) (Γr : ρ → Ctx) : Fl σ ρ → SRes → Prop
  | .go s, o => ∃ env', (o = .nx env' ∨ o = .ct env') ∧ Fits (Inv s) env'
  | .bk s, o => ∃ env', o = .bk env' ∧ Fits (Inv s) env'
  | .rt r, o => ∃ env', o = .rt (e r) env' ∧ Fits (Γr r) env'
theorem si_id {r : α} {o : SRes} (h : SI I r o) : I r o ∧ NoNx o := h
theorem si_si {r : α} {o : SRes} (h : SI I r o) : SI I r o ∧ NoNx o := ⟨h, h.2⟩
theorem ir_si {e : α → D} {Γ' : α → Ctx} {r : α} {o : SRes} (h : IR e Γ' r o) : IR e Γ' r o ∧ NoNx o := by
  refine ⟨h, ?_⟩
  obtain ⟨env, rfl, _⟩ := h
  trivial
theorem ts_ret {Γ : Ctx} {f : DE → Res D} {m : Option β} {e : β → D} {Γ1 : β → Ctx} {φ : β → α} (h : TE Γ f m e Γ1) (c : ∀ r env', Fits (Γ1 r) env' → I (φ r) (.rt (e r) env')) : TS Γ (sRet f) (m.map φ) I := fun env q r hr => by
  rw [Option.map_eq_some_iff] at hr
  obtain ⟨a, ha, rfl⟩ := hr
  obtain ⟨e1, h1, h2⟩ := h env q a ha
  simpa [h1] using c a e1 h2
theorem ts_ret0 {Γ : Ctx} {f : DE → Res D} {m : Option α} {e : α → D} {Γ1 : α → Ctx} (h : TE Γ f m e Γ1) (c : ∀ r env', Fits (Γ1 r) env' → I r (.rt (e r) env')) : TS Γ (sRet f) m I := fun env q r hr => by
  obtain ⟨e1, h1, h2⟩ := h env q r hr
  simpa [h1] using c r e1 h2
theorem ts_retp {Γ Γ1 : Ctx} {f : DE → Res D} {d : D} {v : α} (h : PE Γ f d Γ1) (c : ∀ env', Fits Γ1 env' → I v (.rt d env')) : TS Γ (sRet f) (some v) I := fun env q r hr => by
  cases hr
  obtain ⟨e1, h1, h2⟩ := h env q
  simpa [h1] using c e1 h2
theorem ts_retN {Γ : Ctx} {v : α} (c : ∀ env', Fits Γ env' → I v (.rt .non env')) : TS Γ sRetN (some v) I := fun env q r hr => by
  cases hr; exact c env q
theorem ts_bk {Γ : Ctx} {v : α} (c : ∀ env', Fits Γ env' → I v (.bk env')) : TS Γ (fun e => .bk e) (some v) I := fun env q r hr => by
  cases hr; exact c env q
theorem ts_ct {Γ : Ctx} {v : α} (c : ∀ env', Fits Γ env' → I v (.ct env')) : TS Γ (fun e => .ct e) (some v) I := fun env q r hr => by
  cases hr; exact c env q
theorem ts_nv {Γ : Ctx} {f : DE → SRes} : TS Γ f none I := fun env q r hr => by cases hr
theorem tb_nv {Γ : Ctx} {f : DE → SRes} {Γ' : α → Ctx} : TB Γ f none Γ' := fun env q r hr => by cases hr
/-- a block that goes on at its end -/
theorem ts_tb {Γ : Ctx} {f : DE → SRes} {m : Option β} {Γ1 : β → Ctx} {φ : β → α} (h : TB Γ f m Γ1) (c : ∀ r env', Fits (Γ1 r) env' → I (φ r) (.nx env')) : TS Γ f (m.map φ) I := fun env q r hr => by
  rw [Option.map_eq_some_iff] at hr
  obtain ⟨a, ha, rfl⟩ := hr
  obtain ⟨e1, h1, h2⟩ := h env q a ha
  rw [h1]; exact c a e1 h2
theorem ts_0 {Γ : Ctx} {v : α} (c : ∀ env', Fits Γ env' → I v (.nx env')) : TS Γ sNil (some v) I := fun env q r hr => by
  cases hr; exact c env q
theorem ts_ifs {Γ : Ctx} {t : DE → Res Bool} {a b c : DE → SRes} {I' : α → SRes → Prop} {m : Option β} {cc : β → Bool} {Γ1 : β → Ctx} {m1 m2 : β → Option α} (hs : ∀ {r o}, I' r o → I r o ∧ NoNx o) (h : TT Γ t m cc Γ1) (k1 : ∀ x, TS (Γ1 x) a (m1 x) I') (k2 : ∀ x, TS (Γ1 x) (sCons b c) (m2 x) I) : TS Γ (sCons (sIf t a b) c) (m.bind fun x => if cc x = true then m1 x else m2 x) I := fun env q r hr => by
  rw [Option.bind_eq_some_iff] at hr
  obtain ⟨x, hx, hr⟩ := hr
  obtain ⟨e1, h1, h2⟩ := h env q x hx
  by_cases hc : cc x = true
  · rw [if_pos hc] at hr
    obtain ⟨k3, k4⟩ := hs (k1 x e1 h2 r hr)
    simp only [ap_sCons, ap_sIf, h1, Res.toS_ok, hc, if_true]
    rw [seq_nonx k4]; exact k3
  · rw [if_neg hc] at hr
    have := k2 x e1 h2 r hr
    simpa [h1, hc] using this
theorem ts_if0 {Γ : Ctx} {t : DE → Res Bool} {a c : DE → SRes} {I' : α → SRes → Prop} {m : Option β} {cc : β → Bool} {Γ1 : β → Ctx} {m1 m2 : β → Option α} (hs : ∀ {r o}, I' r o → I r o ∧ NoNx o) (h : TT Γ t m cc Γ1) (k1 : ∀ x, TS (Γ1 x) a (m1 x) I') (k2 : ∀ x, TS (Γ1 x) c (m2 x) I) : TS Γ (sCons (sIf t a sNil) c) (m.bind fun x => if cc x = true then m1 x else m2 x) I :=
  ts_ifs hs h k1 fun x env q r hr => by simpa using k2 x env q r hr
theorem ts_if0p {Γ Γ1 : Ctx} {t : DE → Res Bool} {a c : DE → SRes} {I' : α → SRes → Prop} {cc : Bool} {m1 m2 : Option α} (hs : ∀ {r o}, I' r o → I r o ∧ NoNx o) (h : PT Γ t cc Γ1) (k1 : TS Γ1 a m1 I') (k2 : TS Γ1 c m2 I) : TS Γ (sCons (sIf t a sNil) c) (if cc = true then m1 else m2) I := ts_if0 (m := some cc) hs (tt_p h) (fun _ => k1) (fun _ => k2)
theorem ts_ifsp {Γ Γ1 : Ctx} {t : DE → Res Bool} {a b c : DE → SRes} {I' : α → SRes → Prop} {cc : Bool} {m1 m2 : Option α} (hs : ∀ {r o}, I' r o → I r o ∧ NoNx o) (h : PT Γ t cc Γ1) (k1 : TS Γ1 a m1 I') (k2 : TS Γ1 (sCons b c) m2 I) : TS Γ (sCons (sIf t a b) c) (if cc = true then m1 else m2) I := ts_ifs (m := some cc) hs (tt_p h) (fun _ => k1) (fun _ => k2)
/-- what goes on goes on with k, what ended is told as it is -/
def orR (o : Option (Sum σ ρ)) (k : σ → Option β) (ι : ρ → β) : Option β := o.bind fun x => match x with
  | .inl s => k s
  | .inr r => some (ι r)
/-- a part that may end, or go on -/
def IS (Γ1 : τ → Ctx) (I : α → SRes → Prop) : Sum τ α → SRes → Prop
  | .inl s, o => ∃ env', o = .nx env' ∧ Fits (Γ1 s) env'
  | .inr r, o => I r o ∧ NoNx o
theorem ts_m {Γ : Ctx} {a b : DE → SRes} {m : Option (Sum τ α)} {Γ1 : τ → Ctx} {k : τ → Option α} (h : TS Γ a m (IS Γ1 I)) (t : ∀ s, TS (Γ1 s) b (k s) I) : TS Γ (sCons a b) (orR m k fun r => r) I := fun env q r hr => by
  unfold orR at hr
  rw [Option.bind_eq_some_iff] at hr
  obtain ⟨x, hx, hr⟩ := hr
  have := h env q x hx
  cases x with
  | inl s =>
    obtain ⟨e1, h1, h2⟩ := this
    have := t s e1 h2 r hr
    simpa [h1] using this
  | inr r' =>
    cases hr
    rw [ap_sCons, seq_nonx this.2]; exact this.1
/-! ### targets, what is walked -/
def TG (Γ : Ctx) (g : D → DE → Option DE) (d : D) (Γ' : Ctx) : Prop := ∀ env, Fits Γ env → ∃ env', g d env = some env' ∧ Fits Γ' env'
def TGs (Γ : Ctx) (g : List D → DE → Option DE) (ds : List D) (Γ' : Ctx) : Prop := ∀ env, Fits Γ env → ∃ env', g ds env = some env' ∧ Fits Γ' env'
theorem tg_n {Γ : Ctx} {i : Nat} {d : D} (hi : i < Γ.length) : TG Γ (gN i) d (Γ.set i (Sl (Eq1 d))) := fun env q => by
  have hl : i < env.length := by rw [← q.len]; exact hi
  exact ⟨_, by simp [hl], q.set ⟨_, rfl, rfl⟩⟩
theorem tg_t {Γ Γ' : Ctx} {n : Nat} {gs : List D → DE → Option DE} {ds : List D} (hn : ds.length = n) (h : TGs Γ gs ds Γ') : TG Γ (gTp n gs) (.tup ds) Γ' := fun env q => by
  obtain ⟨e1, h1, h2⟩ := h env q
  exact ⟨e1, by simp [hn, h1], h2⟩
theorem tgs_n {Γ : Ctx} : TGs Γ gsNil [] Γ := fun env q => ⟨env, rfl, q⟩
theorem tgs_c {Γ Γ1 Γ2 : Ctx} {g : D → DE → Option DE} {gs : List D → DE → Option DE} {d : D} {ds : List D} (h : TG Γ g d Γ1) (t : TGs Γ1 gs ds Γ2) : TGs Γ (gsCons g gs) (d :: ds) Γ2 := fun env q => by
  obtain ⟨e1, h1, h2⟩ := h env q
  obtain ⟨e2, t1, t2⟩ := t e1 h2
  exact ⟨e2, by simp [h1, t1], t2⟩
theorem tb_asg {Γ : Ctx} {f : DE → Res D} {g : D → DE → Option DE} {m : Option α} {e : α → D} {Γ1 Γ2 : α → Ctx} (h : TE Γ f m e Γ1) (t : ∀ r, TG (Γ1 r) g (e r) (Γ2 r)) : TB Γ (sAsg f g) m Γ2 := fun env q r hr => by
  obtain ⟨e1, h1, h2⟩ := h env q r hr
  obtain ⟨e2, t1, t2⟩ := t r e1 h2
  exact ⟨e2, by simp [h1, t1], t2⟩
/-- where it is walked: its items, and the list's slot -/
def PI (Γ : Ctx) (f : DE → Res Wk) (ds : List D) (a : Option (Nat × D)) (Γ' : Ctx) : Prop := ∀ env, Fits Γ env → ∃ env', f env = .ok ⟨ds, a⟩ env' ∧ Fits Γ' env'
def TI (Γ : Ctx) (f : DE → Res Wk) (m : Option α) (ds : α → List D) (Γ' : α → Ctx) : Prop := ∀ env, Fits Γ env → ∀ r, m = some r → ∃ env', f env = .ok ⟨ds r, none⟩ env' ∧ Fits (Γ' r) env'
theorem pi_v {Γ Γ' : Ctx} {f : DE → Res D} {d : D} {ds : List D} (h : PE Γ f d Γ') (hd : d.items = some ds) : PI Γ (iVal f) ds none Γ' := fun env q => by
  obtain ⟨e1, h1, h2⟩ := h env q
  exact ⟨e1, by simp [h1, hd], h2⟩
theorem ti_v {Γ : Ctx} {f : DE → Res D} {m : Option α} {e : α → D} {Γ1 : α → Ctx} {ds : α → List D} (h : TE Γ f m e Γ1) (hd : ∀ r, (e r).items = some (ds r)) : TI Γ (iVal f) m ds Γ1 := fun env q r hr => by
  obtain ⟨e1, h1, h2⟩ := h env q r hr
  exact ⟨e1, by simp [h1, hd], h2⟩
theorem it_to {e : α → D} {l : List α} : (eTO e l).items = some (l.map e) := rfl
theorem it_lo {e : α → D} {l : List α} (he : Imm e) : (eLO e l).items = some (l.map e) := by simp [eLO, D.items, frzL_map' he]
theorem it_lf {e : α → D} {l : List α} (he : Imm e) : (eLF e l).items = some (l.map e) := by simp [eLF, D.items, frzL_map' he]
theorem it_sc {l : List Int} : (D.scr l).items = some (l.map D.int) := rfl
/-- a slot's items -/
theorem pi_so {Γ : Ctx} {i : Nat} {e : α → D} {l : List α} (hi : Γ[i]? = some (Sl (Eq1 (.lst true (l.map e))))) (he : Imm e) : PI Γ (iSlot i) (l.map e) (some (i, .lst true (l.map e))) Γ := fun env q => by
  obtain ⟨d', h1, h2⟩ := q.sl hi
  cases h2
  have := nf_map he l
  exact ⟨env, by rw [ap_iSlot, h1]; dsimp only; rw [if_pos this], q⟩
theorem pi_sf {Γ : Ctx} {i : Nat} {e : α → D} {l : List α} (hi : Γ[i]? = some (Sl (Eq1 (.lst false (l.map e))))) (he : Imm e) : PI Γ (iSlot i) (l.map e) none Γ := fun env q => by
  obtain ⟨d', h1, h2⟩ := q.sl hi
  cases h2
  exact ⟨env, by simp [h1, D.items, frzL_map' he], q⟩
theorem pi_st {Γ : Ctx} {i : Nat} {ds : List D} (hi : Γ[i]? = some (Sl (Eq1 (.tup ds)))) : PI Γ (iSlot i) ds none Γ := fun env q => by
  obtain ⟨d', h1, h2⟩ := q.sl hi
  cases h2
  exact ⟨env, by simp [h1, D.items], q⟩
/-- ranges -/
def rngL (a b : Int) : List Int := (List.range (b - a).toNat).map fun (k : Nat) => a + k
theorem rngL_rng {a b : Int} : rng a b = (rngL a b).map D.int := by simp [rng, rngL, Function.comp_def]
def rng1 (b : Int) : Option (List Int) := if small62 b = true then some (rngL 0 b) else none
def rng2 (a b : Int) : Option (List Int) := if (small62 a && small62 b) = true then some (rngL a b) else none
def rng3 (a b c : Int) : Option (List Int) := if rgOk a b c = true then some ((List.range (Builtin.Range.rangeSize a b c).toNat).map fun (k : Nat) => a + k * c) else none
theorem lgets_of {Γ : Ctx} {ls : List L} {ds : List D} {env : DE} (h : Rds Γ ls (ds.map Eq1)) (q : Fits Γ env) : lgets ls env = some ds := by
  obtain ⟨es, h1, h2⟩ := h env q
  rw [h1]
  congr 1
  clear h1 h
  induction ds generalizing es with
  | nil => cases es with
    | nil => rfl
    | cons _ _ => exact h2.elim
  | cons d ds ih => cases es with
    | nil => exact h2.elim
    | cons e es => rw [h2.1, ih es h2.2]
theorem ti_r1 {Γ Γ1 : Ctx} {fa : DE → Res (List L)} {ls : List L} {b : Int} (h : TAp Γ fa ls Γ1) (r : Rds Γ1 ls [Eq1 (.int b)]) : TI Γ (iRng1f fa) (rng1 b) (fun l => l.map D.int) (fun _ => Γ1) := fun env q l hl => by
  obtain ⟨e1, h1, h2⟩ := h env q
  have g := lgets_of (ds := [.int b]) r h2
  unfold rng1 at hl
  split at hl
  · rename_i hs
    cases hl
    exact ⟨e1, by simp [h1, g, hs, rngL_rng], h2⟩
  · cases hl
theorem ti_r2 {Γ Γ1 : Ctx} {fa : DE → Res (List L)} {ls : List L} {a b : Int} (h : TAp Γ fa ls Γ1) (r : Rds Γ1 ls [Eq1 (.int a), Eq1 (.int b)]) : TI Γ (iRng2f fa) (rng2 a b) (fun l => l.map D.int) (fun _ => Γ1) := fun env q l hl => by
  obtain ⟨e1, h1, h2⟩ := h env q
  have g := lgets_of (ds := [.int a, .int b]) r h2
  unfold rng2 at hl
  split at hl
  · rename_i hs
    cases hl
    refine ⟨e1, ?_, h2⟩
    simp only [ap_rng2, h1, Res.bind_ok, g]
    rw [if_pos hs, rngL_rng]
  · cases hl
theorem ti_r3 {Γ Γ1 : Ctx} {fa : DE → Res (List L)} {ls : List L} {a b c : Int} (h : TAp Γ fa ls Γ1) (r : Rds Γ1 ls [Eq1 (.int a), Eq1 (.int b), Eq1 (.int c)]) : TI Γ (iRng3f fa) (rng3 a b c) (fun l => l.map D.int) (fun _ => Γ1) := fun env q l hl => by
  obtain ⟨e1, h1, h2⟩ := h env q
  have g := lgets_of (ds := [.int a, .int b, .int c]) r h2
  unfold rng3 at hl
  split at hl
  · rename_i hs
    cases hl
    refine ⟨e1, ?_, h2⟩
    simp only [ap_rng3, h1, Res.bind_ok, g]
    rw [if_pos hs]
    simp [rngC, Function.comp_def]
  · cases hl
theorem ti_r1m {Γ Γ1 : Ctx} {fa : DE → Res (List L)} {m : Option α} {ls : α → List L} {b : α → Int} (h : TA Γ fa m ls fun _ => Γ1) (r : ∀ x, Rds Γ1 (ls x) [Eq1 (.int (b x))]) : TI Γ (iRng1f fa) (m.bind fun x => rng1 (b x)) (fun l => l.map D.int) (fun _ => Γ1) := fun env q l hl => by
  rw [Option.bind_eq_some_iff] at hl
  obtain ⟨x, hx, hl⟩ := hl
  obtain ⟨e1, h1, h2⟩ := h env q x hx
  have g := lgets_of (ds := [.int (b x)]) (r x) h2
  unfold rng1 at hl
  split at hl
  · rename_i hs
    cases hl
    exact ⟨e1, by simp [h1, g, hs, rngL_rng], h2⟩
  · cases hl
theorem ti_r2m {Γ Γ1 : Ctx} {fa : DE → Res (List L)} {m : Option α} {ls : α → List L} {a b : α → Int} (h : TA Γ fa m ls fun _ => Γ1) (r : ∀ x, Rds Γ1 (ls x) [Eq1 (.int (a x)), Eq1 (.int (b x))]) : TI Γ (iRng2f fa) (m.bind fun x => rng2 (a x) (b x)) (fun l => l.map D.int) (fun _ => Γ1) := fun env q l hl => by
  rw [Option.bind_eq_some_iff] at hl
  obtain ⟨x, hx, hl⟩ := hl
  obtain ⟨e1, h1, h2⟩ := h env q x hx
  have g := lgets_of (ds := [.int (a x), .int (b x)]) (r x) h2
  unfold rng2 at hl
  split at hl
  · rename_i hs
    cases hl
    refine ⟨e1, ?_, h2⟩
    simp only [ap_rng2, h1, Res.bind_ok, g]
    rw [if_pos hs, rngL_rng]
  · cases hl
/-- a range of a drawn number -/
theorem ti_r1e {Γ : Ctx} {Γ1 : α → Ctx} {Γ2 : γ → Ctx} {fa : DE → Res (List L)} {m : Option α} {ls : α → List L} {b : α → Int} {φ : α → List Int → γ} {ds : γ → List D} (h : TA Γ fa m ls Γ1) (r : ∀ x, Rds (Γ1 x) (ls x) [Eq1 (.int (b x))]) (hd : ∀ x l, ds (φ x l) = l.map D.int) (hg : ∀ x l, Γ2 (φ x l) = Γ1 x) : TI Γ (iRng1f fa) (m.bind fun x => (rng1 (b x)).map (φ x)) ds Γ2 := fun env q l hl => by
  rw [Option.bind_eq_some_iff] at hl
  obtain ⟨x, hx, hl⟩ := hl
  rw [Option.map_eq_some_iff] at hl
  obtain ⟨k, hk, rfl⟩ := hl
  obtain ⟨e1, h1, h2⟩ := h env q x hx
  have g := lgets_of (ds := [.int (b x)]) (r x) h2
  unfold rng1 at hk
  split at hk
  · rename_i hs
    cases hk
    exact ⟨e1, by simp [h1, g, hs, rngL_rng, hd], by rw [hg]; exact h2⟩
  · cases hk
/-! ### for -/
def foldO (f : σ → α → Option σ) : List α → σ → Option σ
  | [], s => some s
  | x :: xs, s => (f s x).bind (foldO f xs)
theorem forL_o {g : D → DE → Option DE} {b : DE → SRes} {Inv : σ → Ctx} {ei : α → D} {mb : σ → α → Option σ} {Γt : σ → α → Ctx} (ht : ∀ s x, TG (Inv s) g (ei x) (Γt s x)) (hb : ∀ s x, TB (Γt s x) b (mb s x) Inv) : ∀ (l : List α) (s : σ) (env : DE), Fits (Inv s) env → ∀ r, foldO mb l s = some r → ∃ env', forL g b (l.map ei) env = .nx env' ∧ Fits (Inv r) env'
  | [], s, env, q, r, hr => by cases hr; exact ⟨env, rfl, q⟩
  | x :: xs, s, env, q, r, hr => by
    rw [foldO, Option.bind_eq_some_iff] at hr
    obtain ⟨s1, hs, hr⟩ := hr
    obtain ⟨e1, h1, h2⟩ := ht s x env q
    obtain ⟨e2, h3, h4⟩ := hb s x e1 h2 s1 hs
    obtain ⟨e3, h5, h6⟩ := forL_o ht hb xs s1 e2 h4 r hr
    refine ⟨e3, ?_, h6⟩
    rw [List.map_cons, forL, h1]; dsimp only; rw [h3]; exact h5
theorem tb_for {Γ Γ1 : Ctx} {fi : DE → Res Wk} {g : D → DE → Option DE} {b : DE → SRes} {Inv : σ → Ctx} {ei : α → D} {l : List α} {s0 : σ} {mb : σ → α → Option σ} {Γt : σ → α → Ctx} (hi : PI Γ fi (l.map ei) none Γ1) (h0 : Sub Γ1 (Inv s0)) (ht : ∀ s x, TG (Inv s) g (ei x) (Γt s x)) (hb : ∀ s x, TB (Γt s x) b (mb s x) Inv) : TB Γ (sFor fi g b) (foldO mb l s0) Inv := fun env q r hr => by
  obtain ⟨e1, h1, h2⟩ := hi env q
  obtain ⟨e2, h3, h4⟩ := forL_o ht hb l s0 e1 (h0 e1 h2) r hr
  exact ⟨e2, by simp [h1, h3], h4⟩
theorem tb_form {Γ : Ctx} {Γ1 : β → Ctx} {fi : DE → Res Wk} {g : D → DE → Option DE} {b : DE → SRes} {Inv : σ → Ctx} {ei : α → D} {m : Option β} {l : β → List α} {s0 : β → σ} {mb : σ → α → Option σ} {Γt : σ → α → Ctx} (hi : TI Γ fi m (fun x => (l x).map ei) Γ1) (h0 : ∀ x, Sub (Γ1 x) (Inv (s0 x))) (ht : ∀ s x, TG (Inv s) g (ei x) (Γt s x)) (hb : ∀ s x, TB (Γt s x) b (mb s x) Inv) : TB Γ (sFor fi g b) (m.bind fun x => foldO mb (l x) (s0 x)) Inv := fun env q r hr => by
  rw [Option.bind_eq_some_iff] at hr
  obtain ⟨x, hx, hr⟩ := hr
  obtain ⟨e1, h1, h2⟩ := hi env q x hx
  obtain ⟨e2, h3, h4⟩ := forL_o ht hb (l x) (s0 x) e1 (h0 x e1 h2) r hr
  exact ⟨e2, by simp [h1, h3], h4⟩
/-- with ends within -/
def forF (f : σ → α → Option (Fl σ ρ)) : List α → σ → Option (Sum σ ρ)
  | [], s => some (.inl s)
  | x :: xs, s => (f s x).bind fun o => match o with
    | .go s => forF f xs s
    | .bk s => some (.inl s)
    | .rt r => some (.inr r)
def ISum (Inv : σ → Ctx) (e : ρ → D) (Γr : ρ → Ctx) : Sum σ ρ → SRes → Prop
  | .inl s, o => ∃ env', o = .nx env' ∧ Fits (Inv s) env'
  | .inr r, o => ∃ env', o = .rt (e r) env' ∧ Fits (Γr r) env'
theorem forL_f {g : D → DE → Option DE} {b : DE → SRes} {Inv : σ → Ctx} {e : ρ → D} {Γr : ρ → Ctx} {ei : α → D} {mb : σ → α → Option (Fl σ ρ)} {Γt : σ → α → Ctx} (ht : ∀ s x, TG (Inv s) g (ei x) (Γt s x)) (hb : ∀ s x, TS (Γt s x) b (mb s x) (IF Inv e Γr)) : ∀ (l : List α) (s : σ) (env : DE), Fits (Inv s) env → ∀ r, forF mb l s = some r → ISum Inv e Γr r (forL g b (l.map ei) env)
  | [], s, env, q, r, hr => by cases hr; exact ⟨env, rfl, q⟩
  | x :: xs, s, env, q, r, hr => by
    rw [forF, Option.bind_eq_some_iff] at hr
    obtain ⟨s1, hs, hr⟩ := hr
    obtain ⟨e1, h1, h2⟩ := ht s x env q
    have h3 := hb s x e1 h2 s1 hs
    rw [List.map_cons, forL, h1]; dsimp only
    cases s1 with
    | go s1 =>
      obtain ⟨e2, h4, h5⟩ := h3
      have h6 := forL_f ht hb xs s1 e2 h5 r hr
      rcases h4 with h4 | h4 <;> (rw [h4]; exact h6)
    | bk s1 =>
      cases hr
      obtain ⟨e2, h4, h5⟩ := h3
      rw [h4]; exact ⟨e2, rfl, h5⟩
    | rt r1 =>
      cases hr
      obtain ⟨e2, h4, h5⟩ := h3
      rw [h4]; exact ⟨e2, rfl, h5⟩
theorem ts_for {Γ Γ1 : Ctx} {fi : DE → Res Wk} {g : D → DE → Option DE} {b c : DE → SRes} {Inv : σ → Ctx} {e : ρ → D} {Γr : ρ → Ctx} {ei : α → D} {l : List α} {s0 : σ} {mb : σ → α → Option (Fl σ ρ)} {Γt : σ → α → Ctx} {I : β → SRes → Prop} {ι : ρ → β} {k : σ → Option β} (hi : PI Γ fi (l.map ei) none Γ1) (h0 : Sub Γ1 (Inv s0)) (ht : ∀ s x, TG (Inv s) g (ei x) (Γt s x)) (hb : ∀ s x, TS (Γt s x) b (mb s x) (IF Inv e Γr)) (hr : ∀ r env', Fits (Γr r) env' → I (ι r) (.rt (e r) env')) (hk : ∀ s, TS (Inv s) c (k s) I) : TS Γ (sCons (sFor fi g b) c) (orR (forF mb l s0) k ι) I := fun env q r hrr => by
  unfold orR at hrr
  rw [Option.bind_eq_some_iff] at hrr
  obtain ⟨x, hx, hrr⟩ := hrr
  obtain ⟨e1, h1, h2⟩ := hi env q
  have h3 := forL_f ht hb l s0 e1 (h0 e1 h2) x hx
  cases x with
  | inl s =>
    obtain ⟨e2, h4, h5⟩ := h3
    have := hk s e2 h5 r hrr
    simpa [h1, h4] using this
  | inr r1 =>
    cases hrr
    obtain ⟨e2, h4, h5⟩ := h3
    have := hr r1 e2 h5
    simpa [h1, h4] using this
theorem ts_form {Γ : Ctx} {Γ1 : γ → Ctx} {fi : DE → Res Wk} {g : D → DE → Option DE} {b c : DE → SRes} {Inv : σ → Ctx} {e : ρ → D} {Γr : ρ → Ctx} {ei : α → D} {m : Option γ} {l : γ → List α} {s0 : γ → σ} {mb : σ → α → Option (Fl σ ρ)} {Γt : σ → α → Ctx} {I : β → SRes → Prop} {ι : ρ → β} {k : σ → Option β} (hi : TI Γ fi m (fun x => (l x).map ei) Γ1) (h0 : ∀ x, Sub (Γ1 x) (Inv (s0 x))) (ht : ∀ s x, TG (Inv s) g (ei x) (Γt s x)) (hb : ∀ s x, TS (Γt s x) b (mb s x) (IF Inv e Γr)) (hr : ∀ r env', Fits (Γr r) env' → I (ι r) (.rt (e r) env')) (hk : ∀ s, TS (Inv s) c (k s) I) : TS Γ (sCons (sFor fi g b) c) (m.bind fun x => orR (forF mb (l x) (s0 x)) k ι) I := fun env q r hrr => by
  unfold orR at hrr
  rw [Option.bind_eq_some_iff] at hrr
  obtain ⟨y, hy, hrr⟩ := hrr
  rw [Option.bind_eq_some_iff] at hrr
  obtain ⟨x, hx, hrr⟩ := hrr
  obtain ⟨e1, h1, h2⟩ := hi env q y hy
  have h3 := forL_f ht hb (l y) (s0 y) e1 (h0 y e1 h2) x hx
  cases x with
  | inl s =>
    obtain ⟨e2, h4, h5⟩ := h3
    have := hk s e2 h5 r hrr
    simpa [h1, h4] using this
  | inr r1 =>
    cases hrr
    obtain ⟨e2, h4, h5⟩ := h3
    have := hr r1 e2 h5
    simpa [h1, h4] using this
/-- such a loop at the end of a part -/
theorem ts_forl {Γ : Ctx} {Γ1 : γ → Ctx} {fi : DE → Res Wk} {g : D → DE → Option DE} {b : DE → SRes} {Inv : σ → Ctx} {e : ρ → D} {Γr : ρ → Ctx} {ei : α → D} {m : Option γ} {l : γ → List α} {s0 : γ → σ} {mb : σ → α → Option (Fl σ ρ)} {Γt : σ → α → Ctx} {I : β → SRes → Prop} {ι : ρ → β} {κ : σ → β} (hi : TI Γ fi m (fun x => (l x).map ei) Γ1) (h0 : ∀ x, Sub (Γ1 x) (Inv (s0 x))) (ht : ∀ s x, TG (Inv s) g (ei x) (Γt s x)) (hb : ∀ s x, TS (Γt s x) b (mb s x) (IF Inv e Γr)) (hr : ∀ r env', Fits (Γr r) env' → I (ι r) (.rt (e r) env')) (hk : ∀ s env', Fits (Inv s) env' → I (κ s) (.nx env')) : TS Γ (sFor fi g b) (m.bind fun x => orR (forF mb (l x) (s0 x)) (fun s => some (κ s)) ι) I := fun env q r hrr => by
  unfold orR at hrr
  rw [Option.bind_eq_some_iff] at hrr
  obtain ⟨y, hy, hrr⟩ := hrr
  rw [Option.bind_eq_some_iff] at hrr
  obtain ⟨x, hx, hrr⟩ := hrr
  obtain ⟨e1, h1, h2⟩ := hi env q y hy
  have h3 := forL_f ht hb (l y) (s0 y) e1 (h0 y e1 h2) x hx
  cases x with
  | inl s =>
    cases hrr
    obtain ⟨e2, h4, h5⟩ := h3
    have := hk s e2 h5
    simpa [h1, h4] using this
  | inr r1 =>
    cases hrr
    obtain ⟨e2, h4, h5⟩ := h3
    have := hr r1 e2 h5
    simpa [h1, h4] using this
/-- breaks alone: a loop in a block -/
theorem tb_forb {Γ : Ctx} {Γ1 : γ → Ctx} {fi : DE → Res Wk} {g : D → DE → Option DE} {b : DE → SRes} {Inv : σ → Ctx} {ei : α → D} {m : Option γ} {l : γ → List α} {s0 : γ → σ} {mb : σ → α → Option (Fl σ Empty)} {Γt : σ → α → Ctx} (hi : TI Γ fi m (fun x => (l x).map ei) Γ1) (h0 : ∀ x, Sub (Γ1 x) (Inv (s0 x))) (ht : ∀ s x, TG (Inv s) g (ei x) (Γt s x)) (hb : ∀ s x, TS (Γt s x) b (mb s x) (IF Inv (fun r => nomatch r) (fun r => nomatch r))) : TB Γ (sFor fi g b) (m.bind fun x => orR (forF mb (l x) (s0 x)) some fun r => nomatch r) Inv := fun env q r hrr => by
  unfold orR at hrr
  rw [Option.bind_eq_some_iff] at hrr
  obtain ⟨y, hy, hrr⟩ := hrr
  rw [Option.bind_eq_some_iff] at hrr
  obtain ⟨x, hx, hrr⟩ := hrr
  obtain ⟨e1, h1, h2⟩ := hi env q y hy
  have h3 := forL_f ht hb (l y) (s0 y) e1 (h0 y e1 h2) x hx
  cases x with
  | inl s =>
    cases hrr
    obtain ⟨e2, h4, h5⟩ := h3
    exact ⟨e2, by simp [h1, h4], h5⟩
  | inr r1 => exact nomatch r1
/-! ### while -/
def whO (c : σ → Option Bool) (b : σ → Option σ) : Nat → σ → Option σ
  | 0, _ => none
  | n + 1, s => (c s).bind fun t => if t = true then (b s).bind (whO c b n) else some s
theorem whO_le {c : σ → Option Bool} {b : σ → Option σ} : ∀ {n m : Nat} {s r : σ}, n ≤ m → whO c b n s = some r → whO c b m s = some r
  | 0, m, s, r, _, h => by cases h
  | n + 1, 0, s, r, l, h => absurd l (by omega)
  | n + 1, m + 1, s, r, l, h => by
    rw [whO, Option.bind_eq_some_iff] at h ⊢
    obtain ⟨t, h1, h2⟩ := h
    refine ⟨t, h1, ?_⟩
    cases t with
    | false => exact h2
    | true =>
      rw [if_pos rfl, Option.bind_eq_some_iff] at h2 ⊢
      obtain ⟨s1, h3, h4⟩ := h2
      exact ⟨s1, h3, whO_le (by omega) h4⟩
theorem whF_o {c : DE → Res Bool} {b : DE → SRes} {Inv : σ → Ctx} {mc : σ → Option Bool} {mb : σ → Option σ} (hc : ∀ s, TT (Inv s) c (mc s) id fun _ => Inv s) (hb : ∀ s, TB (Inv s) b (mb s) Inv) : ∀ (n : Nat) (s : σ) (env : DE), Fits (Inv s) env → ∀ r, whO mc mb n s = some r → ∃ env', whF c b n env = .nx env' ∧ Fits (Inv r) env'
  | 0, s, env, q, r, h => by cases h
  | n + 1, s, env, q, r, h => by
    rw [whO, Option.bind_eq_some_iff] at h
    obtain ⟨t, h1, h2⟩ := h
    obtain ⟨e1, c1, c2⟩ := hc s env q t h1
    rw [whF, c1]
    cases t with
    | false =>
      cases h2
      exact ⟨e1, by simp, c2⟩
    | true =>
      rw [if_pos rfl, Option.bind_eq_some_iff] at h2
      obtain ⟨s1, h3, h4⟩ := h2
      obtain ⟨e2, b1, b2⟩ := hb s e1 c2 s1 h3
      obtain ⟨e3, w1, w2⟩ := whF_o hc hb n s1 e2 b2 r h4
      exact ⟨e3, by simp [b1, w1], w2⟩
theorem tb_while {Γ : Ctx} {c : DE → Res Bool} {b : DE → SRes} {Inv : σ → Ctx} {mc : σ → Option Bool} {mb : σ → Option σ} {n : Nat} {s0 : σ} (h0 : Sub Γ (Inv s0)) (hc : ∀ s, TT (Inv s) c (mc s) id fun _ => Inv s) (hb : ∀ s, TB (Inv s) b (mb s) Inv) : TB Γ (sWhile c b) (whO mc mb n s0) Inv := fun env q r hr => by
  obtain ⟨e1, h1, h2⟩ := whF_o hc hb n s0 env (h0 env q) r hr
  exact ⟨e1, sWhile_eq h1 (by simp), h2⟩
def whR (c : σ → Option Bool) (b : σ → Option (Fl σ ρ)) : Nat → σ → Option (Sum σ ρ)
  | 0, _ => none
  | n + 1, s => (c s).bind fun t => if t = true then (b s).bind fun o => (match o with
    | .go s => whR c b n s
    | .bk s => some (.inl s)
    | .rt r => some (.inr r)) else some (.inl s)
theorem whR_le {c : σ → Option Bool} {b : σ → Option (Fl σ ρ)} : ∀ {n m : Nat} {s : σ} {r : Sum σ ρ}, n ≤ m → whR c b n s = some r → whR c b m s = some r
  | 0, m, s, r, _, h => by cases h
  | n + 1, 0, s, r, l, h => absurd l (by omega)
  | n + 1, m + 1, s, r, l, h => by
    rw [whR, Option.bind_eq_some_iff] at h ⊢
    obtain ⟨t, h1, h2⟩ := h
    refine ⟨t, h1, ?_⟩
    cases t with
    | false => exact h2
    | true =>
      rw [if_pos rfl, Option.bind_eq_some_iff] at h2 ⊢
      obtain ⟨s1, h3, h4⟩ := h2
      refine ⟨s1, h3, ?_⟩
      cases s1 with
      | go s => exact whR_le (by omega) h4
      | bk s => exact h4
      | rt r => exact h4
theorem whF_r {c : DE → Res Bool} {b : DE → SRes} {Inv : σ → Ctx} {e : ρ → D} {Γr : ρ → Ctx} {mc : σ → Option Bool} {mb : σ → Option (Fl σ ρ)} (hc : ∀ s, TT (Inv s) c (mc s) id fun _ => Inv s) (hb : ∀ s, TS (Inv s) b (mb s) (IF Inv e Γr)) : ∀ (n : Nat) (s : σ) (env : DE), Fits (Inv s) env → ∀ r, whR mc mb n s = some r → ISum Inv e Γr r (whF c b n env)
  | 0, s, env, q, r, h => by cases h
  | n + 1, s, env, q, r, h => by
    rw [whR, Option.bind_eq_some_iff] at h
    obtain ⟨t, h1, h2⟩ := h
    obtain ⟨e1, c1, c2⟩ := hc s env q t h1
    rw [whF, c1]
    cases t with
    | false =>
      cases h2
      exact ⟨e1, by simp, c2⟩
    | true =>
      rw [if_pos rfl, Option.bind_eq_some_iff] at h2
      obtain ⟨s1, h3, h4⟩ := h2
      have b1 := hb s e1 c2 s1 h3
      simp only [Res.toS_ok, id, if_true]
      cases s1 with
      | go s1 =>
        obtain ⟨e2, b2, b3⟩ := b1
        have w := whF_r hc hb n s1 e2 b3 r h4
        rcases b2 with b2 | b2 <;> (rw [b2]; exact w)
      | bk s1 =>
        cases h4
        obtain ⟨e2, b2, b3⟩ := b1
        rw [b2]; exact ⟨e2, rfl, b3⟩
      | rt r1 =>
        cases h4
        obtain ⟨e2, b2, b3⟩ := b1
        rw [b2]; exact ⟨e2, rfl, b3⟩
theorem ts_while {Γ : Ctx} {c : DE → Res Bool} {b k : DE → SRes} {Inv : σ → Ctx} {e : ρ → D} {Γr : ρ → Ctx} {mc : σ → Option Bool} {mb : σ → Option (Fl σ ρ)} {n : Nat} {s0 : σ} {I : β → SRes → Prop} {ι : ρ → β} {kk : σ → Option β} (h0 : Sub Γ (Inv s0)) (hc : ∀ s, TT (Inv s) c (mc s) id fun _ => Inv s) (hb : ∀ s, TS (Inv s) b (mb s) (IF Inv e Γr)) (hr : ∀ r env', Fits (Γr r) env' → I (ι r) (.rt (e r) env')) (hk : ∀ s, TS (Inv s) k (kk s) I) : TS Γ (sCons (sWhile c b) k) (orR (whR mc mb n s0) kk ι) I := fun env q r hrr => by
  unfold orR at hrr
  rw [Option.bind_eq_some_iff] at hrr
  obtain ⟨x, hx, hrr⟩ := hrr
  have h3 := whF_r hc hb n s0 env (h0 env q) x hx
  cases x with
  | inl s =>
    obtain ⟨e2, h4, h5⟩ := h3
    have w := sWhile_eq h4 (by simp)
    have := hk s e2 h5 r hrr
    simpa [w] using this
  | inr r1 =>
    cases hrr
    obtain ⟨e2, h4, h5⟩ := h3
    have w := sWhile_eq h4 (by simp)
    have := hr r1 e2 h5
    simpa [w] using this
/-! ### defs -/
inductive BK (fx : List Nat) : Nat → List DP → Ctx → List DP → Prop where
  | n {i Γ} : BK fx i [] Γ []
  | f {i P Ps Q Γ Qs} (h : fx.contains i = true) (t : BK fx (i + 1) Ps Γ Qs) : BK fx i (P :: Ps) (Sl Q :: Γ) (Q :: Qs)
  | a {i P Ps s Γ Qs} (h : fx.contains i = false) (hf : ∀ d, P d → d.flag = false) (t : BK fx (i + 1) Ps Γ Qs) : BK fx i (P :: Ps) (s :: Γ) (P :: Qs)
theorem BK.ok {fx : List Nat} {i : Nat} {Ps Qs : List DP} {Γ : Ctx} (h : BK fx i Ps Γ Qs) : ∀ {env : DE} {ds : List D}, Fits Γ env → All2 Ps ds → ∃ ds', back fx i ds env = some ds' ∧ All2 Qs ds' := by
  induction h with
  | n =>
    intro env ds q a
    cases ds with
    | nil => exact ⟨[], bk_n, trivial⟩
    | cons _ _ => exact a.elim
  | f h t ih =>
    intro env ds q a
    cases env with
    | nil => exact q.elim
    | cons o env =>
      cases ds with
      | nil => exact a.elim
      | cons d ds =>
        obtain ⟨ds', h1, h2⟩ := ih q.2 a.2
        obtain ⟨d', rfl, h3⟩ := q.1
        exact ⟨d' :: ds', by rw [bk_c, if_pos h, h1]; rfl, h3, h2⟩
  | a h hf t ih =>
    intro env ds q a
    cases env with
    | nil => exact q.elim
    | cons o env =>
      cases ds with
      | nil => exact a.elim
      | cons d ds =>
        obtain ⟨ds', h1, h2⟩ := ih q.2 a.2
        refine ⟨d :: ds', by rw [bk_c, if_neg (by rw [h]; exact Bool.false_ne_true), if_neg (by rw [hf d a.1]; exact Bool.false_ne_true), h1]; rfl, a.1, h2⟩
theorem fits0 : ∀ {Ps : List DP} {ds : List D} (k : Nat), All2 Ps ds → Fits (Ps.map Sl ++ List.replicate k No) (ds.map some ++ List.replicate k none)
  | [], [], 0, _ => trivial
  | [], [], k + 1, h => ⟨rfl, fits0 (Ps := []) (ds := []) k h⟩
  | [], _ :: _, _, h => h.elim
  | _ :: _, [], _, h => h.elim
  | P :: Ps, d :: ds, k, h => ⟨⟨d, rfl, h.1⟩, fits0 k h.2⟩
theorem spec_fn {fx : List Nat} {n m : Nat} {fb : DE → SRes} {Ps : List DP} {Γ0 : Ctx} {mo : Option α} {e : α → D} {Γ' : α → Ctx} {Qs : α → List DP} (hb : TS Γ0 fb mo (IR e Γ')) (hk : ∀ r, BK fx 0 Ps (Γ' r) (Qs r)) (h0 : Γ0 = Ps.map Sl ++ List.replicate (m - n) No := by rfl) : Spec (fnG fx n m fb) Ps mo e Qs := fun ds a r hr => by
  subst h0
  obtain ⟨e1, h1, h2⟩ := hb _ (fits0 (m - n) a) r hr
  obtain ⟨ds', h3, h4⟩ := (hk r).ok h2 a
  exact ⟨ds', by simp [h1, h3], h4⟩
theorem spec_fnN {fx : List Nat} {n m : Nat} {fb : DE → SRes} {Ps : List DP} {Γ0 : Ctx} {mo : Option α} {Γ' : α → Ctx} {Qs : α → List DP} (hb : TB Γ0 fb mo Γ') (hk : ∀ r, BK fx 0 Ps (Γ' r) (Qs r)) (h0 : Γ0 = Ps.map Sl ++ List.replicate (m - n) No := by rfl) : Spec (fnG fx n m fb) Ps mo (fun _ => .non) Qs := fun ds a r hr => by
  subst h0
  obtain ⟨e1, h1, h2⟩ := hb _ (fits0 (m - n) a) r hr
  obtain ⟨ds', h3, h4⟩ := (hk r).ok h2 a
  exact ⟨ds', by simp [h1, h3], h4⟩
end
end Tr

set_option maxHeartbeats 2000000
/-! The typed layer 4: comprehensions. -/
namespace Tr
open PySem PySem.Spec PyProof.Rows L2
section
variable {α β γ σ ρ τ : Type}
def wipeG (Γ : Ctx) : List Nat → Ctx
  | [] => Γ
  | v :: vs => (wipeG Γ vs).set v No
def restG (Γ : Ctx) : List Nat → Ctx → Ctx
  | [], G => G
  | v :: vs, G => restG Γ vs (G.set v ((wipeG Γ vs).getD v No))
def NoV (Γ : Ctx) : List Nat → Ctx → Prop
  | [], _ => True
  | v :: vs, G => G[v]? = some No ∧ NoV Γ vs (G.set v ((wipeG Γ vs).getD v No))
theorem wipe_ok {Γ : Ctx} {e : DE} (h : Fits Γ e) : ∀ vs, Fits (wipeG Γ vs) (wipeE e vs)
  | [] => h
  | v :: vs => (wipe_ok h vs).set rfl
theorem lt_of_get {Γ : Ctx} {i : Nat} {a : SA} (h : Γ[i]? = some a) : i < Γ.length := by
  obtain ⟨h, _⟩ := List.getElem?_eq_some_iff.mp h
  exact h
theorem rest_ok {Γ : Ctx} {e : DE} (h : Fits Γ e) : ∀ (vs : List Nat) (G : Ctx) (e2 : DE), Fits G e2 → NoV Γ vs G → Fits (restG Γ vs G) (restE e vs e2)
  | [], G, e2, q, _ => q
  | v :: vs, G, e2, q, n => by
    have hw := wipe_ok h vs
    rw [rs_c]
    refine rest_ok h vs _ _ ?_ n.2
    have g2 : gd e2 v = none := q.get n.1
    have hl : v < e2.length := by rw [← q.len]; exact lt_of_get n.1
    have key : ∀ o, gd (wipeE e vs) v = o → ((wipeG Γ vs).getD v No) o := fun o ho => by
      by_cases hv : v < (wipeG Γ vs).length
      · have g : (wipeG Γ vs)[v]? = some ((wipeG Γ vs).getD v No) := by
          rw [List.getD_eq_getElem?_getD, List.getElem?_eq_getElem hv]; rfl
        have := hw.get g
        rw [ho] at this; exact this
      · have g : (wipeG Γ vs).getD v No = No := by
          rw [List.getD_eq_getElem?_getD, List.getElem?_eq_none (by omega)]; rfl
        rw [g]
        have : gd (wipeE e vs) v = none := by
          unfold gd
          rw [List.getD_eq_getElem?_getD, List.getElem?_eq_none (by rw [← hw.len]; omega)]; rfl
        rw [← ho]; exact this
    cases hg : gd (wipeE e vs) v with
    | some d => exact q.set (key _ hg)
    | none =>
      have := q.set (i := v) (o := none) (key _ hg)
      rw [set_gd hl g2] at this
      exact this
/-- one step -/
def LS (Γ : Ctx) (vs : List Nat) (g : D → DE → Option DE) (ft : DE → Res Bool) (fe : DE → Res D) (d : D) (m : Option γ) (o : γ → Option D) (Γ' : γ → Ctx) : Prop := ∀ env, Fits Γ env → ∀ r, m = some r → ∃ env', lcStep vs g ft fe d env = some (o r, env') ∧ Fits (Γ' r) env'
theorem ls_map {Γ Γt Γe : Ctx} {vs : List Nat} {g : D → DE → Option DE} {fe : DE → Res D} {d y : D} (ht : TG Γ g d Γt) (he : PE Γt fe y Γe) : LS Γ vs g tYesF fe d (some ()) (fun _ => some y) (fun _ => wipeG Γe vs) := fun env q r _ => by
  obtain ⟨e1, h1, h2⟩ := ht env q
  obtain ⟨e2, h3, h4⟩ := he e1 h2
  exact ⟨_, by simp [lcStep, h1, h3], wipe_ok h4 vs⟩
theorem ls_mapM {Γ Γt : Ctx} {Γe : γ → Ctx} {vs : List Nat} {g : D → DE → Option DE} {fe : DE → Res D} {d : D} {m : Option γ} {e : γ → D} (ht : TG Γ g d Γt) (he : TE Γt fe m e Γe) : LS Γ vs g tYesF fe d m (fun r => some (e r)) (fun r => wipeG (Γe r) vs) := fun env q r hr => by
  obtain ⟨e1, h1, h2⟩ := ht env q
  obtain ⟨e2, h3, h4⟩ := he e1 h2 r hr
  exact ⟨_, by simp [lcStep, h1, h3], wipe_ok h4 vs⟩
/-- the core -/
def lcE (f : σ → α → Option (Option β × σ)) : List α → σ → Option (List β × σ)
  | [], s => some ([], s)
  | x :: xs, s => (f s x).bind fun p => (lcE f xs p.2).map fun q => (p.1.toList ++ q.1, q.2)
theorem lcL_e {C : DE → Prop} {vs : List Nat} {g : D → DE → Option DE} {ft : DE → Res Bool} {fe : DE → Res D} {ei : α → D} {eo : β → D} {Inv : σ → Ctx} {f : σ → α → Option (Option β × σ)} (hC : ∀ s env, Fits (Inv s) env → C env) (hs : ∀ s x env, Fits (Inv s) env → ∀ p, f s x = some p → ∃ env', lcStep vs g ft fe (ei x) env = some (p.1.map eo, env') ∧ Fits (Inv p.2) env') :
    ∀ (l : List α) (s : σ) (env : DE), Fits (Inv s) env → ∀ r, lcE f l s = some r → ∃ env', lcL C vs g ft fe (l.map ei) env = some (r.1.map eo, env') ∧ Fits (Inv r.2) env'
  | [], s, env, q, r, hr => by cases hr; exact ⟨env, rfl, q⟩
  | x :: xs, s, env, q, r, hr => by
    rw [lcE, Option.bind_eq_some_iff] at hr
    obtain ⟨p, hp, hr⟩ := hr
    rw [Option.map_eq_some_iff] at hr
    obtain ⟨w, hw, rfl⟩ := hr
    obtain ⟨e1, h1, h2⟩ := hs s x env q p hp
    obtain ⟨e2, h3, h4⟩ := lcL_e hC hs xs p.2 e1 h2 w hw
    refine ⟨e2, ?_, h4⟩
    rw [List.map_cons, lcL_step (hC s env q) h1, h3]
    cases p.1 <;> simp
theorem eLc_e {Γ1 : Ctx} {vs : List Nat} {fi : DE → Res Wk} {g : D → DE → Option DE} {ft : DE → Res Bool} {fe : DE → Res D} {ei : α → D} {eo : β → D} {Inv : σ → Ctx} {f : σ → α → Option (Option β × σ)} {l : List α} {a : Option (Nat × D)} {env e1 : DE} {s0 : σ} {r : List β × σ} (hi : fi env = .ok ⟨l.map ei, a⟩ e1) (q1 : Fits Γ1 e1) (hl : l.length ≤ sizeLine) (hv : ∀ p, a = some p → vs.contains p.1 = false)
    (hC : ∀ s env, Fits (Inv s) env → (Wk.mk (l.map ei) a).C env) (h0 : Sub (wipeG Γ1 vs) (Inv s0)) (hs : ∀ s x env, Fits (Inv s) env → ∀ p, f s x = some p → ∃ env', lcStep vs g ft fe (ei x) env = some (p.1.map eo, env') ∧ Fits (Inv p.2) env')
    (hr : lcE f l s0 = some r) (hn : NoV Γ1 vs (Inv r.2)) : ∃ env', eLc vs fi g ft fe env = .ok (.lst true (r.1.map eo)) env' ∧ Fits (restG Γ1 vs (Inv r.2)) env' := by
  obtain ⟨e2, h1, h2⟩ := lcL_e hC hs l s0 _ (h0 _ (wipe_ok q1 vs)) r hr
  refine ⟨restE e1 vs e2, ?_, rest_ok q1 vs _ _ h2 hn⟩
  rw [eLc_eq]; unfold eLc0
  rw [hi, Res.bind_ok, if_pos ⟨by simpa using hl, hv⟩, h1]
  dsimp only
  rw [if_pos (hC _ _ h2)]
/-! the five forms -/
def lcMap (l : List α) (F : α → β) : Option (List β) := if l.length ≤ sizeLine then some (l.map F) else none
def lcFil (l : List α) (p : α → Bool) (F : α → β) : Option (List β) := if l.length ≤ sizeLine then some ((l.filter p).map F) else none
def mapO (F : α → Option β) : List α → Option (List β)
  | [] => some []
  | x :: xs => (F x).bind fun y => (mapO F xs).map fun ys => y :: ys
def filO (p : α → Option Bool) (F : α → Option β) : List α → Option (List β)
  | [] => some []
  | x :: xs => (p x).bind fun b => if b = true then (F x).bind fun y => (filO p F xs).map fun ys => y :: ys else filO p F xs
def lcMapM (l : List α) (F : α → Option β) : Option (List β) := if l.length ≤ sizeLine then mapO F l else none
def lcFilM (l : List α) (p : α → Option Bool) (F : α → Option β) : Option (List β) := if l.length ≤ sizeLine then filO p F l else none
def lcS (f : σ → α → Option (Option β × σ)) (l : List α) (s : σ) : Option (List β × σ) := if l.length ≤ sizeLine then lcE f l s else none
theorem lcE_map (F : α → β) : ∀ l : List α, lcE (fun (_ : Unit) x => some (some (F x), ())) l () = some (l.map F, ())
  | [] => rfl
  | x :: xs => by simp [lcE, lcE_map F xs]
theorem lcE_fil (p : α → Bool) (F : α → β) : ∀ l : List α, lcE (fun (_ : Unit) x => some (if p x = true then some (F x) else none, ())) l () = some ((l.filter p).map F, ())
  | [] => rfl
  | x :: xs => by
    rw [lcE, Option.bind_some, lcE_fil p F xs]
    by_cases h : p x = true <;> simp [h]
theorem lcE_mapO (F : α → Option β) : ∀ (l : List α) (ys : List β), mapO F l = some ys → lcE (fun (_ : Unit) x => (F x).map fun y => (some y, ())) l () = some (ys, ())
  | [], ys, h => by cases h; rfl
  | x :: xs, ys, h => by
    rw [mapO, Option.bind_eq_some_iff] at h
    obtain ⟨y, h1, h⟩ := h
    rw [Option.map_eq_some_iff] at h
    obtain ⟨zs, h2, rfl⟩ := h
    rw [lcE, h1]
    simp [lcE_mapO F xs zs h2]
theorem lcE_filO (p : α → Option Bool) (F : α → Option β) : ∀ (l : List α) (ys : List β), filO p F l = some ys → lcE (fun (_ : Unit) x => (p x).bind fun b => if b = true then (F x).map fun y => (some y, ()) else some (none, ())) l () = some (ys, ())
  | [], ys, h => by cases h; rfl
  | x :: xs, ys, h => by
    rw [filO, Option.bind_eq_some_iff] at h
    obtain ⟨b, h0, h⟩ := h
    rw [lcE, h0, Option.bind_some]
    cases b with
    | true =>
      rw [if_pos rfl, Option.bind_eq_some_iff] at h
      obtain ⟨y, h1, h⟩ := h
      rw [Option.map_eq_some_iff] at h
      obtain ⟨zs, h2, rfl⟩ := h
      rw [if_pos rfl, h1]
      simp [lcE_filO p F xs zs h2]
    | false =>
      rw [if_neg Bool.false_ne_true] at h
      rw [if_neg Bool.false_ne_true]
      simp [lcE_filO p F xs ys h]
section
variable {Γ Γ1 Γw : Ctx} {Γ2 : α → Ctx} {vs : List Nat} {fi : DE → Res Wk} {g : D → DE → Option DE} {ft : DE → Res Bool} {fe : DE → Res D} {ei : α → D} {eo : β → D} {l : List α} {a : Option (Nat × D)}
/-- what must be so of the walk -/
structure LC (Γ1 Γw : Ctx) (vs : List Nat) (ds : List D) (a : Option (Nat × D)) : Prop where
  hv : ∀ p, a = some p → vs.contains p.1 = false
  hC : ∀ env, Fits Γw env → (Wk.mk ds a).C env
  h0 : Sub (wipeG Γ1 vs) Γw
  hn : NoV Γ1 vs Γw
theorem lc_n {ds : List D} (h0 : Sub (wipeG Γ1 vs) Γw) (hn : NoV Γ1 vs Γw) : LC Γ1 Γw vs ds none := { hv := (fun p h => by cases h), hC := (fun _ _ => trivial), h0 := h0, hn := hn }
theorem lc_s {ds : List D} {i : Nat} (hv : vs.contains i = false) (hi : Γw[i]? = some (Sl (Eq1 (.lst true ds)))) (h0 : Sub (wipeG Γ1 vs) Γw) (hn : NoV Γ1 vs Γw) : LC Γ1 Γw vs ds (some (i, .lst true ds)) where
  hv := fun p h => by cases h; exact hv
  hC := fun env q => by
    obtain ⟨d, h1, h2⟩ := q.sl hi
    cases h2; exact h1
  h0 := h0
  hn := hn
theorem te_lcMap {F : α → β} {Γt Γe : α → Ctx} (hi : PI Γ fi (l.map ei) a Γ1) (hc : LC Γ1 Γw vs (l.map ei) a) (ht : ∀ x, TG Γw g (ei x) (Γt x)) (he : ∀ x, PE (Γt x) fe (eo (F x)) (Γe x)) (hw : ∀ x, Sub (wipeG (Γe x) vs) Γw) : TE Γ (eLc vs fi g tYesF fe) (lcMap l F) (eLO eo) (fun _ => restG Γ1 vs Γw) := fun env q r hr => by
  unfold lcMap at hr
  split at hr
  · rename_i hl
    cases hr
    obtain ⟨e1, h1, h2⟩ := hi env q
    obtain ⟨e2, h3, h4⟩ := eLc_e (vs := vs) (g := g) (ft := tYesF) (fe := fe) (Inv := fun (_ : Unit) => Γw) (f := fun _ x => some (some (F x), ())) (eo := eo) h1 h2 hl hc.hv (fun _ => hc.hC) hc.h0 (fun _ x env q p hp => by
      cases hp
      obtain ⟨e3, h5, h6⟩ := ls_map (vs := vs) (ht x) (he x) env q () rfl
      exact ⟨e3, h5, hw x _ h6⟩) (lcE_map F l) hc.hn
    exact ⟨e2, h3, h4⟩
  · cases hr
theorem te_lcFil {p : α → Bool} {F : α → β} {Γt Γp Γe : α → Ctx} (hi : PI Γ fi (l.map ei) a Γ1) (hc : LC Γ1 Γw vs (l.map ei) a) (ht : ∀ x, TG Γw g (ei x) (Γt x)) (hp : ∀ x, PT (Γt x) ft (p x) (Γp x)) (he : ∀ x, PE (Γp x) fe (eo (F x)) (Γe x)) (hw : ∀ x, Sub (wipeG (Γe x) vs) Γw) (hw' : ∀ x, Sub (wipeG (Γp x) vs) Γw) : TE Γ (eLc vs fi g ft fe) (lcFil l p F) (eLO eo) (fun _ => restG Γ1 vs Γw) := fun env q r hr => by
  unfold lcFil at hr
  split at hr
  · rename_i hl
    cases hr
    obtain ⟨e1, h1, h2⟩ := hi env q
    obtain ⟨e2, h3, h4⟩ := eLc_e (vs := vs) (g := g) (ft := ft) (fe := fe) (Inv := fun (_ : Unit) => Γw) (f := fun _ x => some (if p x = true then some (F x) else none, ())) (eo := eo) h1 h2 hl hc.hv (fun _ => hc.hC) hc.h0 (fun _ x env q w hw1 => by
      cases hw1
      obtain ⟨e3, h5, h6⟩ := ht x env q
      obtain ⟨e4, h7, h8⟩ := hp x e3 h6
      by_cases hb : p x = true
      · obtain ⟨e5, h9, h10⟩ := he x e4 h8
        exact ⟨_, by simp [lcStep, h5, h7, hb, h9], hw x _ (wipe_ok h10 vs)⟩
      · exact ⟨_, by simp [lcStep, h5, h7, hb], hw' x _ (wipe_ok h8 vs)⟩) (lcE_fil p F l) hc.hn
    exact ⟨e2, h3, h4⟩
  · cases hr
theorem te_lcMapM {F : α → Option β} {Γt : α → Ctx} {Γe : α → β → Ctx} (hi : PI Γ fi (l.map ei) a Γ1) (hc : LC Γ1 Γw vs (l.map ei) a) (ht : ∀ x, TG Γw g (ei x) (Γt x)) (he : ∀ x, TE (Γt x) fe (F x) eo (Γe x)) (hw : ∀ x y, Sub (wipeG (Γe x y) vs) Γw) : TE Γ (eLc vs fi g tYesF fe) (lcMapM l F) (eLO eo) (fun _ => restG Γ1 vs Γw) := fun env q r hr => by
  unfold lcMapM at hr
  split at hr
  · rename_i hl
    obtain ⟨e1, h1, h2⟩ := hi env q
    obtain ⟨e2, h3, h4⟩ := eLc_e (vs := vs) (g := g) (ft := tYesF) (fe := fe) (Inv := fun (_ : Unit) => Γw) (f := fun _ x => (F x).map fun y => (some y, ())) (eo := eo) h1 h2 hl hc.hv (fun _ => hc.hC) hc.h0 (fun _ x env q p hp => by
      rw [Option.map_eq_some_iff] at hp
      obtain ⟨y, hy, rfl⟩ := hp
      obtain ⟨e3, h5, h6⟩ := ls_mapM (vs := vs) (ht x) (he x) env q y hy
      exact ⟨e3, h5, hw x y _ h6⟩) (lcE_mapO F l r hr) hc.hn
    exact ⟨e2, h3, h4⟩
  · cases hr
theorem te_lcFilM {p : α → Option Bool} {F : α → Option β} {Γt : α → Ctx} {Γp : α → Bool → Ctx} {Γe : α → β → Ctx} (hi : PI Γ fi (l.map ei) a Γ1) (hc : LC Γ1 Γw vs (l.map ei) a) (ht : ∀ x, TG Γw g (ei x) (Γt x)) (hp : ∀ x, TT (Γt x) ft (p x) id (Γp x)) (he : ∀ x, TE (Γp x true) fe (F x) eo (Γe x)) (hw : ∀ x y, Sub (wipeG (Γe x y) vs) Γw) (hw' : ∀ x, Sub (wipeG (Γp x false) vs) Γw) : TE Γ (eLc vs fi g ft fe) (lcFilM l p F) (eLO eo) (fun _ => restG Γ1 vs Γw) := fun env q r hr => by
  unfold lcFilM at hr
  split at hr
  · rename_i hl
    obtain ⟨e1, h1, h2⟩ := hi env q
    obtain ⟨e2, h3, h4⟩ := eLc_e (vs := vs) (g := g) (ft := ft) (fe := fe) (Inv := fun (_ : Unit) => Γw) (f := fun _ x => (p x).bind fun b => if b = true then (F x).map fun y => (some y, ()) else some (none, ())) (eo := eo) h1 h2 hl hc.hv (fun _ => hc.hC) hc.h0 (fun _ x env q w hw1 => by
      rw [Option.bind_eq_some_iff] at hw1
      obtain ⟨b, hb, hw1⟩ := hw1
      obtain ⟨e3, h5, h6⟩ := ht x env q
      obtain ⟨e4, h7, h8⟩ := hp x e3 h6 b hb
      cases b with
      | true =>
        rw [if_pos rfl, Option.map_eq_some_iff] at hw1
        obtain ⟨y, hy, rfl⟩ := hw1
        obtain ⟨e5, h9, h10⟩ := he x e4 h8 y hy
        exact ⟨_, by simp [lcStep, h5, h7, h9], hw x y _ (wipe_ok h10 vs)⟩
      | false =>
        cases hw1
        exact ⟨_, by simp [lcStep, h5, h7], hw' x _ (wipe_ok h8 vs)⟩) (lcE_filO p F l r hr) hc.hn
    exact ⟨e2, h3, h4⟩
  · cases hr
/-- with what changes -/
theorem te_lcS {Inv : σ → Ctx} {f : σ → α → Option (Option β × σ)} {s0 : σ} {e' : List β × σ → D} {Γ3 : List β × σ → Ctx} (hi : PI Γ fi (l.map ei) a Γ1) (hv : ∀ p, a = some p → vs.contains p.1 = false) (hC : ∀ s env, Fits (Inv s) env → (Wk.mk (l.map ei) a).C env) (h0 : Sub (wipeG Γ1 vs) (Inv s0)) (hn : ∀ s, NoV Γ1 vs (Inv s)) (hs : ∀ s x, LS (Inv s) vs g ft fe (ei x) (f s x) (fun p => p.1.map eo) (fun p => Inv p.2)) (he : ∀ r, e' r = .lst true (r.1.map eo)) (hg : ∀ r, Γ3 r = restG Γ1 vs (Inv r.2)) : TE Γ (eLc vs fi g ft fe) (lcS f l s0) e' Γ3 := fun env q r hr => by
  unfold lcS at hr
  split at hr
  · rename_i hl
    obtain ⟨e1, h1, h2⟩ := hi env q
    obtain ⟨e2, h3, h4⟩ := eLc_e (vs := vs) (g := g) (ft := ft) (fe := fe) (Inv := Inv) (f := f) (eo := eo) h1 h2 hl hv hC h0 (fun s x env q p hp => hs s x env q p hp) hr (hn r.2)
    exact ⟨e2, by rw [he]; exact h3, by rw [hg]; exact h4⟩
  · cases hr
end
/-! a partial walk ahead of the forms -/
theorem te_ti {Γ : Ctx} {Γ1 : γ → Ctx} {vs : List Nat} {fi : DE → Res Wk} {g : D → DE → Option DE} {ft : DE → Res Bool} {fe : DE → Res D} {m : Option γ} {ds : γ → List D} {k : γ → Option α} {e : α → D} {Γ3 : α → Ctx} (hi : TI Γ fi m ds Γ1) (h : ∀ x, TE (Γ1 x) (eLc vs (fun env => .ok ⟨ds x, none⟩ env) g ft fe) (k x) e Γ3) : TE Γ (eLc vs fi g ft fe) (m.bind k) e Γ3 := fun env q r hr => by
  rw [Option.bind_eq_some_iff] at hr
  obtain ⟨x, hx, hr⟩ := hr
  obtain ⟨e1, h1, h2⟩ := hi env q x hx
  obtain ⟨e2, h3, h4⟩ := h x e1 h2 r hr
  refine ⟨e2, ?_, h4⟩
  rw [← h3, eLc_eq, eLc_eq]
  unfold eLc0
  rw [h1]
theorem pi_ds {Γ : Ctx} {ds : List D} : PI Γ (fun env => .ok ⟨ds, none⟩ env) ds none Γ := fun env q => ⟨env, rfl, q⟩
/-- a step: a test, then a value; each may change what is held -/
theorem ls_e {γ δ : Type} {Γ Γt : Ctx} {Γp : γ → Ctx} {Γe : γ → δ → Ctx} {Inv : σ → Ctx} {vs : List Nat} {g : D → DE → Option DE} {ft : DE → Res Bool} {fe : DE → Res D} {d : D} {m : Option γ} {b : γ → Bool} {me : γ → Option δ} {e : γ → δ → D} {eo : β → D} {v : γ → δ → β} {s1 : γ → δ → σ} {s2 : γ → σ} (ht : TG Γ g d Γt) (hp : TT Γt ft m b Γp) (he : ∀ a, TE (Γp a) fe (me a) (e a) (Γe a)) (hv : ∀ a y, e a y = eo (v a y)) (hw : ∀ a y, Sub (wipeG (Γe a y) vs) (Inv (s1 a y))) (hw' : ∀ a, Sub (wipeG (Γp a) vs) (Inv (s2 a))) :
    LS Γ vs g ft fe d (m.bind fun a => if b a = true then (me a).map fun y => (some (v a y), s1 a y) else some (none, s2 a)) (fun p => p.1.map eo) (fun p => Inv p.2) := fun env q r hr => by
  rw [Option.bind_eq_some_iff] at hr
  obtain ⟨a, ha, hr⟩ := hr
  obtain ⟨e1, h1, h2⟩ := ht env q
  obtain ⟨e2, h3, h4⟩ := hp e1 h2 a ha
  by_cases hb : b a = true
  · rw [if_pos hb, Option.map_eq_some_iff] at hr
    obtain ⟨y, hy, rfl⟩ := hr
    obtain ⟨e3, h5, h6⟩ := he a e2 h4 y hy
    exact ⟨_, by simp [lcStep, h1, h3, hb, h5, hv], hw a y _ (wipe_ok h6 vs)⟩
  · rw [if_neg hb] at hr
    cases hr
    exact ⟨_, by simp [lcStep, h1, h3, hb], hw' a _ (wipe_ok h4 vs)⟩
theorem ls_e0 {δ : Type} {Γ Γt : Ctx} {Γe : δ → Ctx} {Inv : σ → Ctx} {vs : List Nat} {g : D → DE → Option DE} {fe : DE → Res D} {d : D} {me : Option δ} {e : δ → D} {eo : β → D} {v : δ → β} {s1 : δ → σ} (ht : TG Γ g d Γt) (he : TE Γt fe me e Γe) (hv : ∀ y, e y = eo (v y)) (hw : ∀ y, Sub (wipeG (Γe y) vs) (Inv (s1 y))) :
    LS Γ vs g tYesF fe d (me.map fun y => (some (v y), s1 y)) (fun p => p.1.map eo) (fun p => Inv p.2) := fun env q r hr => by
  rw [Option.map_eq_some_iff] at hr
  obtain ⟨y, hy, rfl⟩ := hr
  obtain ⟨e1, h1, h2⟩ := ht env q
  obtain ⟨e3, h5, h6⟩ := he e1 h2 y hy
  exact ⟨_, by simp [lcStep, h1, h5, hv], hw y _ (wipe_ok h6 vs)⟩
end
end Tr

set_option maxHeartbeats 2000000
/-! The typed layer 5: the operations by kinds. -/
namespace Tr
open PySem PySem.Spec PyProof.Rows L2
section
variable {α β γ : Type}
theorem op1_of {g : D → Rs D} {P : DP} {d : D} (h : ∀ x, P x → g x = .ok d) : OpT (d1 g) [P] d := fun ds a => match ds, a with
  | [x], a => h x a.1
theorem op1n_of {g : D → Rs D} {P : DP} {m : Option α} {e : α → D} (h : ∀ x, P x → ∀ r, m = some r → g x = .ok (e r)) : OpN (d1 g) [P] m e := fun ds a r hr => match ds, a with
  | [x], a => h x a.1 r hr
theorem op2_of {g : D → D → Rs D} {P Q : DP} {d : D} (h : ∀ x y, P x → Q y → g x y = .ok d) : OpT (d2 g) [P, Q] d := fun ds a => match ds, a with
  | [x, y], a => h x y a.1 a.2.1
theorem op2n_of {g : D → D → Rs D} {P Q : DP} {m : Option α} {e : α → D} (h : ∀ x y, P x → Q y → ∀ r, m = some r → g x y = .ok (e r)) : OpN (d2 g) [P, Q] m e := fun ds a r hr => match ds, a with
  | [x, y], a => h x y a.1 a.2.1 r hr
theorem op1_eq {g : D → Rs D} {a d : D} (h : g a = .ok d) : OpT (d1 g) [Eq1 a] d := op1_of fun x hx => by cases hx; exact h
theorem op2_eq {g : D → D → Rs D} {a b d : D} (h : g a b = .ok d) : OpT (d2 g) [Eq1 a, Eq1 b] d := op2_of fun x y hx hy => by cases hx; cases hy; exact h
theorem opn_eq {g : List D → Rs D} {a b d : D} (h : g [a, b] = .ok d) : OpT g [Eq1 a, Eq1 b] d := fun ds q => match ds, q with
  | [x, y], q => by cases q.1; cases q.2.1; exact h
/-! ints -/
section
variable {a b : Int}
theorem o_add : OpT (d2 dAdd) [Eq1 (.int a), Eq1 (.int b)] (.int (a + b)) := op2_eq rfl
theorem o_iadd : OpT (d2 dIadd) [Eq1 (.int a), Eq1 (.int b)] (.int (a + b)) := op2_eq rfl
theorem o_sub : OpT (d2 dSub) [Eq1 (.int a), Eq1 (.int b)] (.int (a - b)) := op2_eq rfl
theorem o_isub : OpT (d2 dIsub) [Eq1 (.int a), Eq1 (.int b)] (.int (a - b)) := op2_eq rfl
theorem o_neg : OpT (d1 dNeg) [Eq1 (.int a)] (.int (-a)) := op1_eq rfl
theorem o_abs : OpT (d1 dAbs) [Eq1 (.int a)] (.int (a.natAbs : Nat)) := op1_eq rfl
theorem o_lt : OpT (d2 dLt) [Eq1 (.int a), Eq1 (.int b)] (.bl (decide (a < b))) := op2_eq rfl
theorem o_le : OpT (d2 dLe) [Eq1 (.int a), Eq1 (.int b)] (.bl (decide (a ≤ b))) := op2_eq rfl
theorem o_gt : OpT (d2 dGt) [Eq1 (.int a), Eq1 (.int b)] (.bl (decide (b < a))) := op2_eq rfl
theorem o_ge : OpT (d2 dGe) [Eq1 (.int a), Eq1 (.int b)] (.bl (decide (b ≤ a))) := op2_eq rfl
def mulM (a b : Int) : Option Int := if mulOk a b = true then some (a * b) else none
def fdivM (a b : Int) : Option Int := if 0 < b ∧ b.natAbs.log2 < 9000 then some (a / b) else none
def modM (a b : Int) : Option Int := if 0 < b then some (a % b) else none
def powM (a b : Int) : Option Int := if powOk a b = true then some (a ^ b.toNat) else none
theorem o_mul : OpN (d2 dMul) [Eq1 (.int a), Eq1 (.int b)] (mulM a b) D.int := op2n_of fun x y hx hy r hr => by
  cases hx; cases hy; unfold mulM at hr; rw [mul_int]; split at hr
  · rename_i h; cases hr; rw [if_pos h]
  · cases hr
theorem o_fdiv : OpN (d2 dFdiv) [Eq1 (.int a), Eq1 (.int b)] (fdivM a b) D.int := op2n_of fun x y hx hy r hr => by
  cases hx; cases hy; unfold fdivM at hr; rw [fdiv_int]; split at hr
  · rename_i h; cases hr; rw [if_pos h]
  · cases hr
theorem o_mod : OpN (d2 dMod) [Eq1 (.int a), Eq1 (.int b)] (modM a b) D.int := op2n_of fun x y hx hy r hr => by
  cases hx; cases hy; unfold modM at hr; rw [mod_int]; split at hr
  · rename_i h; cases hr; rw [if_pos h]
  · cases hr
theorem o_pow : OpN (d2 dPow) [Eq1 (.int a), Eq1 (.int b)] (powM a b) D.int := op2n_of fun x y hx hy r hr => by
  cases hx; cases hy; unfold powM at hr; rw [pow_int']; split at hr
  · rename_i h; cases hr; rw [if_pos h]
  · cases hr
theorem o_max2 : OpT dMax [Eq1 (.int a), Eq1 (.int b)] (.int (max a b)) := opn_eq rfl
theorem o_min2 : OpT dMin [Eq1 (.int a), Eq1 (.int b)] (.int (min a b)) := opn_eq rfl
theorem o_int : OpT (d1 dInt) [Eq1 (.int a)] (.int a) := op1_eq rfl
theorem o_intb {b : Bool} : OpT (d1 dInt) [Eq1 (.bl b)] (.int (if b then 1 else 0)) := op1_eq rfl
end
theorem dInts_m : ∀ l : List Int, dInts? (l.map .int) = some l := dInts_map
theorem o_max : ∀ {l : List Int}, OpN dMax [LiU D.int l] l.max? D.int := fun ds q r hr => match ds, q with
  | [x], q => by
    obtain ⟨b, hb⟩ := q.1
    subst hb
    show (match (dInts? (List.map D.int _)).bind List.max? with | some m => _ | none => _) = _
    rw [dInts_m, Option.bind_some, hr]
theorem o_min : ∀ {l : List Int}, OpN dMin [LiU D.int l] l.min? D.int := fun ds q r hr => match ds, q with
  | [x], q => by
    obtain ⟨b, hb⟩ := q.1
    subst hb
    show (match (dInts? (List.map D.int _)).bind List.min? with | some m => _ | none => _) = _
    rw [dInts_m, Option.bind_some, hr]
/-! sequences -/
theorem atI_m {e : α → D} {l : List α} {k : Int} : atI (l.map e) k = (atI l k).map e := by
  unfold atI
  rw [List.length_map]
  cases ixN l.length k with
  | none => rfl
  | some j => simp
theorem o_ixT {e : α → D} {l : List α} {k : Int} : OpN (d2 dIx) [Eq1 (eTO e l), Eq1 (.int k)] (atI l k) e := op2n_of fun x y hx hy r hr => by
  cases hx; cases hy
  show (match atI (l.map e) k with | some d => Rs.ok d | none => .stuck) = _
  rw [atI_m, hr]; rfl
theorem o_ixL {e : α → D} {l : List α} {k : Int} (he : Imm e) : OpN (d2 dIx) [LiU e l, Eq1 (.int k)] (atI l k) e := op2n_of fun x y hx hy r hr => by
  obtain ⟨b, hx⟩ := hx
  cases hx; cases hy
  show (match atI (l.map e) k with | some d => if d.flag = true then Rs.stuck else .ok d | none => .stuck) = _
  rw [atI_m, hr]; simp [he.nf]
theorem o_ixS {l : List Int} {k : Int} : OpN (d2 dIx) [Eq1 (.scr l), Eq1 (.int k)] (atI l k) D.int := op2n_of fun x y hx hy r hr => by
  cases hx; cases hy
  show (match atI l k with | some n => Rs.ok (D.int n) | none => .stuck) = _
  rw [hr]
theorem o_lenT {e : α → D} {l : List α} : OpT (d1 dLen) [Eq1 (eTO e l)] (.int l.length) := op1_of fun x hx => by cases hx; simp [eTO]
theorem o_lenL {e : α → D} {l : List α} : OpT (d1 dLen) [LiU e l] (.int l.length) := op1_of fun x hx => by obtain ⟨b, hx⟩ := hx; cases hx; simp
theorem o_lenS {l : List Int} : OpT (d1 dLen) [Eq1 (.scr l)] (.int l.length) := op1_eq rfl
theorem o_sumT {l : List Int} : OpT (d1 dSum) [Eq1 (eTO D.int l)] (.int l.sum) := op1_of fun x hx => by cases hx; simp [eTO, dSum, dInts_map]
theorem o_sumL {l : List Int} : OpT (d1 dSum) [LiU D.int l] (.int l.sum) := op1_of fun x hx => by obtain ⟨b, hx⟩ := hx; cases hx; simp
theorem o_all {l : List Bool} : OpT (d1 dAll) [LiU D.bl l] (.bl (l.all id)) := op1_of fun x hx => by obtain ⟨b, hx⟩ := hx; cases hx; simp
theorem o_any {l : List Bool} : OpT (d1 dAny) [LiU D.bl l] (.bl (l.any id)) := op1_of fun x hx => by obtain ⟨b, hx⟩ := hx; cases hx; simp [dAny, dBls_map]
theorem o_sorted {l : List Int} : OpT (d1 dSorted) [LiU D.int l] (eLO D.int (isort l)) := op1_of fun x hx => by obtain ⟨b, hx⟩ := hx; cases hx; simp [dSorted, dInts_map, eLO]
def sortSetM (l : List Int) : Option (List Int) := if l.length < 60 then some (usort l) else none
theorem o_sortSet {l : List Int} : OpN (d1 dSortSet) [Eq1 (eTO D.int l)] (sortSetM l) (eLO D.int) := op1n_of fun x hx r hr => by
  cases hx
  unfold sortSetM at hr
  split at hr
  · rename_i h; cases hr; simp [dSortSet, eTO, dInts_map, h, eLO]
  · cases hr
theorem o_listT {e : α → D} {l : List α} : OpT (d1 dList) [Eq1 (eTO e l)] (eLO e l) := op1_of fun x hx => by cases hx; simp [eTO, dList, eLO]
theorem o_listL {e : α → D} {l : List α} (he : Imm e) : OpT (d1 dList) [LiU e l] (eLO e l) := op1_of fun x hx => by
  obtain ⟨b, hx⟩ := hx; cases hx
  show (if _ then _ else _) = _; rw [if_pos (nf_map he l)]; rfl
theorem o_listS {l : List Int} : OpT (d1 dList) [Eq1 (.scr l)] (eLO D.int l) := op1_eq rfl
theorem o_tupT {e : α → D} {l : List α} : OpT (d1 dTuple) [Eq1 (eTO e l)] (eTO e l) := op1_of fun x hx => by cases hx; simp [eTO]
theorem o_tupL {e : α → D} {l : List α} (he : Imm e) : OpT (d1 dTuple) [LiU e l] (eTO e l) := op1_of fun x hx => by
  obtain ⟨b, hx⟩ := hx; cases hx
  show (if _ then _ else _) = _; rw [if_pos (nf_map he l)]; rfl
theorem o_revT {e : α → D} {l : List α} : OpT (d1 dRev) [Eq1 (eTO e l)] (eTO e l.reverse) := op1_of fun x hx => by cases hx; simp [eTO, dRev]
theorem o_revL {e : α → D} {l : List α} (he : Imm e) : OpT (d1 dRev) [LiU e l] (eLO e l.reverse) := op1_of fun x hx => by
  obtain ⟨b, hx⟩ := hx; cases hx
  show (if _ then _ else _) = _; rw [if_pos (nf_map he l), ← List.map_reverse]; rfl
def catM (l m : List α) : Option (List α) := if l.length + m.length ≤ sizeLine then some (l ++ m) else none
theorem o_catT {e : α → D} {l m : List α} : OpN (d2 dAdd) [Eq1 (eTO e l), Eq1 (eTO e m)] (catM l m) (eTO e) := op2n_of fun x y hx hy r hr => by
  cases hx; cases hy
  unfold catM at hr
  split at hr
  · rename_i h; cases hr
    simp [eTO, dAdd, h]
  · cases hr
theorem o_catL {e : α → D} {l m : List α} (he : Imm e) : OpN (d2 dAdd) [LiU e l, LiU e m] (catM l m) (eLO e) := op2n_of fun x y hx hy r hr => by
  obtain ⟨b, hx⟩ := hx; obtain ⟨c, hy⟩ := hy
  cases hx; cases hy
  unfold catM at hr
  split at hr
  · rename_i h; cases hr
    have h1 := nf_map he l
    have h2 := nf_map he m
    unfold dAdd
    simp [h, h1, h2, eLO, he.nf]
  · cases hr
def repM (l : List α) (n : Int) : Option (List α) := if (-(2 ^ 63) ≤ n ∧ n < 2 ^ 63) ∧ l.length * n.toNat ≤ sizeLine then some (List.replicate n.toNat l).flatten else none
theorem flat_map {e : α → D} {l : List α} : ∀ n : Nat, (List.replicate n (l.map e)).flatten = ((List.replicate n l).flatten).map e
  | 0 => rfl
  | n + 1 => by rw [List.replicate_succ, List.flatten_cons, flat_map n, List.replicate_succ, List.flatten_cons, List.map_append]
theorem o_inT {a : Int} {l : List Int} : OpT (d2 (dIn false)) [Eq1 (.int a), Eq1 (eTO D.int l)] (.bl (decide (a ∈ l))) := op2_eq (by rw [eTO, in_tup]; simp)
theorem o_ninT {a : Int} {l : List Int} : OpT (d2 (dIn true)) [Eq1 (.int a), Eq1 (eTO D.int l)] (.bl (!decide (a ∈ l))) := op2_eq (by rw [eTO, in_tup]; simp)
theorem o_inL {a : Int} {l : List Int} : OpT (d2 (dIn false)) [Eq1 (.int a), LiU D.int l] (.bl (decide (a ∈ l))) := op2_of fun x y hx hy => by obtain ⟨b, hy⟩ := hy; cases hx; cases hy; rw [in_lst]; simp
theorem o_ninL {a : Int} {l : List Int} : OpT (d2 (dIn true)) [Eq1 (.int a), LiU D.int l] (.bl (!decide (a ∈ l))) := op2_of fun x y hx hy => by obtain ⟨b, hy⟩ := hy; cases hx; cases hy; rw [in_lst]; simp
/-! slices -/
def PO (Γ : Ctx) (f : DE → Res (Option Int)) (o : Option Int) : Prop := ∀ env, Fits Γ env → f env = .ok o env
theorem po_n {Γ : Ctx} : PO Γ oNo none := fun env q => rfl
theorem po_s {Γ : Ctx} {i : Nat} {k : Int} (hi : Γ[i]? = some (Sl (Eq1 (.int k)))) : PO Γ (oAt (xSlot i)) (some k) := fun env q => by
  obtain ⟨d, h1, h2⟩ := q.sl hi
  cases h2
  simp [h1]
/-- a bound that is told and changes nothing -/
def PE0 (Γ : Ctx) (f : DE → Res D) (d : D) : Prop := ∀ env, Fits Γ env → f env = .ok d env
def TO (Γ : Ctx) (f : DE → Res (Option Int)) (m : Option α) (o : α → Option Int) : Prop := ∀ env, Fits Γ env → ∀ r, m = some r → ∃ env', f env = .ok (o r) env' ∧ Fits Γ env'
theorem to_n {Γ : Ctx} : TO Γ oNo (some ()) (fun _ => none) := fun env q r _ => ⟨env, rfl, q⟩
theorem to_p {Γ : Ctx} {f : DE → Res L} {l : L} {k : Int} (h : PX Γ f l Γ) (r : Rd Γ l (Eq1 (.int k))) : TO Γ (oAt f) (some ()) (fun _ => some k) := fun env q _ _ => by
  obtain ⟨e1, h1, h2⟩ := h env q
  obtain ⟨d, h3, h4⟩ := r e1 h2
  cases h4
  exact ⟨e1, by simp [h1, h3], h2⟩
theorem to_m {Γ : Ctx} {f : DE → Res D} {m : Option α} {e : α → D} {k : α → Int} (h : TE Γ f m e fun _ => Γ) (he : ∀ r, e r = .int (k r)) : TO Γ (oAt (xOf f)) m (fun r => some (k r)) := fun env q r hr => by
  obtain ⟨e1, h1, h2⟩ := h env q r hr
  exact ⟨e1, by simp [h1, he], h2⟩
theorem cut_map {e : α → D} {l : List α} {lo hi : Option Int} : cutD (l.map e) lo hi = (cutD l lo hi).map e := by
  unfold cutD
  simp
theorem o_slT {e : α → D} {l : List α} {lo hi : Option Int} : ∀ d, Eq1 (eTO e l) d → dSl d lo hi = .ok (eTO e (cutD l lo hi)) := fun d h => by
  cases h
  show Rs.ok (D.tup (cutD (l.map e) lo hi)) = _
  rw [cut_map]; rfl
theorem o_slL {e : α → D} {l : List α} (he : Imm e) {lo hi : Option Int} : ∀ d, LiU e l d → dSl d lo hi = .ok (eLO e (cutD l lo hi)) := fun d h => by
  obtain ⟨b, h⟩ := h
  cases h
  show (if _ then _ else _) = _; rw [if_pos (nf_map he l), cut_map]; rfl
theorem pe_sl {Γ : Ctx} {gs : D → Option Int → Option Int → Rs D} {fa : DE → Res L} {fl fh : DE → Res (Option Int)} {la : L} {P : DP} {lo hi : Option Int} {d : D} {u v : Option Unit} (ha : PX Γ fa la Γ) (r : Rd Γ la P) (hl : TO Γ fl (some ()) fun _ => lo) (hh : TO Γ fh (some ()) fun _ => hi) (o : ∀ x, P x → gs x lo hi = .ok d) : PE Γ (eSl gs fa fl fh) d Γ := fun env q => by
  obtain ⟨e1, h1, h2⟩ := ha env q
  obtain ⟨e2, h3, h4⟩ := hl e1 h2 () rfl
  obtain ⟨e3, h5, h6⟩ := hh e2 h4 () rfl
  obtain ⟨x, r1, r2⟩ := r e3 h6
  exact ⟨e3, by simp [h1, h3, h5, r1, o x r2], h6⟩
theorem te_sl {δ : Type} {Γ : Ctx} {gs : D → Option Int → Option Int → Rs D} {fa : DE → Res L} {fl fh : DE → Res (Option Int)} {la : L} {P : DP} {m : Option α} {n : Option β} {lo : α → Option Int} {hi : β → Option Int} {d : Option Int → Option Int → δ} {e : δ → D} (ha : PX Γ fa la Γ) (r : Rd Γ la P) (hl : TO Γ fl m lo) (hh : TO Γ fh n hi) (o : ∀ l h x, P x → gs x l h = .ok (e (d l h))) : TE Γ (eSl gs fa fl fh) (m.bind fun a => n.map fun b => d (lo a) (hi b)) e fun _ => Γ := fun env q v hv => by
  rw [Option.bind_eq_some_iff] at hv
  obtain ⟨a, hm, hv⟩ := hv
  rw [Option.map_eq_some_iff] at hv
  obtain ⟨b, hn, rfl⟩ := hv
  obtain ⟨e1, h1, h2⟩ := ha env q
  obtain ⟨e2, h3, h4⟩ := hl e1 h2 a hm
  obtain ⟨e3, h5, h6⟩ := hh e2 h4 b hn
  obtain ⟨x, r1, r2⟩ := r e3 h6
  exact ⟨e3, by simp [h1, h3, h5, r1, o _ _ x r2], h6⟩
/-- the thing cut is partial -/
theorem te_slm {δ : Type} {Γ : Ctx} {gs : D → Option Int → Option Int → Rs D} {f : DE → Res D} {fl fh : DE → Res (Option Int)} {ma : Option γ} {ea : γ → D} {P : γ → DP} {m : Option α} {n : Option β} {lo : α → Option Int} {hi : β → Option Int} {d : γ → Option Int → Option Int → δ} {e : δ → D} (ha : TE Γ f ma ea fun _ => Γ) (r : ∀ x, P x (ea x)) (hl : TO Γ fl m lo) (hh : TO Γ fh n hi) (o : ∀ y l h x, P y x → gs x l h = .ok (e (d y l h))) : TE Γ (eSl gs (xOf f) fl fh) (ma.bind fun y => m.bind fun a => n.map fun b => d y (lo a) (hi b)) e fun _ => Γ := fun env q v hv => by
  rw [Option.bind_eq_some_iff] at hv
  obtain ⟨y, hy, hv⟩ := hv
  rw [Option.bind_eq_some_iff] at hv
  obtain ⟨a, hm, hv⟩ := hv
  rw [Option.map_eq_some_iff] at hv
  obtain ⟨b, hn, rfl⟩ := hv
  obtain ⟨e1, h1, h2⟩ := ha env q y hy
  obtain ⟨e2, h3, h4⟩ := hl e1 h2 a hm
  obtain ⟨e3, h5, h6⟩ := hh e2 h4 b hn
  exact ⟨e3, by simp [h1, h3, h5, o _ _ _ _ (r y)], h6⟩
/-! any values -/
def opB (r : Rs D) : Option Bool := match r with
  | .ok (.bl b) => some b
  | _ => none
def opI (r : Rs D) : Option Int := match r with
  | .ok (.int i) => some i
  | _ => none
def opU (r : Rs D) : Option U := match r with
  | .ok d => if h : d.flag = false then some ⟨d, h⟩ else none
  | _ => none
theorem opB_ok {r : Rs D} {b : Bool} (h : opB r = some b) : r = .ok (.bl b) := by
  unfold opB at h
  split at h
  · cases h; rfl
  · cases h
theorem opI_ok {r : Rs D} {b : Int} (h : opI r = some b) : r = .ok (.int b) := by
  unfold opI at h
  split at h
  · cases h; rfl
  · cases h
theorem opU_ok {r : Rs D} {b : U} (h : opU r = some b) : r = .ok (eU b) := by
  unfold opU at h
  split at h
  · split at h
    · cases h; rfl
    · cases h
  · cases h
theorem o_dB {g : D → D → Rs D} {a b : D} : OpN (d2 g) [Eq1 a, Eq1 b] (opB (g a b)) D.bl := op2n_of fun x y hx hy r hr => by cases hx; cases hy; exact opB_ok hr
theorem o_dI {g : D → D → Rs D} {a b : D} : OpN (d2 g) [Eq1 a, Eq1 b] (opI (g a b)) D.int := op2n_of fun x y hx hy r hr => by cases hx; cases hy; exact opI_ok hr
theorem o_dU {g : D → D → Rs D} {a b : D} : OpN (d2 g) [Eq1 a, Eq1 b] (opU (g a b)) eU := op2n_of fun x y hx hy r hr => by cases hx; cases hy; exact opU_ok hr
theorem o_1B {g : D → Rs D} {a : D} : OpN (d1 g) [Eq1 a] (opB (g a)) D.bl := op1n_of fun x hx r hr => by cases hx; exact opB_ok hr
theorem o_1I {g : D → Rs D} {a : D} : OpN (d1 g) [Eq1 a] (opI (g a)) D.int := op1n_of fun x hx r hr => by cases hx; exact opI_ok hr
theorem o_1U {g : D → Rs D} {a : D} : OpN (d1 g) [Eq1 a] (opU (g a)) eU := op1n_of fun x hx r hr => by cases hx; exact opU_ok hr
/-- the items of any value -/
def itU (x : U) : Option (List U) := match x.1.items with
  | some ds => if h : ∀ d ∈ ds, d.flag = false then some (ds.attach.map fun d => ⟨d.1, h d.1 d.2⟩) else none
  | none => none
theorem itU_ok {x : U} {l : List U} (h : itU x = some l) : x.1.items = some (l.map eU) := by
  unfold itU at h
  split at h
  · rename_i ds hd
    split at h
    · rename_i hf
      cases h
      rw [hd, List.map_map]
      congr 1
      show ds = ds.attach.map Subtype.val
      simp
    · cases h
  · cases h
theorem ti_u {Γ : Ctx} {f : DE → Res D} {x : U} (h : PE Γ f x.1 Γ) : TI Γ (iVal f) (itU x) (fun l => l.map eU) (fun _ => Γ) := fun env q r hr => by
  obtain ⟨e1, h1, h2⟩ := h env q
  exact ⟨e1, by simp [h1, itU_ok hr], h2⟩
theorem ti_us {Γ : Ctx} {i : Nat} {x : U} (hi : Γ[i]? = some (Sl (Eq1 x.1))) : TI Γ (iSlot i) (itU x) (fun l => l.map eU) (fun _ => Γ) := fun env q r hr => by
  obtain ⟨d, h1, h2⟩ := q.sl hi
  cases h2
  have hx := x.2
  refine ⟨env, ?_, q⟩
  rw [ap_iSlot, h1]
  have := itU_ok hr
  cases hd : x.1 with
  | lst o ds =>
    rw [hd] at this hx
    simp at hx; subst hx
    dsimp only; rw [this]
  | _ => rw [hd] at this; dsimp only; rw [this]
/-! equality -/
structure EqD (e : α → D) (n : Nat) : Prop where
  ex : ∀ x, ∃ p, (e x).py = some p ∧ p.canLay0 = true ∧ p.depth ≤ n
  eq : ∀ x y p q, (e x).py = some p → (e y).py = some q → (PyData.eqv p q = true ↔ x = y)
theorem eqd_int : EqD D.int 0 := ⟨fun x => ⟨.int x, by simp [D.py], by simp [PyData.canLay0], by simp [PyData.depth]⟩, fun x y p q hp hq => by
  simp only [D.py, Option.some.injEq] at hp hq; subst hp hq; simp [PyData.eqv]⟩
theorem eqd_bl : EqD D.bl 0 := ⟨fun x => ⟨.bool x, by simp [D.py], by simp [PyData.canLay0], by simp [PyData.depth]⟩, fun x y p q hp hq => by
  simp only [D.py, Option.some.injEq] at hp hq; subst hp hq; simp [PyData.eqv]⟩
theorem eqd_l {e : α → D} {n : Nat} (h : EqD e n) : ∀ l : List α, ∃ ps, pyL (l.map e) = some ps ∧ PyData.canLayAll0 ps = true ∧ PyData.depthAll ps ≤ n
  | [] => ⟨[], by simp [pyL], by simp [PyData.canLayAll0], by simp [PyData.depthAll]⟩
  | x :: xs => by
    obtain ⟨p, h1, h2, h3⟩ := h.ex x
    obtain ⟨ps, h4, h5, h6⟩ := eqd_l h xs
    exact ⟨p :: ps, by simp [pyL, h1, h4], by simp [PyData.canLayAll0, h2, h5], by simp [PyData.depthAll]; omega⟩
theorem eqd_le {e : α → D} {n : Nat} (h : EqD e n) : ∀ (l m : List α) (ps qs : List PyData), pyL (l.map e) = some ps → pyL (m.map e) = some qs → (PyData.eqvAll ps qs = true ↔ l = m)
  | [], [], ps, qs, hp, hq => by simp [pyL] at hp hq; subst hp hq; simp [PyData.eqvAll]
  | [], y :: m, ps, qs, hp, hq => by
    obtain ⟨p, h1, _⟩ := h.ex y
    obtain ⟨qs', h4, _⟩ := eqd_l h m
    simp [pyL, h1, h4] at hp hq
    subst hp hq
    simp [PyData.eqvAll]
  | x :: l, [], ps, qs, hp, hq => by
    obtain ⟨p, h1, _⟩ := h.ex x
    obtain ⟨qs', h4, _⟩ := eqd_l h l
    simp [pyL, h1, h4] at hp hq
    subst hp hq
    simp [PyData.eqvAll]
  | x :: l, y :: m, ps, qs, hp, hq => by
    obtain ⟨p, h1, _⟩ := h.ex x
    obtain ⟨q, h2, _⟩ := h.ex y
    obtain ⟨ps', h3, _⟩ := eqd_l h l
    obtain ⟨qs', h4, _⟩ := eqd_l h m
    simp [pyL, h1, h3] at hp
    simp [pyL, h2, h4] at hq
    subst hp hq
    have e1 := h.eq x y p q h1 h2
    have e2 := eqd_le h l m ps' qs' h3 h4
    simp only [PyData.eqvAll, Bool.and_eq_true, e1, e2, List.cons.injEq]
theorem eqd_to {e : α → D} {n : Nat} (h : EqD e n) : EqD (eTO e) (n + 1) := ⟨fun l => by
  obtain ⟨ps, h1, h2, h3⟩ := eqd_l h l
  exact ⟨.tuple ps, by simp [eTO, D.py, h1], by simp [PyData.canLay0, h2], by simp [PyData.depth]; omega⟩, fun l m p q hp hq => by
  obtain ⟨ps, h1, _⟩ := eqd_l h l
  obtain ⟨qs, h2, _⟩ := eqd_l h m
  simp [eTO, D.py, h1] at hp
  simp [eTO, D.py, h2] at hq
  subst hp hq
  simpa [PyData.eqv] using eqd_le h l m ps qs h1 h2⟩
theorem eqd_lo {e : α → D} {n : Nat} (h : EqD e n) : EqD (eLO e) (n + 1) := ⟨fun l => by
  obtain ⟨ps, h1, h2, h3⟩ := eqd_l h l
  exact ⟨.list ps, by simp [eLO, D.py, h1], by simp [PyData.canLay0, h2], by simp [PyData.depth]; omega⟩, fun l m p q hp hq => by
  obtain ⟨ps, h1, _⟩ := eqd_l h l
  obtain ⟨qs, h2, _⟩ := eqd_l h m
  simp [eLO, D.py, h1] at hp
  simp [eLO, D.py, h2] at hq
  subst hp hq
  simpa [PyData.eqv] using eqd_le h l m ps qs h1 h2⟩
theorem eqd_lf {e : α → D} {n : Nat} (h : EqD e n) : EqD (eLF e) (n + 1) := ⟨fun l => by
  obtain ⟨ps, h1, h2, h3⟩ := eqd_l h l
  exact ⟨.list ps, by simp [eLF, D.py, h1], by simp [PyData.canLay0, h2], by simp [PyData.depth]; omega⟩, fun l m p q hp hq => by
  obtain ⟨ps, h1, _⟩ := eqd_l h l
  obtain ⟨qs, h2, _⟩ := eqd_l h m
  simp [eLF, D.py, h1] at hp
  simp [eLF, D.py, h2] at hq
  subst hp hq
  simpa [PyData.eqv] using eqd_le h l m ps qs h1 h2⟩
theorem eqd_t2 {e : α → D} {f : β → D} {n m : Nat} (h : EqD e n) (k : EqD f m) : EqD (eT2 e f) (max n m + 1) := ⟨fun x => by
  obtain ⟨p, h1, h2, h3⟩ := h.ex x.1
  obtain ⟨q, k1, k2, k3⟩ := k.ex x.2
  exact ⟨.tuple [p, q], by simp [eT2, D.py, pyL, h1, k1], by simp [PyData.canLay0, PyData.canLayAll0, h2, k2], by simp [PyData.depth, PyData.depthAll]; omega⟩, fun x y p q hp hq => by
  obtain ⟨p1, h1, _⟩ := h.ex x.1
  obtain ⟨p2, h2, _⟩ := k.ex x.2
  obtain ⟨q1, h3, _⟩ := h.ex y.1
  obtain ⟨q2, h4, _⟩ := k.ex y.2
  simp [eT2, D.py, pyL, h1, h2] at hp
  simp [eT2, D.py, pyL, h3, h4] at hq
  subst hp hq
  have a := h.eq _ _ _ _ h1 h3
  have b := k.eq _ _ _ _ h2 h4
  simp [PyData.eqv, PyData.eqvAll, a, b, Prod.ext_iff]⟩
theorem eqd_t3 {e : α → D} {f : β → D} {g : γ → D} {n m k : Nat} (h : EqD e n) (hf : EqD f m) (hg : EqD g k) : EqD (eT3 e f g) (max n (max m k) + 1) := ⟨fun x => by
  obtain ⟨p, h1, h2, h3⟩ := h.ex x.1
  obtain ⟨q, k1, k2, k3⟩ := hf.ex x.2.1
  obtain ⟨r, r1, r2, r3⟩ := hg.ex x.2.2
  exact ⟨.tuple [p, q, r], by simp [eT3, D.py, pyL, h1, k1, r1], by simp [PyData.canLay0, PyData.canLayAll0, h2, k2, r2], by simp [PyData.depth, PyData.depthAll]; omega⟩, fun x y p q hp hq => by
  obtain ⟨p1, h1, _⟩ := h.ex x.1
  obtain ⟨p2, h2, _⟩ := hf.ex x.2.1
  obtain ⟨p3, h5, _⟩ := hg.ex x.2.2
  obtain ⟨q1, h3, _⟩ := h.ex y.1
  obtain ⟨q2, h4, _⟩ := hf.ex y.2.1
  obtain ⟨q3, h6, _⟩ := hg.ex y.2.2
  simp [eT3, D.py, pyL, h1, h2, h5] at hp
  simp [eT3, D.py, pyL, h3, h4, h6] at hq
  subst hp hq
  have a := h.eq _ _ _ _ h1 h3
  have b := hf.eq _ _ _ _ h2 h4
  have c := hg.eq _ _ _ _ h5 h6
  simp [PyData.eqv, PyData.eqvAll, a, b, c, Prod.ext_iff]⟩
theorem eqd_op {e : α → D} {n : Nat} [DecidableEq α] (h : EqD e n) (hn : n ≤ 64) (b : Bool) (x y : α) : dEq b (e x) (e y) = .ok (.bl (if b then !decide (x = y) else decide (x = y))) := by
  obtain ⟨p, h1, h2, h3⟩ := h.ex x
  obtain ⟨q, k1, k2, k3⟩ := h.ex y
  have s1 : SeqAt.shaped p = true := by simp [SeqAt.shaped, h2]; omega
  have s2 : SeqAt.shaped q = true := by simp [SeqAt.shaped, k2]; omega
  have e1 : PyData.eqv p q = decide (x = y) := by
    rw [Bool.eq_iff_iff, h.eq x y p q h1 k1]; simp
  unfold dEq
  rw [h1, k1]
  dsimp only
  rw [s1, s2, e1]; rfl
theorem o_eq {e : α → D} {n : Nat} [DecidableEq α] {x y : α} (h : EqD e n) (hn : n ≤ 64) : OpT (d2 (dEq false)) [Eq1 (e x), Eq1 (e y)] (.bl (decide (x = y))) := op2_eq (eqd_op h hn false x y)
theorem o_ne {e : α → D} {n : Nat} [DecidableEq α] {x y : α} (h : EqD e n) (hn : n ≤ 64) : OpT (d2 (dEq true)) [Eq1 (e x), Eq1 (e y)] (.bl (!decide (x = y))) := op2_eq (eqd_op h hn true x y)
theorem py_li {e : α → D} {l : List α} {b : Bool} : (D.lst b (l.map e)).py = (eLO e l).py := by simp [eLO, D.py]
theorem o_eqL {e : α → D} {n : Nat} [DecidableEq α] {x y : List α} (h : EqD e n) (hn : n < 64) : OpT (d2 (dEq false)) [LiU e x, LiU e y] (.bl (decide (x = y))) := op2_of fun d d' hd hd' => by
  obtain ⟨b, hd⟩ := hd; obtain ⟨c, hd'⟩ := hd'
  subst hd hd'
  have q := eqd_op (eqd_lo h) (by omega) false x y
  unfold dEq at q ⊢
  rw [py_li, py_li]; exact q
theorem o_neL {e : α → D} {n : Nat} [DecidableEq α] {x y : List α} (h : EqD e n) (hn : n < 64) : OpT (d2 (dEq true)) [LiU e x, LiU e y] (.bl (!decide (x = y))) := op2_of fun d d' hd hd' => by
  obtain ⟨b, hd⟩ := hd; obtain ⟨c, hd'⟩ := hd'
  subst hd hd'
  have q := eqd_op (eqd_lo h) (by omega) true x y
  unfold dEq at q ⊢
  rw [py_li, py_li]; exact q
/-- texts -/
def eqS (x y : Str) : Option Bool := if (SeqAt.shaped (.str x) && SeqAt.shaped (.str y)) = true then some (decide (x = y)) else none
theorem o_eqS {x y : Str} : OpN (d2 (dEq false)) [Eq1 (.str x), Eq1 (.str y)] (eqS x y) D.bl := op2n_of fun a b ha hb r hr => by
  cases ha; cases hb
  unfold eqS at hr
  split at hr
  · rename_i h
    cases hr
    have h : PyData.eqv (.str x) (.str y) = decide (x = y) := by by_cases q : x = y <;> simp [PyData.eqv, q]
    simp_all [dEq, D.py]
  · cases hr
theorem o_neS {x y : Str} : OpN (d2 (dEq true)) [Eq1 (.str x), Eq1 (.str y)] ((eqS x y).map fun b => !b) D.bl := op2n_of fun a b ha hb r hr => by
  cases ha; cases hb
  rw [Option.map_eq_some_iff] at hr
  obtain ⟨c, hr, rfl⟩ := hr
  unfold eqS at hr
  split at hr
  · rename_i h
    cases hr
    have h : PyData.eqv (.str x) (.str y) = decide (x = y) := by by_cases q : x = y <;> simp [PyData.eqv, q]
    simp_all [dEq, D.py]
  · cases hr
/-! counts, walks by number and in pairs -/
theorem o_count {l : List Int} {k : Int} : OpT (d2 dCount) [LiU D.int l, Eq1 (.int k)] (.int (l.count k : Nat)) := op2_of fun x y hx hy => by
  obtain ⟨b, hx⟩ := hx; cases hx; cases hy
  simp [dCount, dInts_map]
theorem pe_count {Γ : Ctx} {fa fb : DE → Res L} {la lb : L} {l : List Int} {k : Int} (ha : PX Γ fa la Γ) (ra : Rd Γ la (LiU D.int l)) (hb : PX Γ fb lb Γ) (rb : Rd Γ lb (Eq1 (.int k))) : PE Γ (eMt1 isLst dCount fa fb) (.int (l.count k : Nat)) Γ := fun env q => by
  obtain ⟨e1, h1, h2⟩ := ha env q
  obtain ⟨x, r1, b, r2⟩ := ra e1 h2
  obtain ⟨e2, h3, h4⟩ := hb e1 h2
  obtain ⟨x', r3, b', r4⟩ := ra e2 h4
  obtain ⟨y, r5, r6⟩ := rb e2 h4
  subst r2 r4; cases r6
  exact ⟨e2, by simp [h1, r1, isLst, h3, r3, r5, dCount, dInts_map], h4⟩
theorem te_countm {Γ : Ctx} {fa : DE → Res L} {f : DE → Res D} {la : L} {l : List Int} {m : Option Int} (ha : PX Γ fa la Γ) (ra : Rd Γ la (LiU D.int l)) (hb : TE Γ f m D.int fun _ => Γ) : TE Γ (eMt1 isLst dCount fa (xOf f)) (m.map fun k => ((l.count k : Nat) : Int)) D.int fun _ => Γ := fun env q r hr => by
  rw [Option.map_eq_some_iff] at hr
  obtain ⟨k, hk, rfl⟩ := hr
  obtain ⟨e1, h1, h2⟩ := ha env q
  obtain ⟨x, r1, b, r2⟩ := ra e1 h2
  obtain ⟨e2, h3, h4⟩ := hb e1 h2 k hk
  obtain ⟨x', r3, b', r4⟩ := ra e2 h4
  subst r2 r4
  exact ⟨e2, by simp [h1, r1, isLst, h3, r3, dCount, dInts_map], h4⟩
def enumL : Nat → List α → List (Int × α)
  | _, [] => []
  | k, x :: xs => ((k : Nat), x) :: enumL (k + 1) xs
theorem enumD_m {e : α → D} : ∀ (l : List α) (k : Nat), enumD k (l.map e) = (enumL k l).map (eT2 D.int e)
  | [], k => rfl
  | x :: xs, k => by simp [enumD, enumL, enumD_m xs, eT2]
theorem zipD_m {e : α → D} {f : β → D} : ∀ (l : List α) (m : List β), zipD (l.map e) (m.map f) = (l.zip m).map (eT2 e f)
  | [], m => by simp [zipD]
  | _ :: _, [] => by simp [zipD]
  | x :: xs, y :: ys => by simp [zipD, zipD_m xs ys, eT2]
@[simp] theorem ap_enum0 {fa e} : iEnumerate fa e = (fa e).bind fun ls e1 => match ls with
  | [l] => (match frzS l e1 with
    | some (.lst _ ds, e2) => .ok ⟨enumD 0 ds, none⟩ e2
    | _ => .stuck)
  | _ => .stuck := (rfl)
theorem pi_en_s {Γ : Ctx} {i : Nat} {e : α → D} {l : List α} (hi : Γ[i]? = some (Sl (LiU e l))) (he : Imm e) : PI Γ (iEnumerate (aCons (xSlot i) aNil)) ((enumL 0 l).map (eT2 D.int e)) none (Γ.set i (Sl (Eq1 (.lst false (l.map e))))) := fun env q => by
  obtain ⟨d, h1, b, h2⟩ := q.sl hi
  subst h2
  cases b with
  | true => exact ⟨env.set i (some (.lst false (l.map e))), by simp [h1, frzL_map' he, enumD_m], q.set ⟨_, rfl, rfl⟩⟩
  | false =>
    refine ⟨env, by simp [h1, enumD_m], ?_⟩
    have h := q.set (i := i) (a := Sl (Eq1 (.lst false (l.map e)))) (o := some (.lst false (l.map e))) ⟨_, rfl, rfl⟩
    rw [set_gd (gd_lt h1) h1] at h
    exact h
theorem sl_un {Γ : Ctx} {i : Nat} {e : α → D} {l : List α} {b : Bool} (hi : Γ[i]? = some (Sl (Eq1 (.lst b (l.map e))))) : ∀ env, Fits Γ env → Fits (Γ.set i (Sl (LiU e l))) env := fun env q => by
  obtain ⟨d, h1, h2⟩ := q.sl hi
  have h := q.set (i := i) (a := Sl (LiU e l)) (o := gd env i) ⟨d, h1, b, h2⟩
  rw [set_gd (gd_lt h1) rfl] at h
  exact h
theorem ti_en {Γ : Ctx} {f : DE → Res D} {m : Option γ} {e : γ → D} {ei : α → D} {l : γ → List α} {Γ1 : γ → Ctx} (h : TE Γ f m e Γ1) (hd : ∀ r, ∃ b, (e r).frz = .lst b ((l r).map ei)) : TI Γ (iEnumerate (aCons (xOf f) aNil)) m (fun r => (enumL 0 (l r)).map (eT2 D.int ei)) Γ1 := fun env q r hr => by
  obtain ⟨e1, h1, h2⟩ := h env q r hr
  obtain ⟨b, hb⟩ := hd r
  exact ⟨e1, by simp [h1, hb, enumD_m], h2⟩
/-- two tuples walked side by side -/
theorem pi_zipT {Γ Γ' : Ctx} {fa : DE → Res (List L)} {la lb : L} {e : α → D} {f : β → D} {l : List α} {m : List β} (h : TAp Γ fa [la, lb] Γ') (ra : Rd Γ' la (Eq1 (eTO e l))) (rb : Rd Γ' lb (Eq1 (eTO f m))) : PI Γ (iZip2 fa) ((l.zip m).map (eT2 e f)) none Γ' := fun env q => by
  obtain ⟨e1, h1, h2⟩ := h env q
  obtain ⟨x, r1, r2⟩ := ra e1 h2
  obtain ⟨y, r3, r4⟩ := rb e1 h2
  cases r2; cases r4
  have z : ∀ {γ : Type} {k : γ → D} {n : List γ} {l : L}, lget l e1 = some (eTO k n) → frzS l e1 = some (eTO k n, e1) := by
    intro γ k n l hl
    cases l with
    | v d => cases hl; simp [eTO]
    | s i => rw [lg_s] at hl; simp [hl, eTO]
  exact ⟨e1, by simp [h1, z r3, z r1]; simp [eTO, zipD_m], h2⟩
theorem ti_zipT {Γ : Ctx} {Γ' : γ → Ctx} {fa : DE → Res (List L)} {mo : Option γ} {ls : γ → List L} {la lb : γ → L} {e : α → D} {f : β → D} {l : γ → List α} {m : γ → List β} (h : TA Γ fa mo ls Γ') (hl : ∀ x, ls x = [la x, lb x]) (ra : ∀ x, Rd (Γ' x) (la x) (Eq1 (eTO e (l x)))) (rb : ∀ x, Rd (Γ' x) (lb x) (Eq1 (eTO f (m x)))) : TI Γ (iZip2 fa) mo (fun x => ((l x).zip (m x)).map (eT2 e f)) Γ' := fun env q r hr => by
  obtain ⟨e1, h1, h2⟩ := h env q r hr
  obtain ⟨x, r1, r2⟩ := ra r e1 h2
  obtain ⟨y, r3, r4⟩ := rb r e1 h2
  cases r2; cases r4
  have z : ∀ {γ : Type} {k : γ → D} {n : List γ} {l : L}, lget l e1 = some (eTO k n) → frzS l e1 = some (eTO k n, e1) := by
    intro γ k n l hl
    cases l with
    | v d => cases hl; simp [eTO]
    | s i => rw [lg_s] at hl; simp [hl, eTO]
  exact ⟨e1, by simp [h1, hl, z r3, z r1]; simp [eTO, zipD_m], h2⟩
/-- two lists side by side, by slots of owned or frozen ones, or values -/
theorem ti_pi {Γ Γ' : Ctx} {fi : DE → Res Wk} {ds : List D} (h : PI Γ fi ds none Γ') : TI Γ fi (some ()) (fun _ => ds) (fun _ => Γ') := fun env q r _ => h env q
/-! lists that change -/
def appM (l : List α) (x : α) : Option (List α) := if l.length < sizeLine then some (l ++ [x]) else none
theorem te_app {Γ : Ctx} {i : Nat} {f : DE → Res D} {e : α → D} {l : List α} {x : α} (hi : Γ[i]? = some (Sl (Eq1 (.lst true (l.map e))))) (h : PE Γ f (e x) Γ) : TE Γ (eApp i f) (appM l x) (fun _ => .non) (fun r => Γ.set i (Sl (Eq1 (.lst true (r.map e))))) := fun env q r hr => by
  unfold appM at hr
  split at hr
  · rename_i hl
    cases hr
    obtain ⟨d, h1, h2⟩ := q.sl hi
    cases h2
    obtain ⟨e1, h3, h4⟩ := h env q
    obtain ⟨d, h5, h6⟩ := h4.sl hi
    cases h6
    exact ⟨e1.set i (some (.lst true ((l ++ [x]).map e))), by simp [h1, h3, h5, hl], h4.set ⟨_, rfl, rfl⟩⟩
  · cases hr
theorem te_appm {Γ : Ctx} {i : Nat} {f : DE → Res D} {e : α → D} {l : List α} {m : Option γ} {v : γ → α} {ef : γ → D} {Γ1 : γ → Ctx} (hi : Γ[i]? = some (Sl (Eq1 (.lst true (l.map e))))) (h : TE Γ f m ef Γ1) (hi1 : ∀ r, (Γ1 r)[i]? = some (Sl (Eq1 (.lst true (l.map e))))) (hv : ∀ r, ef r = e (v r)) : TE Γ (eApp i f) (m.bind fun r => (appM l (v r)).map fun l' => (l', r)) (fun _ => .non) (fun r => (Γ1 r.2).set i (Sl (Eq1 (.lst true (r.1.map e))))) := fun env q r hr => by
  rw [Option.bind_eq_some_iff] at hr
  obtain ⟨a, ha, hr⟩ := hr
  rw [Option.map_eq_some_iff] at hr
  obtain ⟨l', hl', rfl⟩ := hr
  unfold appM at hl'
  split at hl'
  · rename_i hl
    cases hl'
    obtain ⟨d, h1, h2⟩ := q.sl hi
    cases h2
    obtain ⟨e1, h3, h4⟩ := h env q a ha
    obtain ⟨d, h5, h6⟩ := h4.sl (hi1 a)
    cases h6
    exact ⟨e1.set i (some (.lst true ((l ++ [v a]).map e))), by simp [h1, h3, h5, hl, hv], h4.set ⟨_, rfl, rfl⟩⟩
  · cases hl'
@[simp] theorem ap_ext0 {i f e} : eExt i f e = match gd e i with
  | some (.lst true _) => (f e).bind fun d e1 => match d, gd e1 i with
    | .lst _ es, some (.lst true ds) => if es.all (fun d => !d.flag) = true ∧ ds.length + es.length ≤ sizeLine then .ok .non (e1.set i (some (.lst true (ds ++ es)))) else .stuck
    | _, _ => .stuck
  | _ => .stuck := (rfl)
theorem te_extm {Γ : Ctx} {i : Nat} {f : DE → Res D} {e : α → D} {l : List α} {m : Option γ} {v : γ → List α} {ef : γ → D} {Γ1 : γ → Ctx} (he : Imm e) (hi : Γ[i]? = some (Sl (Eq1 (.lst true (l.map e))))) (h : TE Γ f m ef Γ1) (hi1 : ∀ r, (Γ1 r)[i]? = some (Sl (Eq1 (.lst true (l.map e))))) (hv : ∀ r, ∃ b, ef r = .lst b ((v r).map e)) : TE Γ (eExt i f) (m.bind fun r => (catM l (v r)).map fun l' => (l', r)) (fun _ => .non) (fun r => (Γ1 r.2).set i (Sl (Eq1 (.lst true (r.1.map e))))) := fun env q r hr => by
  rw [Option.bind_eq_some_iff] at hr
  obtain ⟨a, ha, hr⟩ := hr
  rw [Option.map_eq_some_iff] at hr
  obtain ⟨l', hl', rfl⟩ := hr
  unfold catM at hl'
  split at hl'
  · rename_i hl
    cases hl'
    obtain ⟨d, h1, h2⟩ := q.sl hi
    cases h2
    obtain ⟨e1, h3, h4⟩ := h env q a ha
    obtain ⟨d, h5, h6⟩ := h4.sl (hi1 a)
    cases h6
    obtain ⟨b, hb⟩ := hv a
    have nf := nf_map he (v a)
    exact ⟨e1.set i (some (.lst true ((l ++ v a).map e))), by
      rw [ap_ext0, h1]; dsimp only; rw [h3, Res.bind_ok, hb, h5]; dsimp only
      rw [if_pos ⟨nf, by simpa using hl⟩, List.map_append], h4.set ⟨_, rfl, rfl⟩⟩
  · cases hl'
def setM (l : List α) (k : Int) (x : α) : Option (List α) := (ixN l.length k).map fun j => l.set j x
/-- xs[k] = v -/
theorem tb_setix {Γ : Ctx} {i : Nat} {f : DE → Res D} {fi : DE → Res L} {m : Option γ} {ef : γ → D} {e : α → D} {v : γ → α} {Γ1 : γ → Ctx} {l : γ → List α} {lk : γ → L} {k : γ → Int} (h : TE Γ f m ef Γ1) (hv : ∀ r, ef r = e (v r)) (hi : ∀ r, (Γ1 r)[i]? = some (Sl (Eq1 (.lst true ((l r).map e))))) (hk : ∀ r, PX (Γ1 r) fi (lk r) (Γ1 r)) (rk : ∀ r, Rd (Γ1 r) (lk r) (Eq1 (.int (k r)))) : TB Γ (sAsg f (gIx i fi)) (m.bind fun r => (setM (l r) (k r) (v r)).map fun l' => (l', r)) (fun r => (Γ1 r.2).set i (Sl (Eq1 (.lst true (r.1.map e))))) := fun env q r hr => by
  rw [Option.bind_eq_some_iff] at hr
  obtain ⟨a, ha, hr⟩ := hr
  rw [Option.map_eq_some_iff] at hr
  obtain ⟨l', hl', rfl⟩ := hr
  unfold setM at hl'
  rw [Option.map_eq_some_iff] at hl'
  obtain ⟨j, hj, rfl⟩ := hl'
  obtain ⟨e1, h1, h2⟩ := h env q a ha
  obtain ⟨d0, g1, g2⟩ := h2.sl (hi a)
  obtain ⟨e2, h3, h4⟩ := hk a e1 h2
  obtain ⟨dk, h5, h6⟩ := rk a e2 h4
  cases h6
  obtain ⟨d, g3, g4⟩ := h4.sl (hi a)
  cases g4; cases g2
  refine ⟨e2.set i (some (.lst true (((l a).set j (v a)).map e))), ?_, h4.set ⟨_, rfl, rfl⟩⟩
  rw [ap_sAsg, h1, Res.toS_ok, ap_gIx, g1]
  dsimp only
  rw [h3]; dsimp only
  rw [h5]; dsimp only
  rw [g3]; dsimp only
  rw [List.length_map, hj]; dsimp only
  rw [hv, List.map_set]
/-! tuples of names -/
@[simp] theorem ap_aug {g i f e} : sAug g i f e = match gd e i with
  | some d0 => if d0.flag = true then .stuck else (f e).toS fun d e1 => ((g d0 d).at e1).toS fun r e2 => if i < e2.length then .nx (e2.set i (some r)) else .stuck
  | none => .stuck := (rfl)
theorem tb_par2 {Γ Γ1 : Ctx} {i j : Nat} {fa : DE → Res (List L)} {d d' : D} (h : TAp Γ fa [.v d, .v d'] Γ1) (hi : i < Γ1.length) (hj : j < Γ1.length) : TBp Γ (sPar2 i j fa) ((Γ1.set i (Sl (Eq1 d))).set j (Sl (Eq1 d'))) := fun env q => by
  obtain ⟨e1, h1, h2⟩ := h env q
  have l1 : i < e1.length := by rw [← h2.len]; exact hi
  have l2 : j < e1.length := by rw [← h2.len]; exact hj
  exact ⟨_, by simp [h1, l1, l2], (h2.set ⟨_, rfl, rfl⟩).set ⟨_, rfl, rfl⟩⟩
theorem tb_par2m {Γ : Ctx} {Γ1 : γ → Ctx} {i j : Nat} {fa : DE → Res (List L)} {m : Option γ} {ls : γ → List L} {d d' : γ → D} (h : TA Γ fa m ls Γ1) (hl : ∀ r, ls r = [.v (d r), .v (d' r)]) (hi : ∀ r, i < (Γ1 r).length) (hj : ∀ r, j < (Γ1 r).length) : TB Γ (sPar2 i j fa) m (fun r => ((Γ1 r).set i (Sl (Eq1 (d r)))).set j (Sl (Eq1 (d' r)))) := fun env q r hr => by
  obtain ⟨e1, h1, h2⟩ := h env q r hr
  have l1 : i < e1.length := by rw [← h2.len]; exact hi r
  have l2 : j < e1.length := by rw [← h2.len]; exact hj r
  exact ⟨_, by simp [h1, hl, l1, l2], (h2.set ⟨_, rfl, rfl⟩).set ⟨_, rfl, rfl⟩⟩
theorem tb_aug {Γ : Ctx} {i : Nat} {g : D → D → Rs D} {f : DE → Res D} {d0 d r : D} (hi : Γ[i]? = some (Sl (Eq1 d0))) (hf : d0.flag = false) (h : PE Γ f d Γ) (o : OpT (d2 g) [Eq1 d0, Eq1 d] r) : TBp Γ (sAug g i f) (Γ.set i (Sl (Eq1 r))) := fun env q => by
  obtain ⟨x, h1, h2⟩ := q.sl hi
  cases h2
  obtain ⟨e1, h3, h4⟩ := h env q
  have o1 : g d0 d = .ok r := o [d0, d] ⟨rfl, rfl, trivial⟩
  have hl : i < e1.length := by rw [← h4.len]; exact lt_of_get hi
  refine ⟨e1.set i (some r), ?_, h4.set ⟨_, rfl, rfl⟩⟩
  simp [h1, hf, h3, o1, hl]
theorem tb_augm {Γ : Ctx} {i : Nat} {g : D → D → Rs D} {f : DE → Res D} {d0 : D} {m : Option γ} {e : γ → D} {Γ1 : γ → Ctx} {v : γ → D} (hi : Γ[i]? = some (Sl (Eq1 d0))) (hf : d0.flag = false) (h : TE Γ f m e Γ1) (hl : ∀ r, i < (Γ1 r).length) (o : ∀ r, OpT (d2 g) [Eq1 d0, Eq1 (e r)] (v r)) : TB Γ (sAug g i f) m (fun r => (Γ1 r).set i (Sl (Eq1 (v r)))) := fun env q r hr => by
  obtain ⟨x, h1, h2⟩ := q.sl hi
  cases h2
  obtain ⟨e1, h3, h4⟩ := h env q r hr
  have o1 : g d0 (e r) = .ok (v r) := o r [d0, e r] ⟨rfl, rfl, trivial⟩
  have hl : i < e1.length := by rw [← h4.len]; exact hl r
  refine ⟨e1.set i (some (v r)), ?_, h4.set ⟨_, rfl, rfl⟩⟩
  simp [h1, hf, h3, o1, hl]
end
end Tr

set_option maxHeartbeats 2000000
/-! The typed layer 6: odds and ends. -/
namespace Tr
open PySem PySem.Spec PyProof.Rows L2
section
variable {α β γ δ : Type} {I : α → SRes → Prop}
theorem pe_fz {Γ Γ' : Ctx} {f : DE → Res D} {d d' : D} (h : PE Γ f d Γ') (hd : d.frz = d') : PE Γ (eFz f) d' Γ' := fun env q => by
  obtain ⟨e1, h1, h2⟩ := h env q
  exact ⟨e1, by simp [h1, hd], h2⟩
theorem te_fz {Γ : Ctx} {Γ1 : α → Ctx} {f : DE → Res D} {m : Option α} {e e' : α → D} (h : TE Γ f m e Γ1) (hd : ∀ r, (e r).frz = e' r) : TE Γ (eFz f) m e' Γ1 := fun env q r hr => by
  obtain ⟨e1, h1, h2⟩ := h env q r hr
  exact ⟨e1, by simp [h1, hd], h2⟩
theorem frz_lo {e : α → D} (he : Imm e) {l : List α} : (eLO e l).frz = eLF e l := by simp [eLO, eLF, frzL_map' he]
theorem frz_im {e : α → D} (he : Imm e) {x : α} : (e x).frz = e x := frz_nf (he.nf x)
theorem o_isU {x : D} : OpT (d2 (dIsN false)) [Eq1 x, Eq1 .non] (.bl x.isNon) := op2_eq (by rw [isn_non]; rfl)
theorem o_isnU {x : D} : OpT (d2 (dIsN true)) [Eq1 x, Eq1 .non] (.bl (!x.isNon)) := op2_eq (by rw [isn_non]; rfl)
theorem pt_andF {Γ Γ' : Ctx} {f g : DE → Res Bool} (h : PT Γ f false Γ') : PT Γ (tAndF f g) false Γ' := fun env q => by
  obtain ⟨e1, h1, h2⟩ := h env q
  exact ⟨e1, by simp [h1], h2⟩
theorem pt_orT {Γ Γ' : Ctx} {f g : DE → Res Bool} (h : PT Γ f true Γ') : PT Γ (tOrF f g) true Γ' := fun env q => by
  obtain ⟨e1, h1, h2⟩ := h env q
  exact ⟨e1, by simp [h1], h2⟩
theorem pt_andT {Γ Γ1 Γ' : Ctx} {f g : DE → Res Bool} {b : Bool} (h : PT Γ f true Γ1) (k : PT Γ1 g b Γ') : PT Γ (tAndF f g) b Γ' := fun env q => by
  obtain ⟨e1, h1, h2⟩ := h env q
  obtain ⟨e2, k1, k2⟩ := k e1 h2
  exact ⟨e2, by simp [h1, k1], k2⟩
theorem pt_orF {Γ Γ1 Γ' : Ctx} {f g : DE → Res Bool} {b : Bool} (h : PT Γ f false Γ1) (k : PT Γ1 g b Γ') : PT Γ (tOrF f g) b Γ' := fun env q => by
  obtain ⟨e1, h1, h2⟩ := h env q
  obtain ⟨e2, k1, k2⟩ := k e1 h2
  exact ⟨e2, by simp [h1, k1], k2⟩
theorem tt_andT {Γ Γ1 : Ctx} {Γ' : α → Ctx} {f g : DE → Res Bool} {m : Option α} {b : α → Bool} (h : PT Γ f true Γ1) (k : TT Γ1 g m b Γ') : TT Γ (tAndF f g) m b Γ' := fun env q r hr => by
  obtain ⟨e1, h1, h2⟩ := h env q
  obtain ⟨e2, k1, k2⟩ := k e1 h2 r hr
  exact ⟨e2, by simp [h1, k1], k2⟩
theorem tt_orF {Γ Γ1 : Ctx} {Γ' : α → Ctx} {f g : DE → Res Bool} {m : Option α} {b : α → Bool} (h : PT Γ f false Γ1) (k : TT Γ1 g m b Γ') : TT Γ (tOrF f g) m b Γ' := fun env q r hr => by
  obtain ⟨e1, h1, h2⟩ := h env q
  obtain ⟨e2, k1, k2⟩ := k e1 h2 r hr
  exact ⟨e2, by simp [h1, k1], k2⟩
theorem pe_andF {Γ Γ' : Ctx} {f g : DE → Res D} (h : PE Γ f (.bl false) Γ') : PE Γ (eAnd f g) (.bl false) Γ' := fun env q => by
  obtain ⟨e1, h1, h2⟩ := h env q
  exact ⟨e1, by simp [h1], h2⟩
theorem pe_orT {Γ Γ' : Ctx} {f g : DE → Res D} (h : PE Γ f (.bl true) Γ') : PE Γ (eOr f g) (.bl true) Γ' := fun env q => by
  obtain ⟨e1, h1, h2⟩ := h env q
  exact ⟨e1, by simp [h1], h2⟩
theorem pe_andT {Γ Γ1 Γ' : Ctx} {f g : DE → Res D} {d : D} (h : PE Γ f (.bl true) Γ1) (k : PE Γ1 g d Γ') : PE Γ (eAnd f g) d Γ' := fun env q => by
  obtain ⟨e1, h1, h2⟩ := h env q
  obtain ⟨e2, k1, k2⟩ := k e1 h2
  exact ⟨e2, by simp [h1, k1], k2⟩
theorem pe_orF {Γ Γ1 Γ' : Ctx} {f g : DE → Res D} {d : D} (h : PE Γ f (.bl false) Γ1) (k : PE Γ1 g d Γ') : PE Γ (eOr f g) d Γ' := fun env q => by
  obtain ⟨e1, h1, h2⟩ := h env q
  obtain ⟨e2, k1, k2⟩ := k e1 h2
  exact ⟨e2, by simp [h1, k1], k2⟩
theorem te_andT {Γ Γ1 : Ctx} {Γ' : β → Ctx} {f g : DE → Res D} {m : Option β} {e : β → D} (h : PE Γ f (.bl true) Γ1) (k : TE Γ1 g m e Γ') : TE Γ (eAnd f g) m e Γ' := fun env q r hr => by
  obtain ⟨e1, h1, h2⟩ := h env q
  obtain ⟨e2, k1, k2⟩ := k e1 h2 r hr
  exact ⟨e2, by simp [h1, k1], k2⟩
theorem te_orF {Γ Γ1 : Ctx} {Γ' : β → Ctx} {f g : DE → Res D} {m : Option β} {e : β → D} (h : PE Γ f (.bl false) Γ1) (k : TE Γ1 g m e Γ') : TE Γ (eOr f g) m e Γ' := fun env q r hr => by
  obtain ⟨e1, h1, h2⟩ := h env q
  obtain ⟨e2, k1, k2⟩ := k e1 h2 r hr
  exact ⟨e2, by simp [h1, k1], k2⟩
/-! forks that are known -/
theorem ts_ifT {Γ Γ1 : Ctx} {t : DE → Res Bool} {a b : DE → SRes} {m : Option α} (h : PT Γ t true Γ1) (k : TS Γ1 a m I) : TS Γ (sIf t a b) m I := fun env q r hr => by
  obtain ⟨e1, h1, h2⟩ := h env q
  simpa [h1] using k e1 h2 r hr
theorem ts_ifF {Γ Γ1 : Ctx} {t : DE → Res Bool} {a b : DE → SRes} {m : Option α} (h : PT Γ t false Γ1) (k : TS Γ1 b m I) : TS Γ (sIf t a b) m I := fun env q r hr => by
  obtain ⟨e1, h1, h2⟩ := h env q
  simpa [h1] using k e1 h2 r hr
theorem tb_ifT {Γ Γ1 : Ctx} {t : DE → Res Bool} {a b : DE → SRes} {m : Option α} {Γ' : α → Ctx} (h : PT Γ t true Γ1) (k : TB Γ1 a m Γ') : TB Γ (sIf t a b) m Γ' := fun env q r hr => by
  obtain ⟨e1, h1, h2⟩ := h env q
  obtain ⟨e2, k1, k2⟩ := k e1 h2 r hr
  exact ⟨e2, by simp [h1, k1], k2⟩
theorem tb_ifF {Γ Γ1 : Ctx} {t : DE → Res Bool} {a b : DE → SRes} {m : Option α} {Γ' : α → Ctx} (h : PT Γ t false Γ1) (k : TB Γ1 b m Γ') : TB Γ (sIf t a b) m Γ' := fun env q r hr => by
  obtain ⟨e1, h1, h2⟩ := h env q
  obtain ⟨e2, k1, k2⟩ := k e1 h2 r hr
  exact ⟨e2, by simp [h1, k1], k2⟩
/-- a fork that is known not to be taken, ahead of the rest; and one that is, and ends -/
theorem ts_cF {Γ Γ1 : Ctx} {t : DE → Res Bool} {a c : DE → SRes} {m : Option α} (h : PT Γ t false Γ1) (k : TS Γ1 c m I) : TS Γ (sCons (sIf t a sNil) c) m I := fun env q r hr => by
  obtain ⟨e1, h1, h2⟩ := h env q
  simpa [h1] using k e1 h2 r hr
theorem tb_cF {Γ Γ1 : Ctx} {t : DE → Res Bool} {a c : DE → SRes} {m : Option α} {Γ' : α → Ctx} (h : PT Γ t false Γ1) (k : TB Γ1 c m Γ') : TB Γ (sCons (sIf t a sNil) c) m Γ' := fun env q r hr => by
  obtain ⟨e1, h1, h2⟩ := h env q
  obtain ⟨e2, k1, k2⟩ := k e1 h2 r hr
  exact ⟨e2, by simp [h1, k1], k2⟩
theorem ts_cT {Γ Γ1 : Ctx} {t : DE → Res Bool} {a b c : DE → SRes} {I' : α → SRes → Prop} {m : Option α} (hs : ∀ {r o}, I' r o → I r o ∧ NoNx o) (h : PT Γ t true Γ1) (k : TS Γ1 a m I') : TS Γ (sCons (sIf t a b) c) m I := fun env q r hr => by
  obtain ⟨e1, h1, h2⟩ := h env q
  obtain ⟨k3, k4⟩ := hs (k e1 h2 r hr)
  simp only [ap_sCons, ap_sIf, h1, Res.toS_ok, if_true]
  rw [seq_nonx k4]; exact k3
theorem tbp_sub {Γ Γ1 Γ2 : Ctx} {f : DE → SRes} (h : TBp Γ f Γ1) (s : Sub Γ1 Γ2) : TBp Γ f Γ2 := fun env q => by
  obtain ⟨e1, h1, h2⟩ := h env q
  exact ⟨e1, h1, s e1 h2⟩
theorem ts_sub {Γ Γ1 : Ctx} {f : DE → SRes} {m : Option α} (s : Sub Γ Γ1) (h : TS Γ1 f m I) : TS Γ f m I := fun env q r hr => h env (s env q) r hr
/-! flags -/
theorem nf_eq {e : α → D} (h : Imm e) {x : α} : ∀ d, Eq1 (e x) d → d.flag = false := fun d hd => by cases hd; exact h.nf x
theorem nf_lf {e : α → D} {l : List α} : ∀ d, Eq1 (.lst false (l.map e)) d → d.flag = false := fun d hd => by cases hd; rfl
theorem nf_sc {l : List Int} : ∀ d, Eq1 (.scr l) d → d.flag = false := fun d hd => by cases hd; rfl
theorem ow_lo {e : α → D} {l : List α} : ∀ d, Eq1 (.lst true (l.map e)) d → d.flag = true := fun d hd => by cases hd; rfl
/-! lists walked by number -/
theorem pi_en_o {Γ : Ctx} {i : Nat} {e : α → D} {l : List α} {b : Bool} (hi : Γ[i]? = some (Sl (Eq1 (.lst b (l.map e))))) (he : Imm e) : PI Γ (iEnumerate (aCons (xSlot i) aNil)) ((enumL 0 l).map (eT2 D.int e)) none (Γ.set i (Sl (Eq1 (.lst false (l.map e))))) := fun env q => by
  obtain ⟨d, h1, h2⟩ := q.sl hi
  subst h2
  cases b with
  | true => exact ⟨env.set i (some (.lst false (l.map e))), by simp [h1, frzL_map' he, enumD_m], q.set ⟨_, rfl, rfl⟩⟩
  | false =>
    refine ⟨env, by simp [h1, enumD_m], ?_⟩
    have h := q.set (i := i) (a := Sl (Eq1 (.lst false (l.map e)))) (o := some (.lst false (l.map e))) ⟨_, rfl, rfl⟩
    rw [set_gd (gd_lt h1) h1] at h
    exact h
theorem en_lo {e : α → D} (he : Imm e) {l : List α} : ∃ b, (eLO e l).frz = .lst b (l.map e) := ⟨false, by rw [frz_lo he]; rfl⟩
theorem en_lf {e : α → D} (he : Imm e) {l : List α} : ∃ b, (eLF e l).frz = .lst b (l.map e) := ⟨false, by rw [frz_im im_lf]; rfl⟩
theorem o_repL {e : α → D} (he : Imm e) {l : List α} {n : Int} : OpN (d2 dMul) [LiU e l, Eq1 (.int n)] (repM l n) (eLO e) := op2n_of fun x y hx hy r hr => by
  obtain ⟨b, hx⟩ := hx
  cases hx; cases hy
  unfold repM at hr
  split at hr
  · rename_i h
    cases hr
    have h1 := nf_map he l
    unfold dMul
    simp only [List.length_map, flat_map]
    have h2 := h.1.1
    have h3 := h.1.2
    simp [h.2, he.nf, eLO]
    omega
  · cases hr
def eT0 : Unit → D := fun _ => .tup []
theorem im_t0 : Imm eT0 := ⟨fun _ => rfl⟩
def eT4 {α β γ δ : Type} (e : α → D) (f : β → D) (g : γ → D) (h : δ → D) : α × β × γ × δ → D := fun p => .tup [e p.1, f p.2.1, g p.2.2.1, h p.2.2.2]
theorem im_t4 {e : α → D} {f : β → D} {g : γ → D} {h : δ → D} : Imm (eT4 e f g h) := ⟨fun _ => rfl⟩
theorem bk_sub {fx : List Nat} {i : Nat} {Ps Qs : List DP} {Γ : Ctx} (h : BK fx i Ps Γ Qs) : BK fx i Ps Γ Qs := h
end
end Tr

set_option maxHeartbeats 2000000
/-! The typed layer 7: more odds and ends. -/
namespace Tr
open PySem PySem.Spec PyProof.Rows L2
section
variable {α β γ δ : Type} {I : α → SRes → Prop}
theorem tt_map {Γ Γ' : Ctx} {f : DE → Res Bool} {m : Option α} {b : α → Bool} (h : TT Γ f m b fun _ => Γ') : TT Γ f (m.map b) id (fun _ => Γ') := fun env q r hr => by
  rw [Option.map_eq_some_iff] at hr
  obtain ⟨a, ha, rfl⟩ := hr
  exact h env q a ha
theorem te_slU {Γ : Ctx} {fa : DE → Res L} {fl fh : DE → Res (Option Int)} {la : L} {x : D} {lo hi : Option Int} (ha : PX Γ fa la Γ) (r : Rd Γ la (Eq1 x)) (hl : TO Γ fl (some ()) fun _ => lo) (hh : TO Γ fh (some ()) fun _ => hi) : TE Γ (eSl dSl fa fl fh) (opU (dSl x lo hi)) eU (fun _ => Γ) := fun env q v hv => by
  obtain ⟨e1, h1, h2⟩ := ha env q
  obtain ⟨e2, h3, h4⟩ := hl e1 h2 () rfl
  obtain ⟨e3, h5, h6⟩ := hh e2 h4 () rfl
  obtain ⟨x', r1, r2⟩ := r e3 h6
  cases r2
  exact ⟨e3, by simp [h1, h3, h5, r1, opU_ok hv], h6⟩
theorem dInts_inv : ∀ {ds : List D} {l : List Int}, dInts? ds = some l → ds = l.map .int
  | [], l, h => by cases h; rfl
  | d :: ds, l, h => by
    cases d with
    | int i =>
      simp only [dInts?, Option.map_eq_some_iff] at h
      obtain ⟨m, h1, rfl⟩ := h
      rw [dInts_inv h1]; rfl
    | _ => simp [dInts?] at h
def intsR (r : Rs D) : Option (List Int) := match r with
  | .ok (.lst true ds) => dInts? ds
  | _ => none
theorem intsR_ok {r : Rs D} {l : List Int} (h : intsR r = some l) : r = .ok (eLO D.int l) := by
  unfold intsR at h
  split at h
  · rename_i ds; rw [dInts_inv h]; rfl
  · cases h
def sortU (x : D) : Option (List Int) := intsR (dSortSet x)
theorem o_sortU {x : D} : OpN (d1 dSortSet) [Eq1 x] (sortU x) (eLO D.int) := op1n_of fun y hy r hr => by cases hy; exact intsR_ok hr
def usR (r : Rs D) : Option (List U) := match r with
  | .ok (.lst true ds) => if h : ∀ d ∈ ds, d.flag = false then some (ds.attach.map fun d => ⟨d.1, h d.1 d.2⟩) else none
  | _ => none
theorem usR_ok {r : Rs D} {l : List U} (h : usR r = some l) : r = .ok (eLO eU l) := by
  unfold usR at h
  split at h
  · rename_i ds
    split at h
    · cases h
      show Rs.ok (D.lst true ds) = .ok (.lst true _)
      rw [List.map_map]
      congr 2
      show ds = ds.attach.map Subtype.val
      simp
    · cases h
  · cases h
def listU (x : D) : Option (List U) := usR (dList x)
theorem o_listU {x : D} : OpN (d1 dList) [Eq1 x] (listU x) (eLO eU) := op1n_of fun y hy r hr => by cases hy; exact usR_ok hr
theorem ti_um {Γ : Ctx} {f : DE → Res D} {m : Option γ} {e : γ → D} {u : γ → U} {Γ1 : Ctx} (h : TE Γ f m e fun _ => Γ1) (hu : ∀ r, e r = (u r).1) : TI Γ (iVal f) (m.bind fun r => itU (u r)) (fun l => l.map eU) (fun _ => Γ1) := fun env q l hl => by
  rw [Option.bind_eq_some_iff] at hl
  obtain ⟨r, hr, hl⟩ := hl
  obtain ⟨e1, h1, h2⟩ := h env q r hr
  exact ⟨e1, by simp [h1, hu, itU_ok hl], h2⟩
theorem tb_pv {Γ Γ1 : Ctx} {f : DE → SRes} {φ : α} {Γ' : α → Ctx} (h : TBp Γ f Γ1) (s : ∀ env, Fits Γ1 env → Fits (Γ' φ) env) : TB Γ f (some φ) Γ' := fun env q r hr => by
  cases hr
  obtain ⟨e1, h1, h2⟩ := h env q
  exact ⟨e1, h1, s e1 h2⟩
theorem tb_par {Γ Γ1 Γ2 : Ctx} {fa : DE → Res (List L)} {gs : List D → DE → Option DE} {ls : List L} {ds : List D} (h : TAp Γ fa ls Γ1) (hv : vals ls = some ds) (hl : ds.length ≤ sizeLine) (t : TGs Γ1 gs ds Γ2) : TBp Γ (sPar fa gs) Γ2 := fun env q => by
  obtain ⟨e1, h1, h2⟩ := h env q
  obtain ⟨e2, t1, t2⟩ := t e1 h2
  exact ⟨e2, by simp [h1, hv, hl, t1], t2⟩
theorem tb_parm {Γ : Ctx} {Γ1 Γ2 : γ → Ctx} {fa : DE → Res (List L)} {gs : List D → DE → Option DE} {m : Option γ} {ls : γ → List L} {ds : γ → List D} (h : TA Γ fa m ls Γ1) (hv : ∀ r, vals (ls r) = some (ds r)) (hl : ∀ r, (ds r).length ≤ sizeLine) (t : ∀ r, TGs (Γ1 r) gs (ds r) (Γ2 r)) : TB Γ (sPar fa gs) m Γ2 := fun env q r hr => by
  obtain ⟨e1, h1, h2⟩ := h env q r hr
  obtain ⟨e2, t1, t2⟩ := t r e1 h2
  exact ⟨e2, by simp [h1, hv, hl, t1], t2⟩
end
end Tr
namespace Tr
def dE : U := ⟨.dct false (.k []) [], rfl⟩
theorem frz_dE : (D.dct true (.k []) []).frz = eU dE := by simp [D.frz, frzL, eU, dE]
end Tr
namespace Tr
open PySem PySem.Spec PyProof.Rows L2
section
variable {α β γ δ : Type}
theorem e1r {d : D} : Eq1 d d := rfl
theorem te_chainc {Γ : Ctx} {g g' : D → D → Rs D} {fa fb : DE → Res L} {fc : DE → Res D} {la lb : L} {Pa Pb : DP} {x : Option Bool} {m : Option α} {ec : α → D} {y : α → Option Bool} (ha : PX Γ fa la Γ) (hb : PX Γ fb lb Γ) (hc : TE Γ fc m ec fun _ => Γ) (ra : Rd Γ la Pa) (rb : Rd Γ lb Pb)
    (o1 : OpN (d2 g) [Pa, Pb] x D.bl) (o2 : ∀ v, OpN (d2 g') [Pb, Eq1 (ec v)] (y v) D.bl) : TE Γ (eChain g g' fa fb (xOf fc)) (x.bind fun b => if b = true then m.bind y else some false) D.bl fun _ => Γ := fun env q r hr => by
  rw [Option.bind_eq_some_iff] at hr
  obtain ⟨v, hv, hr⟩ := hr
  obtain ⟨e1, a1, a2⟩ := ha env q
  obtain ⟨e2, b1, b2⟩ := hb e1 a2
  obtain ⟨d1, ra1, ra2⟩ := ra e2 b2
  obtain ⟨dd, rb1, rb2⟩ := rb e2 b2
  have q1 : g d1 dd = .ok (.bl v) := o1 [d1, dd] ⟨ra2, rb2, trivial⟩ v hv
  cases v
  · simp at hr; subst hr
    exact ⟨e2, by simp [a1, b1, ra1, rb1, q1], b2⟩
  · rw [if_pos rfl, Option.bind_eq_some_iff] at hr
    obtain ⟨w, hw, hr⟩ := hr
    obtain ⟨e3, c1, c2⟩ := hc e2 b2 w hw
    obtain ⟨db, rb3, rb4⟩ := rb e3 c2
    have q2 : g' db (ec w) = .ok (.bl r) := o2 w [db, ec w] ⟨rb4, rfl, trivial⟩ r hr
    exact ⟨e3, by simp [a1, b1, ra1, rb1, q1, c1, rb3, q2], c2⟩
/-- two of any values side by side -/
def zipU (x y : U) : Option (List (U × U)) := match x.1, y.1 with
  | .tup _, .tup _ => (itU x).bind fun l => (itU y).map fun m => l.zip m
  | _, _ => none
theorem frzS_u {l : L} {x : U} {e : DE} (h : lget l e = some x.1) : frzS l e = some (x.1, e) := by
  cases l with
  | v d => cases h; simp [frz_nf x.2]
  | s i => rw [lg_s] at h; simp [h, x.2]
theorem ti_zipU {Γ : Ctx} {Γ' : γ → Ctx} {fa : DE → Res (List L)} {mo : Option γ} {ls : γ → List L} {la lb : γ → L} {x y : γ → U} (h : TA Γ fa mo ls fun _ => Γ) (hl : ∀ z, ls z = [la z, lb z]) (ra : ∀ z, Rd Γ (la z) (Eq1 (eU (x z)))) (rb : ∀ z, Rd Γ (lb z) (Eq1 (eU (y z)))) : TI Γ (iZip2 fa) (mo.bind fun z => zipU (x z) (y z)) (fun l => l.map (eT2 eU eU)) (fun _ => Γ) := fun env q r hr => by
  rw [Option.bind_eq_some_iff] at hr
  obtain ⟨z, hz, hr⟩ := hr
  obtain ⟨e1, h1, h2⟩ := h env q z hz
  obtain ⟨d, r1, r2⟩ := ra z e1 h2
  obtain ⟨d', r3, r4⟩ := rb z e1 h2
  cases r2; cases r4
  have z1 := frzS_u r1
  have z2 := frzS_u r3
  refine ⟨e1, ?_, h2⟩
  rw [ap_zip2, h1, Res.bind_ok, hl]
  dsimp only
  rw [z2]; dsimp only
  rw [z1]; dsimp only
  unfold zipU at hr
  have key : ∀ (as bs : List D), (x z).1.items = some as → (y z).1.items = some bs → ((itU (x z)).bind fun l => (itU (y z)).map fun m => l.zip m) = some r → zipD as bs = r.map (eT2 eU eU) := by
    intro as bs ha hb hh
    rw [Option.bind_eq_some_iff] at hh
    obtain ⟨l, hl1, hh⟩ := hh
    rw [Option.map_eq_some_iff] at hh
    obtain ⟨m, hm1, rfl⟩ := hh
    have e1 := itU_ok hl1
    have e2 := itU_ok hm1
    rw [ha] at e1; rw [hb] at e2
    cases e1; cases e2
    exact zipD_m l m
  cases hx : (x z).1 with
  | tup as =>
    cases hy : (y z).1 with
    | tup bs =>
      rw [hx, hy] at hr
      dsimp only at hr ⊢
      rw [key as bs (by rw [hx]; rfl) (by rw [hy]; rfl) hr]
    | _ => rw [hx, hy] at hr; cases hr
  | _ => rw [hx] at hr; cases hr
end
end Tr
namespace Tr
open PySem PySem.Spec PyProof.Rows L2
theorem o_maxT {l : List Int} : OpN dMax [Eq1 (eTO D.int l)] l.max? D.int := fun ds q r hr => match ds, q with
  | [x], q => by
    cases q.1
    show (match (dInts? (List.map D.int _)).bind List.max? with | some m => _ | none => _) = _
    rw [dInts_m, Option.bind_some, hr]
theorem o_minT {l : List Int} : OpN dMin [Eq1 (eTO D.int l)] l.min? D.int := fun ds q r hr => match ds, q with
  | [x], q => by
    cases q.1
    show (match (dInts? (List.map D.int _)).bind List.min? with | some m => _ | none => _) = _
    rw [dInts_m, Option.bind_some, hr]
end Tr

set_option maxHeartbeats 2000000
/-! The typed layer 8: how the typed functions are reckoned with. -/
namespace Tr
open PySem PySem.Spec PyProof.Rows L2
section
variable {α β γ σ ρ : Type}
@[simp] theorem opB_bl {b : Bool} : opB (.ok (.bl b)) = some b := (rfl)
@[simp] theorem opI_int {b : Int} : opI (.ok (.int b)) = some b := (rfl)
theorem opU_of {d : D} (h : d.flag = false) : opU (.ok d) = some ⟨d, h⟩ := by simp [opU, h]
@[simp] theorem opU_val {x : U} : opU (.ok x.1) = some x := opU_of x.2
@[simp] theorem opU_tup {ds : List D} : opU (.ok (.tup ds)) = some ⟨.tup ds, rfl⟩ := (rfl)
@[simp] theorem opU_int {i : Int} : opU (.ok (.int i)) = some ⟨.int i, rfl⟩ := (rfl)
@[simp] theorem opU_str {i : Str} : opU (.ok (.str i)) = some ⟨.str i, rfl⟩ := (rfl)
@[simp] theorem opU_bl {i : Bool} : opU (.ok (.bl i)) = some ⟨.bl i, rfl⟩ := (rfl)
@[simp] theorem opU_non : opU (.ok .non) = some ⟨.non, rfl⟩ := (rfl)
theorem line_k' {n : Nat} (h : n ≤ 100000) : n ≤ sizeLine := Nat.le_trans h (by decide)
theorem line_r {n : Nat} {f : Nat → α} (h : n ≤ 100000) : ((List.range n).map f).length ≤ sizeLine := by rw [List.length_map, List.length_range]; exact line_k' h
theorem rngL_nat {n : Nat} : rngL 0 n = (List.range n).map fun (k : Nat) => (k : Int) := by simp [rngL]
theorem rngL_nat2 {a n : Nat} : rngL a n = (List.range (n - a)).map fun (k : Nat) => ((a + k : Nat) : Int) := by
  unfold rngL
  rw [show ((n : Int) - a).toNat = n - a by omega]
  simp
theorem sm62 {i : Int} (h : -1000000 ≤ i ∧ i ≤ 1000000) : small62 i = true := by unfold small62; simp; omega
theorem rng1_nat {n : Nat} (h : n ≤ 100000) : rng1 (n : Int) = some ((List.range n).map fun (k : Nat) => (k : Int)) := by
  unfold rng1; rw [if_pos (sm62 (by omega)), rngL_nat]
theorem rng2_nat {a n : Nat} (ha : a ≤ 100000) (h : n ≤ 100000) : rng2 (a : Int) (n : Int) = some ((List.range (n - a)).map fun (k : Nat) => ((a + k : Nat) : Int)) := by
  unfold rng2; rw [if_pos (by rw [sm62 (by omega), sm62 (by omega)]; rfl), rngL_nat2]
theorem mapO_some {f : α → Option β} {g : α → β} : ∀ {l : List α}, (∀ x ∈ l, f x = some (g x)) → mapO f l = some (l.map g)
  | [], _ => rfl
  | x :: xs, h => by rw [mapO, h x (by simp), mapO_some fun y hy => h y (by simp [hy])]; rfl
theorem lcMapM_some {f : α → Option β} (g : α → β) {l : List α} (hl : l.length ≤ sizeLine) (h : ∀ x ∈ l, f x = some (g x)) : lcMapM l f = some (l.map g) := by
  unfold lcMapM; rw [if_pos hl, mapO_some h]
theorem lcMap_some {f : α → β} {l : List α} (hl : l.length ≤ sizeLine) : lcMap l f = some (l.map f) := by
  unfold lcMap; rw [if_pos hl]
theorem lcFil_some {p : α → Bool} {f : α → β} {l : List α} (hl : l.length ≤ sizeLine) : lcFil l p f = some ((l.filter p).map f) := by
  unfold lcFil; rw [if_pos hl]
theorem filO_some {p : α → Option Bool} {f : α → Option β} {q : α → Bool} {g : α → β} : ∀ {l : List α}, (∀ x ∈ l, p x = some (q x)) → (∀ x ∈ l, q x = true → f x = some (g x)) → filO p f l = some ((l.filter q).map g)
  | [], _, _ => rfl
  | x :: xs, h, k => by
    rw [filO, h x (by simp), Option.bind_some, filO_some (fun y hy => h y (by simp [hy])) fun y hy => k y (by simp [hy])]
    by_cases hq : q x = true
    · simp [hq, k x (by simp) hq]
    · simp [hq]
theorem lcFilM_some {p : α → Option Bool} {f : α → Option β} (q : α → Bool) (g : α → β) {l : List α} (hl : l.length ≤ sizeLine) (h : ∀ x ∈ l, p x = some (q x)) (k : ∀ x ∈ l, q x = true → f x = some (g x)) : lcFilM l p f = some ((l.filter q).map g) := by
  unfold lcFilM; rw [if_pos hl, filO_some h k]
/-- loops -/
theorem foldO_fold {f : σ → α → Option σ} {g : σ → α → σ} : ∀ {l : List α} {s : σ}, (∀ s, ∀ x ∈ l, f s x = some (g s x)) → foldO f l s = some (l.foldl g s)
  | [], s, _ => rfl
  | x :: xs, s, h => by rw [foldO, h s x (by simp), Option.bind_some, foldO_fold fun s y hy => h s y (by simp [hy])]; rfl
/-- by what holds after the first i -/
theorem foldO_inv {f : σ → α → Option σ} (P : Nat → σ → Prop) : ∀ {l : List α} {i : Nat} {s : σ}, P i s → (∀ j x s, l[j]? = some x → P (i + j) s → ∃ s', f s x = some s' ∧ P (i + j + 1) s') → ∃ s', foldO f l s = some s' ∧ P (i + l.length) s'
  | [], i, s, h, _ => ⟨s, rfl, h⟩
  | x :: xs, i, s, h, hs => by
    obtain ⟨s1, h1, h2⟩ := hs 0 x s rfl h
    obtain ⟨s2, h3, h4⟩ := foldO_inv P (l := xs) (i := i + 1) h2 (fun j y s hy hp => by
      have q := hs (j + 1) y s (by simpa using hy) (by rw [← Nat.add_assoc, Nat.add_right_comm]; exact hp)
      rw [← Nat.add_assoc, Nat.add_right_comm i j 1] at q
      exact q)
    refine ⟨s2, by rw [foldO, h1]; exact h3, ?_⟩
    rw [List.length_cons, show i + (xs.length + 1) = i + 1 + xs.length by omega]
    exact h4
theorem foldO_inv0 {f : σ → α → Option σ} (P : Nat → σ → Prop) {l : List α} {s : σ} (h : P 0 s) (hs : ∀ j x s, l[j]? = some x → P j s → ∃ s', f s x = some s' ∧ P (j + 1) s') : ∃ s', foldO f l s = some s' ∧ P l.length s' := by
  have := foldO_inv P (l := l) (i := 0) h (by simpa using hs)
  simpa using this
/-- where the state is told by what was walked -/
theorem foldO_at {f : σ → α → Option σ} (S : Nat → σ) : ∀ {l : List α} {i : Nat}, (∀ j x, l[j]? = some x → f (S (i + j)) x = some (S (i + j + 1))) → foldO f l (S i) = some (S (i + l.length))
  | [], i, _ => rfl
  | x :: xs, i, h => by
    rw [foldO, show f (S i) x = some (S (i + 1)) from h 0 x rfl, Option.bind_some, foldO_at S fun j y hy => by
      have := h (j + 1) y (by simpa using hy)
      rw [show i + 1 + j = i + (j + 1) by omega, show i + (j + 1) + 1 = i + (j + 1) + 1 from rfl]
      exact this]
    rw [List.length_cons, show i + (xs.length + 1) = i + 1 + xs.length by omega]
theorem foldO_at0 {f : σ → α → Option σ} (S : Nat → σ) {l : List α} (h : ∀ j x, l[j]? = some x → f (S j) x = some (S (j + 1))) : foldO f l (S 0) = some (S l.length) := by
  have := foldO_at S (l := l) (i := 0) (f := f) (by simpa using h)
  simpa using this
/-- to be rewritten with: the state by what was walked -/
theorem foldO_to (S : Nat → σ) {f : σ → α → Option σ} {l : List α} {s : σ} (h0 : s = S 0) (h : ∀ j x, l[j]? = some x → f (S j) x = some (S (j + 1))) : foldO f l s = some (S l.length) := by
  subst h0; exact foldO_at0 S h
/-- it ends well, and so -/
def Ok (m : Option α) (Q : α → Prop) : Prop := ∃ r, m = some r ∧ Q r
theorem Ok.some {r : α} {Q : α → Prop} (h : Q r) : Ok (some r) Q := ⟨r, rfl, h⟩
theorem Ok.bind {m : Option α} {k : α → Option β} {Q : β → Prop} {P : α → Prop} (h : Ok m P) (t : ∀ r, P r → Ok (k r) Q) : Ok (m.bind k) Q := by
  obtain ⟨r, rfl, hp⟩ := h
  exact t r hp
theorem Ok.map {m : Option α} {k : α → β} {Q : β → Prop} {P : α → Prop} (h : Ok m P) (t : ∀ r, P r → Q (k r)) : Ok (m.map k) Q := by
  obtain ⟨r, rfl, hp⟩ := h
  exact ⟨_, rfl, t r hp⟩
theorem Ok.mono {m : Option α} {P Q : α → Prop} (h : Ok m P) (t : ∀ r, P r → Q r) : Ok m Q := by
  obtain ⟨r, e, hp⟩ := h
  exact ⟨r, e, t r hp⟩
theorem Ok.foldO {f : σ → α → Option σ} (P : Nat → σ → Prop) {l : List α} {s : σ} (h : P 0 s) (hs : ∀ j x s, l[j]? = Option.some x → P j s → Ok (f s x) (P (j + 1))) : Ok (foldO f l s) (P l.length) := foldO_inv0 P h hs
/-- a walk that never ends early -/
theorem forF_go {f : σ → α → Option (Fl σ ρ)} (P : σ → Prop) : ∀ {l : List α} {s : σ}, P s → (∀ x ∈ l, ∀ s, P s → ∃ s', f s x = some (.go s') ∧ P s') → ∃ s', forF f l s = some (.inl s') ∧ P s'
  | [], s, h, _ => ⟨s, rfl, h⟩
  | x :: xs, s, h, hs => by
    obtain ⟨s1, h1, h2⟩ := hs x (by simp) s h
    obtain ⟨s2, h3, h4⟩ := forF_go P (l := xs) h2 fun y hy => hs y (by simp [hy])
    exact ⟨s2, by rw [forF, h1]; exact h3, h4⟩
theorem forF_goN {f : σ → α → Option (Fl σ ρ)} (P : Nat → σ → Prop) : ∀ {l : List α} {i : Nat} {s : σ}, P i s → (∀ j x s, l[j]? = some x → P (i + j) s → ∃ s', f s x = some (.go s') ∧ P (i + j + 1) s') → ∃ s', forF f l s = some (.inl s') ∧ P (i + l.length) s'
  | [], i, s, h, _ => ⟨s, rfl, h⟩
  | x :: xs, i, s, h, hs => by
    obtain ⟨s1, h1, h2⟩ := hs 0 x s rfl h
    obtain ⟨s2, h3, h4⟩ := forF_goN P (l := xs) (i := i + 1) h2 (fun j y s hy hp => by
      have q := hs (j + 1) y s (by simpa using hy) (by rw [← Nat.add_assoc, Nat.add_right_comm]; exact hp)
      rw [← Nat.add_assoc, Nat.add_right_comm i j 1] at q
      exact q)
    refine ⟨s2, by rw [forF, h1]; exact h3, ?_⟩
    rw [List.length_cons, show i + (xs.length + 1) = i + 1 + xs.length by omega]
    exact h4
/-- a walk of tests: it ends at the first that fails -/
theorem forF_test {f : Unit → α → Option (Fl Unit ρ)} {ok : α → Bool} {r : ρ} : ∀ {l : List α}, (∀ x ∈ l, f () x = some (if ok x = true then .go () else .rt r)) → forF f l () = some (if l.all ok = true then .inl () else .inr r)
  | [], _ => rfl
  | x :: xs, h => by
    rw [forF, h x (by simp), Option.bind_some]
    by_cases hx : ok x = true
    · rw [if_pos hx]
      dsimp only
      rw [forF_test fun y hy => h y (by simp [hy])]
      simp [hx]
    · rw [if_neg hx]; simp [hx]
@[simp] theorem orR_inl {s : σ} {k : σ → Option β} {ι : ρ → β} : orR (some (.inl s)) k ι = k s := (rfl)
@[simp] theorem orR_inr {r : ρ} {k : σ → Option β} {ι : ρ → β} : orR (some (.inr r)) k ι = some (ι r) := (rfl)
/-- comprehensions that draw -/
theorem lcS_inv {f : σ → α → Option (Option β × σ)} (P : Nat → List β → σ → Prop) {l : List α} {s : σ} (hl : l.length ≤ sizeLine) (h0 : P 0 [] s) (hs : ∀ j x ys s, l[j]? = some x → P j ys s → ∃ o s', f s x = some (o, s') ∧ P (j + 1) (ys ++ o.toList) s') : ∃ ys s', lcS f l s = some (ys, s') ∧ P l.length ys s' := by
  have key : ∀ (l : List α) (i : Nat) (ys : List β) (s : σ), P i ys s → (∀ j x ys s, l[j]? = some x → P (i + j) ys s → ∃ o s', f s x = some (o, s') ∧ P (i + j + 1) (ys ++ o.toList) s') → ∃ zs s', lcE f l s = some (zs, s') ∧ P (i + l.length) (ys ++ zs) s' := by
    intro l
    induction l with
    | nil => intro i ys s h _; exact ⟨[], s, rfl, by simpa using h⟩
    | cons x xs ih =>
      intro i ys s h hs
      obtain ⟨o, s1, h1, h2⟩ := hs 0 x ys s rfl h
      obtain ⟨zs, s2, h3, h4⟩ := ih (i + 1) _ s1 h2 (fun j y ys s hy hp => by
        have q := hs (j + 1) y ys s (by simpa using hy) (by rw [← Nat.add_assoc, Nat.add_right_comm]; exact hp)
        rw [← Nat.add_assoc, Nat.add_right_comm i j 1] at q
        exact q)
      refine ⟨o.toList ++ zs, s2, by rw [lcE, h1, Option.bind_some]; dsimp only; rw [h3]; rfl, ?_⟩
      rw [List.length_cons, show i + (xs.length + 1) = i + 1 + xs.length by omega, ← List.append_assoc]
      exact h4
  obtain ⟨zs, s', h1, h2⟩ := key l 0 [] s h0 (by simpa using hs)
  exact ⟨zs, s', by unfold lcS; rw [if_pos hl, h1], by simpa using h2⟩
theorem Ok.lcS {f : σ → α → Option (Option β × σ)} (P : Nat → List β → σ → Prop) {l : List α} {s : σ} (hl : l.length ≤ sizeLine) (h0 : P 0 [] s) (hs : ∀ j x ys s, l[j]? = Option.some x → P j ys s → Ok (f s x) fun r => P (j + 1) (ys ++ r.1.toList) r.2) : Ok (lcS f l s) fun r => P l.length r.1 r.2 := by
  obtain ⟨ys, s', h1, h2⟩ := lcS_inv P hl h0 (fun j x ys s hx hp => by
    obtain ⟨r, h1, h2⟩ := hs j x ys s hx hp
    exact ⟨r.1, r.2, h1, h2⟩)
  exact ⟨(ys, s'), h1, h2⟩
theorem Ok.forF {f : σ → α → Option (Fl σ ρ)} (P : Nat → σ → Prop) {l : List α} {s : σ} (h : P 0 s) (hs : ∀ j x s, l[j]? = Option.some x → P j s → Ok (f s x) fun o => match o with
    | .go s => P (j + 1) s
    | _ => False) : Ok (forF f l s) fun o => match o with
    | .inl s => P l.length s
    | _ => False := by
  obtain ⟨s', h1, h2⟩ := forF_goN P (f := f) (l := l) (i := 0) h (fun j x s hx hp => by
    rw [Nat.zero_add] at hp ⊢
    obtain ⟨o, h1, h2⟩ := hs j x s hx hp
    cases o with
    | go s => exact ⟨s, h1, h2⟩
    | bk s => exact h2.elim
    | rt s => exact h2.elim)
  rw [Nat.zero_add] at h2
  exact ⟨_, h1, h2⟩
theorem Ok.orR {m : Option (Sum σ ρ)} {k : σ → Option β} {ι : ρ → β} {Q : β → Prop} {P : σ → Prop} (h : Ok m fun o => match o with
    | .inl s => P s
    | _ => False) (t : ∀ s, P s → Ok (k s) Q) : Ok (orR m k ι) Q := by
  obtain ⟨o, rfl, hp⟩ := h
  cases o with
  | inl s => exact t s hp
  | inr r => exact hp.elim
/-! sequences by place -/
theorem atI_n {l : List α} {k : Nat} : atI l (k : Int) = l[k]? := by
  unfold atI ixN
  by_cases h : k < l.length
  · rw [if_pos (by omega), if_pos (by omega)]; simp
  · rw [if_pos (by omega), if_neg (by omega), List.getElem?_eq_none (by omega)]; rfl
theorem setM_nat {l : List α} {k : Nat} {x : α} (h : k < l.length) : setM l (k : Int) x = some (l.set k x) := by
  unfold setM ixN
  rw [if_pos (by omega), if_pos (by omega)]; simp
theorem catM_some {l m : List α} (h : l.length + m.length ≤ sizeLine) : catM l m = some (l ++ m) := by unfold catM; rw [if_pos h]
theorem appM_some {l : List α} {x : α} (h : l.length < sizeLine) : appM l x = some (l ++ [x]) := by unfold appM; rw [if_pos h]
theorem mulM_some {a b : Int} (h : mulOk a b = true) : mulM a b = some (a * b) := by unfold mulM; rw [if_pos h]
theorem modM_some {a b : Int} (h : 0 < b) : modM a b = some (a % b) := by unfold modM; rw [if_pos h]
theorem fdivM_some {a b : Int} (h : 0 < b) (h2 : b.natAbs.log2 < 9000) : fdivM a b = some (a / b) := by unfold fdivM; rw [if_pos ⟨h, h2⟩]
theorem cutD_nat {xs : List α} (k : Nat) : cutD xs (some (k : Int)) none = xs.drop k := cutD_from xs k
theorem repM_one {x : α} {n : Nat} (h : n ≤ 100000) : repM [x] (n : Int) = some (List.replicate n x) := by
  unfold repM
  have e : (List.replicate n [x]).flatten = List.replicate n x := by
    clear h
    induction n with
    | zero => rfl
    | succ n ih => rw [List.replicate_succ, List.flatten_cons, ih]; rfl
  rw [if_pos ⟨by omega, by simp; exact line_k' (by omega)⟩]
  simp [e]
/-- the items of a told tuple -/
theorem itU_tup {e : α → D} (he : Imm e) {l : List α} : itU ⟨.tup (l.map e), rfl⟩ = some (l.map (uOf he)) := by
  unfold itU
  have hi : (D.tup (l.map e)).items = some (l.map e) := rfl
  simp only [hi]
  have hf : ∀ d ∈ l.map e, d.flag = false := fun d hd => by
    obtain ⟨x, _, rfl⟩ := List.mem_map.mp hd; exact he.nf x
  rw [dif_pos hf]
  congr 1
  apply List.ext_getElem
  · simp
  · intro i h1 h2; apply Subtype.ext; simp [uOf]
theorem itU_any {ds : List D} (h : ∀ d ∈ ds, d.flag = false) : ∃ us : List U, itU ⟨.tup ds, rfl⟩ = some us ∧ us.map eU = ds := by
  refine ⟨ds.attach.map fun d => ⟨d.1, h d.1 d.2⟩, ?_, ?_⟩
  · unfold itU
    have hi : (D.tup ds).items = some ds := rfl
    simp only [hi]
    rw [dif_pos h]
  · rw [List.map_map]
    show ds.attach.map Subtype.val = ds
    simp
end
end Tr

set_option maxHeartbeats 4000000
namespace Law
open PySem PySem.Spec PyProof.Rows L2 Tr
abbrev topS (i : Nat) : Stmt := PySem.Challenge.pw_countwide_k70_whole_sets_or_a_lack_judge.main.body.getD i (.Pass ⟨0, 0, 0, 0⟩)
structure Txt (mg : Str → Option Value) : Prop where
  z_abs : mg "abs" = none
  z_all : mg "all" = none
  z_bool : mg "bool" = none
  z_enumerate : mg "enumerate" = none
  z_int : mg "int" = none
  z_isinstance : mg "isinstance" = none
  z_len : mg "len" = none
  z_list : mg "list" = none
  z_max : mg "max" = none
  z_min : mg "min" = none
  z_range : mg "range" = none
  z_set : mg "set" = none
  z_sorted : mg "sorted" = none
  z_str : mg "str" = none
  z_sum : mg "sum" = none
  z_tuple : mg "tuple" = none
  z_zip : mg "zip" = none
  c_LACK : ∃ t, mg "LACK" = some (.str "lack" t)
  c_LONGEST : ∃ t, mg "LONGEST" = some (.int 1000000000000000000000000000000 t)
  c_MOST_SETS : ∃ t, mg "MOST_SETS" = some (.int 6 t)
  c_MOST_THINGS : ∃ t, mg "MOST_THINGS" = some (.int 30 t)
  c_SETS : ∃ t, mg "SETS" = some (.str "sets" t)
section
variable {P : Program} {w : World} {K : PySem.W.Frag} {mg : Str → Option Value} {base : Heap}
/-! ### is_whole -/
abbrev s_is_whole : Stmt := topS 6
theorem sc_is_whole : FnScope ["thing", "least", "most"] ["thing", "least", "most"] (defScope s_is_whole) := ⟨rfl, rfl, rfl, by decide +kernel, rfl, by decide +kernel, by decide +kernel⟩
noncomputable def b_is_whole : DE → SRes := (sCons (sIf (tOrF (tNotF (tOfE (eBlt (d2 dIsi) (aCons (xSlot 0) (aCons (xOf (eC (.ty "int"))) aNil))))) (tOfE (eBlt (d2 dIsi) (aCons (xSlot 0) (aCons (xOf (eC (.ty "bool"))) aNil))))) (sRet (eC (.bl false))) sNil)
      (sCons (sIf (tAndF (tOfE (eOp2 (dIsN true) (xSlot 1) (xOf (eC .non)))) (tOfE (eOp2 dLt (xSlot 0) (xSlot 1)))) (sRet (eC (.bl false))) sNil)
      (sRet (eOr (eOp2 (dIsN false) (xSlot 2) (xOf (eC .non))) (eOp2 dLe (xSlot 0) (xSlot 2))))))
noncomputable def G_is_whole : List D → FR := fnG [0, 1, 2] 3 3 b_is_whole
theorem ok_is_whole {f : Addr} {fd : FuncData} (F : FunD K "is_whole" "is_whole" (defArgs s_is_whole) (defBody s_is_whole) (defScope s_is_whole) [] [("least", V.non), ("most", V.non)] f fd) (T : Txt mg)  : FnOk P w K mg base (L2.CX P w) 1 f fd ["thing", "least", "most"] (spG K 3 G_is_whole) := by
  have nd := sc_is_whole.nd
  exact fn_ok F sc_is_whole fun cdv A outer s H E hr => (vss_cons (vs_if (vt_w (vw_or (vt_not (vt_val (ve_callB call_isi cs_isi (by rfl) T.z_isinstance (by decide +kernel) (va_cons (vx_slot 0) (va_cons (vx_of (ve_bltT (by rfl) T.z_int (by decide +kernel))) va_nil))))) (vw_or1 (vt_val (ve_callB call_isi cs_isi (by rfl) T.z_isinstance (by decide +kernel) (va_cons (vx_slot 0) (va_cons (vx_of (ve_bltT (by rfl) T.z_bool (by decide +kernel))) va_nil))))))) (vss_one (vs_ret ve_bl)) vss_nil)
      (vss_cons (vs_if (vt_w (vw_and (vt_cmp op_notN os_notN (vx_slot 1) (vx_of ve_non) (nomark _)) (vw_and1 (vt_cmp op_ltI os_cmpI (vx_slot 0) (vx_slot 1) (nomark _))))) (vss_one (vs_ret ve_bl)) vss_nil)
      (vss_one (vs_ret (ve_or (ve_cmp op_isN os_isN (vx_slot 2) (vx_of ve_non) (nomark _)) (ve_one (ve_cmp op_leI os_cmpI (vx_slot 0) (vx_slot 2) (nomark _))))))))
/-! ### out_of -/
abbrev s_out_of : Stmt := topS 13
theorem sc_out_of : FnScope ["many", "size", "found", "at"] ["many", "size"] (defScope s_out_of) := ⟨rfl, rfl, rfl, by decide +kernel, rfl, by decide +kernel, by decide +kernel⟩
noncomputable def b_out_of : DE → SRes := (sCons (sIf (tNotF (tOfE (eChain dLe dLe (xOf (eC (.int 0))) (xSlot 1) (xSlot 0)))) (sRet (eC (.int 0))) sNil)
      (sCons (sSet 2 (eC (.int 1)))
      (sCons (sFor (iRng1f (aCons (xSlot 1) aNil)) (gN 3) (sSet 2 (eOp2 dFdiv (xOf (eOp2 dMul (xSlot 2) (xOf (eOp2 dSub (xSlot 0) (xSlot 3))))) (xOf (eOp2 dAdd (xSlot 3) (xOf (eC (.int 1))))))))
      (sRet (eMove 2)))))
noncomputable def G_out_of : List D → FR := fnG [0, 1] 2 4 b_out_of
theorem ok_out_of {f : Addr} {fd : FuncData} (F : FunD K "out_of" "out_of" (defArgs s_out_of) (defBody s_out_of) (defScope s_out_of) [] [] f fd) (T : Txt mg)  : FnOk P w K mg base (L2.CX P w) 1 f fd ["many", "size"] (spG K 2 G_out_of) := by
  have nd := sc_out_of.nd
  exact fn_ok F sc_out_of fun cdv A outer s H E hr => (vss_cons (vs_if (vt_not (vt_chain op_leI op_leI os_cmpI os_cmpI (vx_of ve_int) (vx_slot 1) (vx_slot 0))) (vss_one (vs_ret ve_int)) vss_nil)
      (vss_cons (vs_set 2 ve_int nd)
      (vss_cons (vs_for po_def rfl (vi_range1 (by rfl) T.z_range (va_cons (vx_slot 1) va_nil)) (vg_name 3 nd) (vss_one (vs_set 2 (ve_op op_fdivW os_fdiv (vx_of (ve_op op_mulA os_mul (vx_slot 2) (vx_of (ve_op op_sub os_I0 (vx_slot 0) (vx_slot 3))))) (vx_of (ve_op op_addA os_add (vx_slot 3) (vx_of ve_int)))) nd)))
      (vss_one (vs_ret (ve_move 2))))))
/-! ### sign_of -/
abbrev s_sign_of : Stmt := topS 14
theorem sc_sign_of : FnScope ["number"] ["number"] (defScope s_sign_of) := ⟨rfl, rfl, rfl, by decide +kernel, rfl, by decide +kernel, by decide +kernel⟩
noncomputable def b_sign_of : DE → SRes := (sRet (eIf (tOfE (eOp2 (dEq false) (xOf (eOp2 dMod (xSlot 0) (xOf (eC (.int 2))))) (xOf (eC (.int 0))))) (eC (.int 1)) (eUn dNeg (xOf (eC (.int 1))))))
noncomputable def G_sign_of : List D → FR := fnG [0] 1 1 b_sign_of
theorem ok_sign_of {f : Addr} {fd : FuncData} (F : FunD K "sign_of" "sign_of" (defArgs s_sign_of) (defBody s_sign_of) (defScope s_sign_of) [] [] f fd) (T : Txt mg)  : FnOk P w K mg base (L2.CX P w) 1 f fd ["number"] (spG K 1 G_sign_of) := by
  have nd := sc_sign_of.nd
  exact fn_ok F sc_sign_of fun cdv A outer s H E hr => (vss_one (vs_ret (ve_if (vt_cmp (op_eqD hr.units) os_eq (vx_of (ve_op op_mod os_mod (vx_slot 0) (vx_of ve_int))) (vx_of ve_int) (nomark _)) ve_int (ve_un un_neg us_neg (vx_of ve_int)))))
/-! ### counts_in -/
abbrev s_counts_in : Stmt := topS 15
theorem sc_counts_in : FnScope ["sums", "many", "r", "j"] ["sums"] (defScope s_counts_in) := ⟨rfl, rfl, rfl, by decide +kernel, rfl, by decide +kernel, by decide +kernel⟩
noncomputable def b_counts_in : DE → SRes := (sCons (sSet 1 (eBlt (d1 dLen) (aCons (xSlot 0) aNil)))
      (sRet (eLc [2] (iRng1f (aCons (xSlot 1) aNil)) (gN 2) tYesF (eBlt (d1 dSum) (aCons (xOf (eLc [3] (iRng2f (aCons (xSlot 2) (aCons (xSlot 1) aNil))) (gN 3) tYesF (eOp2 dMul (xOf (eOp2 dMul (xOf (eCall G_sign_of [] (aCons (xOf (eOp2 dSub (xSlot 3) (xSlot 2))) aNil))) (xOf (eCall G_out_of [] (aCons (xSlot 3) (aCons (xSlot 2) aNil)))))) (xOf (eOp2 dIx (xSlot 0) (xSlot 3)))))) aNil)))))
noncomputable def G_counts_in : List D → FR := fnG [0] 1 4 b_counts_in
theorem ok_counts_in {f : Addr} {fd : FuncData} (F : FunD K "counts_in" "counts_in" (defArgs s_counts_in) (defBody s_counts_in) (defScope s_counts_in) [] [] f fd) (T : Txt mg) (C_sign_of_1 : Cal P w K mg base "sign_of" 1 1 [] G_sign_of) (C_out_of_2 : Cal P w K mg base "out_of" 1 2 [] G_out_of) : FnOk P w K mg base (L2.CX P w) 2 f fd ["sums"] (spG K 1 G_counts_in) := by
  have nd := sc_counts_in.nd
  exact fn_ok F sc_counts_in fun cdv A outer s H E hr => (vss_cons (vs_set 1 (ve_callB call_lenA cs_len (by rfl) T.z_len (by decide +kernel) (va_cons (vx_slot 0) va_nil)) nd)
      (vss_one (vs_ret (ve_lc rfl nd (vi_range1 (by rfl) T.z_range (va_cons (vx_slot 1) va_nil)) (blkOk_by (own := [("r", 2)]) (by kernel_rfl)) (fun _ _ _ _ _ => (vg_name 2 nd)) (fun _ _ _ _ _ => vts_nil) (fun _ _ _ _ _ => (ve_callB (cr_sumA rfl) cs_sum (by rfl) T.z_sum (by decide +kernel) (va_cons (vx_of (ve_lc rfl nd (vi_range2 (by rfl) T.z_range (va_cons (vx_slot 2) (va_cons (vx_slot 1) va_nil))) (blkOk_by (own := [("j", 3)]) (by kernel_rfl)) (fun _ _ _ _ _ => (vg_name 3 nd)) (fun _ _ _ _ _ => vts_nil) (fun _ _ _ _ _ => (ve_op op_mulA os_mul (vx_of (ve_op op_mulA os_mul (vx_of (ve_cal C_sign_of_1 hr pxs0 (va_cons (vx_of (ve_op op_sub os_I0 (vx_slot 3) (vx_slot 2))) va_nil))) (vx_of (ve_cal C_out_of_2 hr pxs0 (va_cons (vx_slot 3) (va_cons (vx_slot 2) va_nil)))))) (vx_of (ve_ix ix_seq os_ix (vx_slot 0) (vx_slot 3))))))) va_nil)))))))
/-! ### counts_by -/
abbrev s_counts_by : Stmt := topS 16
theorem sc_counts_by : FnScope ["things", "sets", "often", "thing", "one", "many"] ["things", "sets"] (defScope s_counts_by) := ⟨rfl, rfl, rfl, by decide +kernel, rfl, by decide +kernel, by decide +kernel⟩
noncomputable def b_counts_by : DE → SRes := (sCons (sSet 2 (eLc [3] (iRng1f (aCons (xSlot 0) aNil)) (gN 3) tYesF (eBlt (d1 dLen) (aCons (xOf (eLc [4] (iSlot 1) (gN 4) (tOfE (eOp2 (dIn false) (xSlot 3) (xSlot 4))) (eUse 4))) aNil))))
      (sRet (eLc [5] (iRng1f (aCons (xOf (eOp2 dAdd (xOf (eBlt (d1 dLen) (aCons (xSlot 1) aNil))) (xOf (eC (.int 1))))) aNil)) (gN 5) tYesF (eMt1 isLst dCount (xSlot 2) (xSlot 5)))))
noncomputable def G_counts_by : List D → FR := fnG [0, 1] 2 6 b_counts_by
theorem ok_counts_by {f : Addr} {fd : FuncData} (F : FunD K "counts_by" "counts_by" (defArgs s_counts_by) (defBody s_counts_by) (defScope s_counts_by) [] [] f fd) (T : Txt mg)  : FnOk P w K mg base (L2.CX P w) 1 f fd ["things", "sets"] (spG K 2 G_counts_by) := by
  have nd := sc_counts_by.nd
  exact fn_ok F sc_counts_by fun cdv A outer s H E hr => (vss_cons (vs_set 2 (ve_lc rfl nd (vi_range1 (by rfl) T.z_range (va_cons (vx_slot 0) va_nil)) (blkOk_by (own := [("thing", 3)]) (by kernel_rfl)) (fun _ _ _ _ _ => (vg_name 3 nd)) (fun _ _ _ _ _ => vts_nil) (fun _ _ _ _ _ => (ve_callB call_lenA cs_len (by rfl) T.z_len (by decide +kernel) (va_cons (vx_of (ve_lc rfl nd (vi_slot 1) (blkOk_by (own := [("one", 4)]) (by kernel_rfl)) (fun _ _ _ _ _ => (vg_name 4 nd)) (fun _ _ _ _ _ => (vts_one (vt_cmp op_in_seq os_in (vx_slot 3) (vx_slot 4) (by rfl)))) (fun _ _ _ _ _ => (ve_use 4)))) va_nil)))) nd)
      (vss_one (vs_ret (ve_lc rfl nd (vi_range1 (by rfl) T.z_range (va_cons (vx_of (ve_op op_addA os_add (vx_of (ve_callB call_lenA cs_len (by rfl) T.z_len (by decide +kernel) (va_cons (vx_slot 1) va_nil))) (vx_of ve_int))) va_nil)) (blkOk_by (own := [("many", 5)]) (by kernel_rfl)) (fun _ _ _ _ _ => (vg_name 5 nd)) (fun _ _ _ _ _ => vts_nil) (fun _ _ _ _ _ => (ve_count (vx_slot 2) (vx_slot 5)))))))
/-! ### sets_by -/
abbrev s_sets_by : Stmt := topS 17
theorem sc_sets_by : FnScope ["counts", "often", "many", "number", "at", "thing"] ["counts"] (defScope s_sets_by) := ⟨rfl, rfl, rfl, by decide +kernel, rfl, by decide +kernel, by decide +kernel⟩
noncomputable def b_sets_by : DE → SRes := (sCons (sSet 1 (eLst aNil))
      (sCons (sFor (iEnumerate (aCons (xSlot 0) aNil)) (gTp 2 (gsCons (gN 2) (gsCons (gN 3) gsNil))) (sExpr (eExt 1 (eOp2 dMul (xOf (eLst (aCons (xOf (eUse 2)) aNil))) (xSlot 3)))))
      (sRet (eBlt (d1 dTuple) (aCons (xOf (eLc [4] (iRng1f (aCons (xOf (eOp2 dSub (xOf (eBlt (d1 dLen) (aCons (xSlot 0) aNil))) (xOf (eC (.int 1))))) aNil)) (gN 4) tYesF (eBlt (d1 dTuple) (aCons (xOf (eLc [5, 2] (iEnumerate (aCons (xSlot 1) aNil)) (gTp 2 (gsCons (gN 5) (gsCons (gN 2) gsNil))) (tOfE (eOp2 dGt (xSlot 2) (xSlot 4))) (eUse 5))) aNil)))) aNil)))))
noncomputable def G_sets_by : List D → FR := fnG [0] 1 6 b_sets_by
theorem ok_sets_by {f : Addr} {fd : FuncData} (F : FunD K "sets_by" "sets_by" (defArgs s_sets_by) (defBody s_sets_by) (defScope s_sets_by) [] [] f fd) (T : Txt mg)  : FnOk P w K mg base (L2.CX P w) 1 f fd ["counts"] (spG K 1 G_sets_by) := by
  have nd := sc_sets_by.nd
  exact fn_ok F sc_sets_by fun cdv A outer s H E hr => (vss_cons (vs_set 1 (ve_lst va_nil) nd)
      (vss_cons (vs_for po_def rfl (vi_enumerate (by rfl) T.z_enumerate (va_cons (vx_slot 0) va_nil)) (vg_tup rfl (vgs_cons (vg_name 2 nd) (vgs_cons (vg_name 3 nd) vgs_nil))) (vss_one (vs_expr (ve_extend 1 (ve_op op_mulA os_mul (vx_of (ve_lst (va_cons (vx_of (ve_use 2)) va_nil))) (vx_slot 3))))))
      (vss_one (vs_ret (ve_callTy call_tuple_of cs_tuple (by rfl) T.z_tuple (by decide +kernel) (va_cons (vx_of (ve_lc rfl nd (vi_range1 (by rfl) T.z_range (va_cons (vx_of (ve_op op_sub os_I0 (vx_of (ve_callB call_lenA cs_len (by rfl) T.z_len (by decide +kernel) (va_cons (vx_slot 0) va_nil))) (vx_of ve_int))) va_nil)) (blkOk_by (own := [("at", 4)]) (by kernel_rfl)) (fun _ _ _ _ _ => (vg_name 4 nd)) (fun _ _ _ _ _ => vts_nil) (fun _ _ _ _ _ => (ve_callTy call_tuple_of cs_tuple (by rfl) T.z_tuple (by decide +kernel) (va_cons (vx_of (ve_lc rfl nd (vi_enumerate (by rfl) T.z_enumerate (va_cons (vx_slot 1) va_nil)) (blkOk_by (own := [("thing", 5), ("many", 2)]) (by kernel_rfl)) (fun _ _ _ _ _ => (vg_tup rfl (vgs_cons (vg_name 5 nd) (vgs_cons (vg_name 2 nd) vgs_nil)))) (fun _ _ _ _ _ => (vts_one (vt_cmp op_gtI os_cmpI (vx_slot 2) (vx_slot 4) (nomark _)))) (fun _ _ _ _ _ => (ve_use 5)))) va_nil))))) va_nil))))))
/-! ### sums_told -/
abbrev s_sums_told : Stmt := topS 18
theorem sc_sums_told : FnScope ["sums", "counts", "lacks", "many", "number"] ["sums"] (defScope s_sums_told) := ⟨rfl, rfl, rfl, by decide +kernel, rfl, by decide +kernel, by decide +kernel⟩
noncomputable def b_sums_told : DE → SRes := (sCons (sSet 1 (eCall G_counts_in [] (aCons (xSlot 0) aNil)))
      (sCons (sSet 2 (eLc [3, 4] (iEnumerate (aCons (xSlot 1) aNil)) (gTp 2 (gsCons (gN 3) (gsCons (gN 4) gsNil))) (tOfE (eOp2 dLt (xSlot 4) (xOf (eC (.int 0))))) (eUse 3)))
      (sRet (eIf (tOfE (eOp2 (dEq true) (xSlot 2) (xOf (eLst aNil)))) (eTup (aCons (xOf (eC (.str "lack"))) (aCons (xOf (eOp2 dIx (xSlot 2) (xOf (eC (.int 0))))) aNil))) (eTup (aCons (xOf (eC (.str "sets"))) (aCons (xOf (eCall G_sets_by [] (aCons (xSlot 1) aNil))) aNil)))))))
noncomputable def G_sums_told : List D → FR := fnG [0] 1 5 b_sums_told
theorem ok_sums_told {f : Addr} {fd : FuncData} (F : FunD K "sums_told" "sums_told" (defArgs s_sums_told) (defBody s_sums_told) (defScope s_sums_told) [] [] f fd) (T : Txt mg) (C_counts_in_1 : Cal P w K mg base "counts_in" 2 1 [] G_counts_in) (C_sets_by_1 : Cal P w K mg base "sets_by" 1 1 [] G_sets_by) : FnOk P w K mg base (L2.CX P w) 3 f fd ["sums"] (spG K 1 G_sums_told) := by
  have nd := sc_sums_told.nd
  exact fn_ok F sc_sums_told fun cdv A outer s H E hr => (vss_cons (vs_set 1 (ve_cal C_counts_in_1 hr px_def (va_cons (vx_slot 0) va_nil)) nd)
      (vss_cons (vs_setLc 2 rfl nd (vi_enumerate (by rfl) T.z_enumerate (va_cons (vx_slot 1) va_nil)) (blkOk_by (own := [("many", 3), ("number", 4)]) (by kernel_rfl)) (fun _ _ _ _ _ => (vg_tup rfl (vgs_cons (vg_name 3 nd) (vgs_cons (vg_name 4 nd) vgs_nil)))) (fun _ _ _ _ _ => (vts_one (vt_cmp op_ltI os_cmpI (vx_slot 4) (vx_of ve_int) (nomark _)))) (fun _ _ _ _ _ => (ve_use 3)))
      (vss_one (vs_ret (ve_if (vt_cmp (op_neD hr.units) os_ne (vx_slot 2) (vx_of (ve_lst va_nil)) (nomark _)) (ve_tup (va_cons (vx_of (ve_globS (by rfl) T.c_LACK.choose_spec ⟨_, rfl⟩)) (va_cons (vx_of (ve_ix ix_seq os_ix (vx_slot 2) (vx_of ve_int))) va_nil))) (ve_tup (va_cons (vx_of (ve_globS (by rfl) T.c_SETS.choose_spec ⟨_, rfl⟩)) (va_cons (vx_of (ve_cal C_sets_by_1 hr px_def (va_cons (vx_slot 1) va_nil))) va_nil))))))))
/-! ### are_sets -/
abbrev s_are_sets : Stmt := topS 19
theorem sc_are_sets : FnScope ["things", "thing", "one", "at", "near", "far"] ["things", "thing"] (defScope s_are_sets) := ⟨rfl, rfl, rfl, by decide +kernel, rfl, by decide +kernel, by decide +kernel⟩
noncomputable def b_are_sets : DE → SRes := (sCons (sIf (tNotF (tOfE (eBlt (d2 dIsi) (aCons (xSlot 1) (aCons (xOf (eC (.ty "tuple"))) aNil))))) (sRet (eC (.bl false))) sNil)
      (sCons (sFor (iVal (eUse 1)) (gN 2) (sCons (sIf (tOrF (tNotF (tOfE (eBlt (d2 dIsi) (aCons (xSlot 2) (aCons (xOf (eC (.ty "tuple"))) aNil))))) (tNotF (tOfE (eBlt (d1 dAll) (aCons (xOf (eLc [3] (iSlot 2) (gN 3) tYesF (eCallK G_is_whole [some 0, some 1] [] (aCons (xSlot 3) aNil) (aCons (xOf (eC (.int 0))) (aCons (xOf (eOp2 dSub (xSlot 0) (xOf (eC (.int 1))))) aNil))))) aNil))))) (sRet (eC (.bl false))) sNil)
      (sIf (tNotF (tOfE (eBlt (d1 dAll) (aCons (xOf (eLc [4, 5] (iZip2 (aCons (xSlot 2) (aCons (xOf (eSl dSl (xSlot 2) (oAt (xOf (eC (.int 1)))) oNo)) aNil))) (gTp 2 (gsCons (gN 4) (gsCons (gN 5) gsNil))) tYesF (eOp2 dLt (xSlot 4) (xSlot 5)))) aNil)))) (sRet (eC (.bl false))) sNil)))
      (sRet (eC (.bl true)))))
noncomputable def G_are_sets : List D → FR := fnG [0, 1] 2 6 b_are_sets
theorem ok_are_sets {f : Addr} {fd : FuncData} (F : FunD K "are_sets" "are_sets" (defArgs s_are_sets) (defBody s_are_sets) (defScope s_are_sets) [] [] f fd) (T : Txt mg) (KC_is_whole_1_least_most : KCal P w K mg base "is_whole" 1 3 1 ["least", "most"] [some 0, some 1] [] G_is_whole) : FnOk P w K mg base (L2.CX P w) 2 f fd ["things", "thing"] (spG K 2 G_are_sets) := by
  have nd := sc_are_sets.nd
  exact fn_ok F sc_are_sets fun cdv A outer s H E hr => (vss_cons (vs_if (vt_not (vt_val (ve_callB call_isi cs_isi (by rfl) T.z_isinstance (by decide +kernel) (va_cons (vx_slot 1) (va_cons (vx_of (ve_bltT (by rfl) T.z_tuple (by decide +kernel))) va_nil))))) (vss_one (vs_ret ve_bl)) vss_nil)
      (vss_cons (vs_for po_def rfl (vi_val (ve_use 1)) (vg_name 2 nd) (vss_cons (vs_if (vt_w (vw_or (vt_not (vt_val (ve_callB call_isi cs_isi (by rfl) T.z_isinstance (by decide +kernel) (va_cons (vx_slot 2) (va_cons (vx_of (ve_bltT (by rfl) T.z_tuple (by decide +kernel))) va_nil))))) (vw_or1 (vt_not (vt_val (ve_callB (cr_all rfl) cs_all (by rfl) T.z_all (by decide +kernel) (va_cons (vx_of (ve_lc rfl nd (vi_slot 2) (blkOk_by (own := [("at", 3)]) (by kernel_rfl)) (fun _ _ _ _ _ => (vg_name 3 nd)) (fun _ _ _ _ _ => vts_nil) (fun _ _ _ _ _ => (ve_kcal KC_is_whole_1_least_most hr pxs0 (va_cons (vx_slot 3) va_nil) (vk_cons ve_int (vk_cons (ve_op op_sub os_I0 (vx_slot 0) (vx_of ve_int)) vk_nil)))))) va_nil))))))) (vss_one (vs_ret ve_bl)) vss_nil)
      (vss_one (vs_if (vt_not (vt_val (ve_callB (cr_all rfl) cs_all (by rfl) T.z_all (by decide +kernel) (va_cons (vx_of (ve_lc rfl nd (vi_zip (by rfl) T.z_zip (va_cons (vx_slot 2) (va_cons (vx_of (ve_sl sl_all ss_sl (vx_slot 2) (vo_at (vx_of ve_int)) vo_no)) va_nil))) (blkOk_by (own := [("near", 4), ("far", 5)]) (by kernel_rfl)) (fun _ _ _ _ _ => (vg_tup rfl (vgs_cons (vg_name 4 nd) (vgs_cons (vg_name 5 nd) vgs_nil)))) (fun _ _ _ _ _ => vts_nil) (fun _ _ _ _ _ => (ve_cmp op_ltI os_cmpI (vx_slot 4) (vx_slot 5) (nomark _))))) va_nil)))) (vss_one (vs_ret ve_bl)) vss_nil))))
      (vss_one (vs_ret ve_bl))))
/-! ### shows_sums -/
abbrev s_shows_sums : Stmt := topS 20
theorem sc_shows_sums : FnScope ["sums", "thing"] ["sums", "thing"] (defScope s_shows_sums) := ⟨rfl, rfl, rfl, by decide +kernel, rfl, by decide +kernel, by decide +kernel⟩
noncomputable def b_shows_sums : DE → SRes := (sCons (sIf (tOrF (tNotF (tOfE (eBlt (d2 dIsi) (aCons (xSlot 1) (aCons (xOf (eC (.ty "tuple"))) aNil))))) (tOrF (tOfE (eOp2 (dEq true) (xOf (eBlt (d1 dLen) (aCons (xSlot 1) aNil))) (xOf (eC (.int 2))))) (tNotF (tOfE (eBlt (d2 dIsi) (aCons (xOf (eOp2 dIx (xSlot 1) (xOf (eC (.int 0))))) (aCons (xOf (eC (.ty "str"))) aNil))))))) (sRet (eC (.bl false))) sNil)
      (sCons (sIf (tOfE (eOp2 (dEq false) (xOf (eOp2 dIx (xSlot 1) (xOf (eC (.int 0))))) (xOf (eC (.str "lack"))))) (sRet (eAnd (eCallK G_is_whole [some 0, some 1] [] (aCons (xOf (eOp2 dIx (xSlot 1) (xOf (eC (.int 1))))) aNil) (aCons (xOf (eC (.int 0))) (aCons (xOf (eOp2 dSub (xOf (eBlt (d1 dLen) (aCons (xSlot 0) aNil))) (xOf (eC (.int 1))))) aNil))) (eOp2 dLt (xOf (eOp2 dIx (xOf (eCall G_counts_in [] (aCons (xSlot 0) aNil))) (xOf (eOp2 dIx (xSlot 1) (xOf (eC (.int 1))))))) (xOf (eC (.int 0)))))) sNil)
      (sCons (sIf (tOrF (tOfE (eOp2 (dEq true) (xOf (eOp2 dIx (xSlot 1) (xOf (eC (.int 0))))) (xOf (eC (.str "sets"))))) (tOrF (tNotF (tOfE (eCall G_are_sets [] (aCons (xOf (eOp2 dIx (xSlot 0) (xOf (eC (.int 0))))) (aCons (xOf (eOp2 dIx (xSlot 1) (xOf (eC (.int 1))))) aNil))))) (tOfE (eOp2 (dEq true) (xOf (eBlt (d1 dLen) (aCons (xOf (eOp2 dIx (xSlot 1) (xOf (eC (.int 1))))) aNil))) (xOf (eOp2 dSub (xOf (eBlt (d1 dLen) (aCons (xSlot 0) aNil))) (xOf (eC (.int 1))))))))) (sRet (eC (.bl false))) sNil)
      (sRet (eOp2 (dEq false) (xOf (eCall G_counts_by [] (aCons (xOf (eOp2 dIx (xSlot 0) (xOf (eC (.int 0))))) (aCons (xOf (eOp2 dIx (xSlot 1) (xOf (eC (.int 1))))) aNil)))) (xOf (eCall G_counts_in [] (aCons (xSlot 0) aNil))))))))
noncomputable def G_shows_sums : List D → FR := fnG [0, 1] 2 2 b_shows_sums
theorem ok_shows_sums {f : Addr} {fd : FuncData} (F : FunD K "shows_sums" "shows_sums" (defArgs s_shows_sums) (defBody s_shows_sums) (defScope s_shows_sums) [] [] f fd) (T : Txt mg) (KC_is_whole_1_least_most : KCal P w K mg base "is_whole" 1 3 1 ["least", "most"] [some 0, some 1] [] G_is_whole) (C_counts_in_1 : Cal P w K mg base "counts_in" 2 1 [] G_counts_in) (C_are_sets_2 : Cal P w K mg base "are_sets" 2 2 [] G_are_sets) (C_counts_by_2 : Cal P w K mg base "counts_by" 1 2 [] G_counts_by) : FnOk P w K mg base (L2.CX P w) 3 f fd ["sums", "thing"] (spG K 2 G_shows_sums) := by
  have nd := sc_shows_sums.nd
  exact fn_ok F sc_shows_sums fun cdv A outer s H E hr => (vss_cons (vs_if (vt_w (vw_or (vt_not (vt_val (ve_callB call_isi cs_isi (by rfl) T.z_isinstance (by decide +kernel) (va_cons (vx_slot 1) (va_cons (vx_of (ve_bltT (by rfl) T.z_tuple (by decide +kernel))) va_nil))))) (vw_or (vt_cmp (op_neD hr.units) os_ne (vx_of (ve_callB call_lenA cs_len (by rfl) T.z_len (by decide +kernel) (va_cons (vx_slot 1) va_nil))) (vx_of ve_int) (nomark _)) (vw_or1 (vt_not (vt_val (ve_callB call_isi cs_isi (by rfl) T.z_isinstance (by decide +kernel) (va_cons (vx_of (ve_ix ix_seq os_ix (vx_slot 1) (vx_of ve_int))) (va_cons (vx_of (ve_bltT (by rfl) T.z_str (by decide +kernel))) va_nil))))))))) (vss_one (vs_ret ve_bl)) vss_nil)
      (vss_cons (vs_if (vt_cmp (op_eqD hr.units) os_eq (vx_of (ve_ix ix_seq os_ix (vx_slot 1) (vx_of ve_int))) (vx_of (ve_globS (by rfl) T.c_LACK.choose_spec ⟨_, rfl⟩)) (nomark _)) (vss_one (vs_ret (ve_and (ve_kcal KC_is_whole_1_least_most hr px_def (va_cons (vx_of (ve_ix ix_seq os_ix (vx_slot 1) (vx_of ve_int))) va_nil) (vk_cons ve_int (vk_cons (ve_op op_sub os_I0 (vx_of (ve_callB call_lenA cs_len (by rfl) T.z_len (by decide +kernel) (va_cons (vx_slot 0) va_nil))) (vx_of ve_int)) vk_nil))) (ve_one (ve_cmp op_ltI os_cmpI (vx_of (ve_ix ix_seq os_ix (vx_of (ve_cal C_counts_in_1 hr px_def (va_cons (vx_slot 0) va_nil))) (vx_of (ve_ix ix_seq os_ix (vx_slot 1) (vx_of ve_int))))) (vx_of ve_int) (nomark _)))))) vss_nil)
      (vss_cons (vs_if (vt_w (vw_or (vt_cmp (op_neD hr.units) os_ne (vx_of (ve_ix ix_seq os_ix (vx_slot 1) (vx_of ve_int))) (vx_of (ve_globS (by rfl) T.c_SETS.choose_spec ⟨_, rfl⟩)) (nomark _)) (vw_or (vt_not (vt_val (ve_cal C_are_sets_2 hr px_def (va_cons (vx_of (ve_ix ix_seq os_ix (vx_slot 0) (vx_of ve_int))) (va_cons (vx_of (ve_ix ix_seq os_ix (vx_slot 1) (vx_of ve_int))) va_nil))))) (vw_or1 (vt_cmp (op_neD hr.units) os_ne (vx_of (ve_callB call_lenA cs_len (by rfl) T.z_len (by decide +kernel) (va_cons (vx_of (ve_ix ix_seq os_ix (vx_slot 1) (vx_of ve_int))) va_nil))) (vx_of (ve_op op_sub os_I0 (vx_of (ve_callB call_lenA cs_len (by rfl) T.z_len (by decide +kernel) (va_cons (vx_slot 0) va_nil))) (vx_of ve_int))) (nomark _)))))) (vss_one (vs_ret ve_bl)) vss_nil)
      (vss_one (vs_ret (ve_cmp (op_eqD hr.units) os_eq (vx_of (ve_cal C_counts_by_2 hr px_def (va_cons (vx_of (ve_ix ix_seq os_ix (vx_slot 0) (vx_of ve_int))) (va_cons (vx_of (ve_ix ix_seq os_ix (vx_slot 1) (vx_of ve_int))) va_nil)))) (vx_of (ve_cal C_counts_in_1 hr px_def (va_cons (vx_slot 0) va_nil))) (nomark _)))))))
/-! ### need_things -/
abbrev s_need_things : Stmt := topS 21
theorem sc_need_things : FnScope ["things"] ["things"] (defScope s_need_things) := ⟨rfl, rfl, rfl, by decide +kernel, rfl, by decide +kernel, by decide +kernel⟩
noncomputable def b_need_things : DE → SRes := (sIf (tNotF (tOfE (eCallK G_is_whole [some 0, some 1] [] (aCons (xSlot 0) aNil) (aCons (xOf (eC (.int 0))) (aCons (xOf (eC (.int 30))) aNil))))) (fun _ => .stuck) sNil)
noncomputable def G_need_things : List D → FR := fnG [0] 1 1 b_need_things
theorem ok_need_things {f : Addr} {fd : FuncData} (F : FunD K "need_things" "need_things" (defArgs s_need_things) (defBody s_need_things) (defScope s_need_things) [] [] f fd) (T : Txt mg) (KC_is_whole_1_least_most : KCal P w K mg base "is_whole" 1 3 1 ["least", "most"] [some 0, some 1] [] G_is_whole) : FnOk P w K mg base (L2.CX P w) 2 f fd ["things"] (spG K 1 G_need_things) := by
  have nd := sc_need_things.nd
  exact fn_ok F sc_need_things fun cdv A outer s H E hr => (vss_one (vs_if (vt_not (vt_val (ve_kcal KC_is_whole_1_least_most hr px_def (va_cons (vx_slot 0) va_nil) (vk_cons ve_int (vk_cons (ve_globI (by rfl) T.c_MOST_THINGS.choose_spec ⟨_, rfl⟩) vk_nil))))) (vss_one vs_never) vss_nil))
/-! ### need_sums -/
abbrev s_need_sums : Stmt := topS 22
theorem sc_need_sums : FnScope ["thing", "number"] ["thing"] (defScope s_need_sums) := ⟨rfl, rfl, rfl, by decide +kernel, rfl, by decide +kernel, by decide +kernel⟩
noncomputable def b_need_sums : DE → SRes := (sCons (sIf (tOrF (tNotF (tOfE (eBlt (d2 dIsi) (aCons (xSlot 0) (aCons (xOf (eC (.ty "tuple"))) aNil))))) (tNotF (tOfE (eChain dLe dLe (xOf (eC (.int 2))) (xOf (eBlt (d1 dLen) (aCons (xSlot 0) aNil))) (xOf (eOp2 dAdd (xOf (eC (.int 6))) (xOf (eC (.int 1))))))))) (fun _ => .stuck) sNil)
      (sIf (tNotF (tOfE (eBlt (d1 dAll) (aCons (xOf (eLc [1] (iSlot 0) (gN 1) tYesF (eAnd (eCall G_is_whole [.non, .non] (aCons (xSlot 1) aNil)) (eOp2 dLt (xOf (eBlt (d1 dAbs) (aCons (xSlot 1) aNil))) (xOf (eC (.int 1000000000000000000000000000000))))))) aNil)))) (fun _ => .stuck) sNil))
noncomputable def G_need_sums : List D → FR := fnG [0] 1 2 b_need_sums
theorem ok_need_sums {f : Addr} {fd : FuncData} (F : FunD K "need_sums" "need_sums" (defArgs s_need_sums) (defBody s_need_sums) (defScope s_need_sums) [] [] f fd) (T : Txt mg) (C_is_whole_1 : Cal P w K mg base "is_whole" 1 3 [.non, .non] G_is_whole) : FnOk P w K mg base (L2.CX P w) 2 f fd ["thing"] (spG K 1 G_need_sums) := by
  have nd := sc_need_sums.nd
  exact fn_ok F sc_need_sums fun cdv A outer s H E hr => (vss_cons (vs_if (vt_w (vw_or (vt_not (vt_val (ve_callB call_isi cs_isi (by rfl) T.z_isinstance (by decide +kernel) (va_cons (vx_slot 0) (va_cons (vx_of (ve_bltT (by rfl) T.z_tuple (by decide +kernel))) va_nil))))) (vw_or1 (vt_not (vt_chain op_leI op_leI os_cmpI os_cmpI (vx_of ve_int) (vx_of (ve_callB call_lenA cs_len (by rfl) T.z_len (by decide +kernel) (va_cons (vx_slot 0) va_nil))) (vx_of (ve_op op_addA os_add (vx_of (ve_globI (by rfl) T.c_MOST_SETS.choose_spec ⟨_, rfl⟩)) (vx_of ve_int)))))))) (vss_one vs_never) vss_nil)
      (vss_one (vs_if (vt_not (vt_val (ve_callB (cr_all rfl) cs_all (by rfl) T.z_all (by decide +kernel) (va_cons (vx_of (ve_lc rfl nd (vi_slot 0) (blkOk_by (own := [("number", 1)]) (by kernel_rfl)) (fun _ _ _ _ _ => (vg_name 1 nd)) (fun _ _ _ _ _ => vts_nil) (fun _ _ _ _ _ => (ve_and (ve_cal C_is_whole_1 hr pxs0 (va_cons (vx_slot 1) va_nil)) (ve_one (ve_cmp op_ltI os_cmpI (vx_of (ve_callB call_abs cs_abs (by rfl) T.z_abs (by decide +kernel) (va_cons (vx_slot 1) va_nil))) (vx_of (ve_globI (by rfl) T.c_LONGEST.choose_spec ⟨_, rfl⟩)) (nomark _))))))) va_nil)))) (vss_one vs_never) vss_nil)))
/-! ### sums_paper -/
abbrev s_sums_paper : Stmt := topS 23
theorem sc_sums_paper : FnScope ["sums"] ["sums"] (defScope s_sums_paper) := ⟨rfl, rfl, rfl, by decide +kernel, rfl, by decide +kernel, by decide +kernel⟩
noncomputable def b_sums_paper : DE → SRes := (sCons (sExpr (eCall G_need_sums [] (aCons (xSlot 0) aNil)))
      (sCons (sExpr (eCall G_need_things [] (aCons (xOf (eOp2 dIx (xSlot 0) (xOf (eC (.int 0))))) aNil)))
      (sRet (eCall G_sums_told [] (aCons (xSlot 0) aNil)))))
noncomputable def G_sums_paper : List D → FR := fnG [0] 1 1 b_sums_paper
theorem ok_sums_paper {f : Addr} {fd : FuncData} (F : FunD K "sums_paper" "sums_paper" (defArgs s_sums_paper) (defBody s_sums_paper) (defScope s_sums_paper) [] [] f fd) (T : Txt mg) (C_need_sums_1 : Cal P w K mg base "need_sums" 2 1 [] G_need_sums) (C_need_things_1 : Cal P w K mg base "need_things" 2 1 [] G_need_things) (C_sums_told_1 : Cal P w K mg base "sums_told" 3 1 [] G_sums_told) : FnOk P w K mg base (L2.CX P w) 4 f fd ["sums"] (spG K 1 G_sums_paper) := by
  have nd := sc_sums_paper.nd
  exact fn_ok F sc_sums_paper fun cdv A outer s H E hr => (vss_cons (vs_expr (ve_cal C_need_sums_1 hr px_def (va_cons (vx_slot 0) va_nil)))
      (vss_cons (vs_expr (ve_cal C_need_things_1 hr px_def (va_cons (vx_of (ve_ix ix_seq os_ix (vx_slot 0) (vx_of ve_int))) va_nil)))
      (vss_one (vs_ret (ve_cal C_sums_told_1 hr px_def (va_cons (vx_slot 0) va_nil))))))
/-! ### is_sums_paper -/
abbrev s_is_sums_paper : Stmt := topS 24
theorem sc_is_sums_paper : FnScope ["sums", "value"] ["sums", "value"] (defScope s_is_sums_paper) := ⟨rfl, rfl, rfl, by decide +kernel, rfl, by decide +kernel, by decide +kernel⟩
noncomputable def b_is_sums_paper : DE → SRes := (sCons (sExpr (eCall G_need_sums [] (aCons (xSlot 0) aNil)))
      (sCons (sExpr (eCall G_need_things [] (aCons (xOf (eOp2 dIx (xSlot 0) (xOf (eC (.int 0))))) aNil)))
      (sRet (eCall G_shows_sums [] (aCons (xSlot 0) (aCons (xSlot 1) aNil))))))
noncomputable def G_is_sums_paper : List D → FR := fnG [0, 1] 2 2 b_is_sums_paper
theorem ok_is_sums_paper {f : Addr} {fd : FuncData} (F : FunD K "is_sums_paper" "is_sums_paper" (defArgs s_is_sums_paper) (defBody s_is_sums_paper) (defScope s_is_sums_paper) [] [] f fd) (T : Txt mg) (C_need_sums_1 : Cal P w K mg base "need_sums" 2 1 [] G_need_sums) (C_need_things_1 : Cal P w K mg base "need_things" 2 1 [] G_need_things) (C_shows_sums_2 : Cal P w K mg base "shows_sums" 3 2 [] G_shows_sums) : FnOk P w K mg base (L2.CX P w) 4 f fd ["sums", "value"] (spG K 2 G_is_sums_paper) := by
  have nd := sc_is_sums_paper.nd
  exact fn_ok F sc_is_sums_paper fun cdv A outer s H E hr => (vss_cons (vs_expr (ve_cal C_need_sums_1 hr px_def (va_cons (vx_slot 0) va_nil)))
      (vss_cons (vs_expr (ve_cal C_need_things_1 hr px_def (va_cons (vx_of (ve_ix ix_seq os_ix (vx_slot 0) (vx_of ve_int))) va_nil)))
      (vss_one (vs_ret (ve_cal C_shows_sums_2 hr px_def (va_cons (vx_slot 0) (va_cons (vx_slot 1) va_nil)))))))
/-! ### _law_crock -/
abbrev s__law_crock : Stmt := topS 26
theorem sc__law_crock : FnScope ["script", "spot", "cell", "great"] ["script", "spot"] (defScope s__law_crock) := ⟨rfl, rfl, rfl, by decide +kernel, rfl, by decide +kernel, by decide +kernel⟩
noncomputable def b__law_crock : DE → SRes := (sCons (sSet 2 (eIf (tOfE (eOp2 dLt (xSlot 1) (xOf (eBlt (d1 dLen) (aCons (xSlot 0) aNil))))) (eBlt (d1 dInt) (aCons (xOf (eOp2 dIx (xSlot 0) (xSlot 1))) aNil)) (eOp2 dAdd (xOf (eOp2 dMul (xOf (eC (.int 967))) (xSlot 1))) (xOf (eC (.int 83))))))
      (sCons (sSet 3 (eOp2 dMod (xOf (eBlt (d1 dInt) (aCons (xOf (eBlt (d1 dAbs) (aCons (xSlot 2) aNil))) aNil))) (xOf (eOp2 dPow (xOf (eOp2 dPow (xOf (eC (.int 10))) (xOf (eC (.int 58))))) (xOf (eC (.int 5)))))))
      (sRet (eLst (aCons (xOf (eBlt dMax (aCons (xOf (eC (.int 0))) (aCons (xOf (eOp2 dSub (xSlot 3) (xOf (eOp2 dPow (xOf (eC (.int 10))) (xOf (eC (.int 17))))))) aNil)))) (aCons (xOf (eOp2 dAdd (xOf (eOp2 dAdd (xOf (eOp2 dAdd (xOf (eOp2 dMul (xOf (eOp2 dMod (xOf (eBlt (d1 dInt) (aCons (xSlot 3) aNil))) (xOf (eC (.int 2305843009213693907))))) (xOf (eC (.int 101))))) (xOf (eOp2 dMul (xOf (eC (.int 1171))) (xSlot 1))))) (xOf (eOp2 dMul (xOf (eC (.int 43))) (xOf (eBlt (d1 dInt) (aCons (xOf (eOp2 dLt (xSlot 2) (xOf (eC (.int 0))))) aNil))))))) (xOf (eC (.int 19))))) (aCons (xOf (eC (.int 0))) aNil)))))))
noncomputable def G__law_crock : List D → FR := fnG [0, 1] 2 4 b__law_crock
theorem ok__law_crock {f : Addr} {fd : FuncData} (F : FunD K "_law_crock" "_law_crock" (defArgs s__law_crock) (defBody s__law_crock) (defScope s__law_crock) [] [] f fd) (T : Txt mg)  : FnOk P w K mg base (L2.CX P w) 1 f fd ["script", "spot"] (spG K 2 G__law_crock) := by
  have nd := sc__law_crock.nd
  exact fn_ok F sc__law_crock fun cdv A outer s H E hr => (vss_cons (vs_set 2 (ve_if (vt_cmp op_ltI os_cmpI (vx_slot 1) (vx_of (ve_callB call_lenA cs_len (by rfl) T.z_len (by decide +kernel) (va_cons (vx_slot 0) va_nil))) (nomark _)) (ve_callTy call_int1 cs_int (by rfl) T.z_int (by decide +kernel) (va_cons (vx_of (ve_ix ix_seq os_ix (vx_slot 0) (vx_slot 1))) va_nil)) (ve_op op_addA os_add (vx_of (ve_op op_mulA os_mul (vx_of ve_int) (vx_slot 1))) (vx_of ve_int))) nd)
      (vss_cons (vs_set 3 (ve_op op_mod os_mod (vx_of (ve_callTy call_int1 cs_int (by rfl) T.z_int (by decide +kernel) (va_cons (vx_of (ve_callB call_abs cs_abs (by rfl) T.z_abs (by decide +kernel) (va_cons (vx_slot 2) va_nil))) va_nil))) (vx_of (ve_op op_powW os_pow (vx_of (ve_op op_powW os_pow (vx_of ve_int) (vx_of ve_int))) (vx_of ve_int)))) nd)
      (vss_one (vs_ret (ve_lst (va_cons (vx_of (ve_callB (call_maxA rfl) cs_max (by rfl) T.z_max (by decide +kernel) (va_cons (vx_of ve_int) (va_cons (vx_of (ve_op op_sub os_I0 (vx_slot 3) (vx_of (ve_op op_powW os_pow (vx_of ve_int) (vx_of ve_int))))) va_nil)))) (va_cons (vx_of (ve_op op_addA os_add (vx_of (ve_op op_addA os_add (vx_of (ve_op op_addA os_add (vx_of (ve_op op_mulA os_mul (vx_of (ve_op op_mod os_mod (vx_of (ve_callTy call_int1 cs_int (by rfl) T.z_int (by decide +kernel) (va_cons (vx_slot 3) va_nil))) (vx_of ve_int))) (vx_of ve_int))) (vx_of (ve_op op_mulA os_mul (vx_of ve_int) (vx_slot 1))))) (vx_of (ve_op op_mulA os_mul (vx_of ve_int) (vx_of (ve_callTy call_int1 cs_int (by rfl) T.z_int (by decide +kernel) (va_cons (vx_of (ve_cmp op_ltI os_cmpI (vx_slot 2) (vx_of ve_int) (nomark _))) va_nil))))))) (vx_of ve_int))) (va_cons (vx_of ve_int) va_nil))))))))
/-! ### _law_ladle -/
abbrev s__law_ladle : Stmt := topS 27
theorem sc__law_ladle : FnScope ["crock", "total", "found", "one", "two"] ["crock", "total"] (defScope s__law_ladle) := ⟨rfl, rfl, rfl, by decide +kernel, rfl, by decide +kernel, by decide +kernel⟩
noncomputable def b__law_ladle : DE → SRes := (sCons (sIf (tOfE (eOp2 dGt (xOf (eOp2 dIx (xSlot 0) (xOf (eC (.int 0))))) (xOf (eC (.int 0))))) (sCons (sSet 2 (eOp2 dMod (xOf (eBlt (d1 dInt) (aCons (xOf (eOp2 dIx (xSlot 0) (xOf (eC (.int 0))))) aNil))) (xSlot 1)))
      (sCons (sAsg (eOp2 dFdiv (xOf (eOp2 dIx (xSlot 0) (xOf (eC (.int 0))))) (xSlot 1)) (gIx 0 (xOf (eC (.int 0)))))
      (sRet (eMove 2)))) sNil)
      (sCons (sAsg (eOp2 dAdd (xOf (eOp2 dIx (xSlot 0) (xOf (eC (.int 2))))) (xOf (eC (.int 1)))) (gIx 0 (xOf (eC (.int 2)))))
      (sCons (sSet 3 (eOp2 dMod (xOf (eBlt (d1 dInt) (aCons (xOf (eOp2 dAdd (xOf (eOp2 dIx (xSlot 0) (xOf (eC (.int 1))))) (xOf (eOp2 dMul (xOf (eC (.int 86028121))) (xOf (eOp2 dIx (xSlot 0) (xOf (eC (.int 2))))))))) aNil))) (xOf (eC (.int 2305843009213693951)))))
      (sCons (sSet 4 (eOp2 dAdd (xOf (eOp2 dMul (xOf (eOp2 dMod (xOf (eBlt (d1 dInt) (aCons (xOf (eOp2 dAdd (xOf (eOp2 dMul (xSlot 3) (xSlot 3))) (xOf (eOp2 dMul (xOf (eC (.int 271))) (xOf (eOp2 dIx (xSlot 0) (xOf (eC (.int 2))))))))) aNil))) (xOf (eC (.int 2305843009213693921))))) (xOf (eC (.int 5915587277))))) (xSlot 3)))
      (sRet (eOp2 dMod (xOf (eBlt (d1 dInt) (aCons (xOf (eOp2 dFdiv (xSlot 4) (xOf (eC (.int 65543))))) aNil))) (xSlot 1)))))))
noncomputable def G__law_ladle : List D → FR := fnG [0, 1] 2 5 b__law_ladle
theorem ok__law_ladle {f : Addr} {fd : FuncData} (F : FunD K "_law_ladle" "_law_ladle" (defArgs s__law_ladle) (defBody s__law_ladle) (defScope s__law_ladle) [] [] f fd) (T : Txt mg)  : FnOk P w K mg base (L2.CX P w) 1 f fd ["crock", "total"] (spG K 2 G__law_ladle) := by
  have nd := sc__law_ladle.nd
  exact fn_ok F sc__law_ladle fun cdv A outer s H E hr => (vss_cons (vs_if (vt_cmp op_gtI os_cmpI (vx_of (ve_ix ix_seq os_ix (vx_slot 0) (vx_of ve_int))) (vx_of ve_int) (nomark _)) (vss_cons (vs_set 2 (ve_op op_mod os_mod (vx_of (ve_callTy call_int1 cs_int (by rfl) T.z_int (by decide +kernel) (va_cons (vx_of (ve_ix ix_seq os_ix (vx_slot 0) (vx_of ve_int))) va_nil))) (vx_slot 1)) nd)
      (vss_cons (vs_asg (ve_op op_fdivW os_fdiv (vx_of (ve_ix ix_seq os_ix (vx_slot 0) (vx_of ve_int))) (vx_slot 1)) (vg_ix (W := W0) 0 (vx_of ve_int)))
      (vss_one (vs_ret (ve_move 2))))) vss_nil)
      (vss_cons (vs_asg (ve_op op_addA os_add (vx_of (ve_ix ix_seq os_ix (vx_slot 0) (vx_of ve_int))) (vx_of ve_int)) (vg_ix (W := W0) 0 (vx_of ve_int)))
      (vss_cons (vs_set 3 (ve_op op_mod os_mod (vx_of (ve_callTy call_int1 cs_int (by rfl) T.z_int (by decide +kernel) (va_cons (vx_of (ve_op op_addA os_add (vx_of (ve_ix ix_seq os_ix (vx_slot 0) (vx_of ve_int))) (vx_of (ve_op op_mulA os_mul (vx_of ve_int) (vx_of (ve_ix ix_seq os_ix (vx_slot 0) (vx_of ve_int))))))) va_nil))) (vx_of ve_int)) nd)
      (vss_cons (vs_set 4 (ve_op op_addA os_add (vx_of (ve_op op_mulA os_mul (vx_of (ve_op op_mod os_mod (vx_of (ve_callTy call_int1 cs_int (by rfl) T.z_int (by decide +kernel) (va_cons (vx_of (ve_op op_addA os_add (vx_of (ve_op op_mulA os_mul (vx_slot 3) (vx_slot 3))) (vx_of (ve_op op_mulA os_mul (vx_of ve_int) (vx_of (ve_ix ix_seq os_ix (vx_slot 0) (vx_of ve_int))))))) va_nil))) (vx_of ve_int))) (vx_of ve_int))) (vx_slot 3)) nd)
      (vss_one (vs_ret (ve_op op_mod os_mod (vx_of (ve_callTy call_int1 cs_int (by rfl) T.z_int (by decide +kernel) (va_cons (vx_of (ve_op op_fdivW os_fdiv (vx_slot 4) (vx_of ve_int))) va_nil))) (vx_slot 1))))))))
/-! ### _law_is_whole -/
abbrev s__law_is_whole : Stmt := topS 28
theorem sc__law_is_whole : FnScope ["value"] ["value"] (defScope s__law_is_whole) := ⟨rfl, rfl, rfl, by decide +kernel, rfl, by decide +kernel, by decide +kernel⟩
noncomputable def b__law_is_whole : DE → SRes := (sRet (eAnd (eBlt (d2 dIsi) (aCons (xSlot 0) (aCons (xOf (eC (.ty "int"))) aNil))) (eNot (eBlt (d2 dIsi) (aCons (xSlot 0) (aCons (xOf (eC (.ty "bool"))) aNil))))))
noncomputable def G__law_is_whole : List D → FR := fnG [0] 1 1 b__law_is_whole
theorem ok__law_is_whole {f : Addr} {fd : FuncData} (F : FunD K "_law_is_whole" "_law_is_whole" (defArgs s__law_is_whole) (defBody s__law_is_whole) (defScope s__law_is_whole) [] [] f fd) (T : Txt mg)  : FnOk P w K mg base (L2.CX P w) 1 f fd ["value"] (spG K 1 G__law_is_whole) := by
  have nd := sc__law_is_whole.nd
  exact fn_ok F sc__law_is_whole fun cdv A outer s H E hr => (vss_one (vs_ret (ve_and (ve_callB call_isi cs_isi (by rfl) T.z_isinstance (by decide +kernel) (va_cons (vx_slot 0) (va_cons (vx_of (ve_bltT (by rfl) T.z_int (by decide +kernel))) va_nil))) (ve_one (ve_not (ve_callB call_isi cs_isi (by rfl) T.z_isinstance (by decide +kernel) (va_cons (vx_slot 0) (va_cons (vx_of (ve_bltT (by rfl) T.z_bool (by decide +kernel))) va_nil))))))))
/-! ### _law_lots -/
abbrev s__law_lots : Stmt := topS 29
theorem sc__law_lots : FnScope ["many", "found", "layer", "later", "lot", "at"] ["many"] (defScope s__law_lots) := ⟨rfl, rfl, rfl, by decide +kernel, rfl, by decide +kernel, by decide +kernel⟩
noncomputable def b__law_lots : DE → SRes := (sCons (sPar2 1 2 (aCons (xOf (eLst (aCons (xOf (eTup aNil)) aNil))) (aCons (xOf (eLst (aCons (xOf (eTup aNil)) aNil))) aNil)))
      (sCons (sWhile (tOfE (eOp2 (dEq true) (xSlot 2) (xOf (eLst aNil)))) (sCons (sSet 3 (eLst aNil))
      (sCons (sFor (iVal (eUse 2)) (gN 4) (sExpr (eExt 3 (eLc [5] (iRng2f (aCons (xOf (eIf (tOfE (eOp2 (dEq true) (xSlot 4) (xOf (eTup aNil)))) (eOp2 dAdd (xOf (eOp2 dIx (xSlot 4) (xOf (eUn dNeg (xOf (eC (.int 1))))))) (xOf (eC (.int 1)))) (eC (.int 0)))) (aCons (xSlot 0) aNil))) (gN 5) tYesF (eOp2 dAdd (xSlot 4) (xOf (eTup (aCons (xOf (eUse 5)) aNil))))))))
      (sPar2 1 2 (aCons (xOf (eOp2 dAdd (xSlot 1) (xSlot 3))) (aCons (xOf (eBlt (d1 dList) (aCons (xSlot 3) aNil))) aNil))))))
      (sRet (eMove 1))))
noncomputable def G__law_lots : List D → FR := fnG [0] 1 6 b__law_lots
theorem ok__law_lots {f : Addr} {fd : FuncData} (F : FunD K "_law_lots" "_law_lots" (defArgs s__law_lots) (defBody s__law_lots) (defScope s__law_lots) [] [] f fd) (T : Txt mg)  : FnOk P w K mg base (L2.CX P w) 1 f fd ["many"] (spG K 1 G__law_lots) := by
  have nd := sc__law_lots.nd
  exact fn_ok F sc__law_lots fun cdv A outer s H E hr => (vss_cons (vs_par2 1 2 nd (va_cons (vx_of (ve_lst (va_cons (vx_of (ve_tup va_nil)) va_nil))) (va_cons (vx_of (ve_lst (va_cons (vx_of (ve_tup va_nil)) va_nil))) va_nil)))
      (vss_cons (vs_while po_def (vt_cmp (op_neD hr.units) os_ne (vx_slot 2) (vx_of (ve_lst va_nil)) (nomark _)) (vss_cons (vs_set 3 (ve_lst va_nil) nd)
      (vss_cons (vs_for po_def rfl (vi_val (ve_use 2)) (vg_name 4 nd) (vss_one (vs_expr (ve_extend 3 (ve_lc rfl nd (vi_range2 (by rfl) T.z_range (va_cons (vx_of (ve_if (vt_cmp (op_neD hr.units) os_ne (vx_slot 4) (vx_of (ve_tup va_nil)) (nomark _)) (ve_op op_addA os_add (vx_of (ve_ix ix_seq os_ix (vx_slot 4) (vx_of (ve_un un_neg us_neg (vx_of ve_int))))) (vx_of ve_int)) ve_int)) (va_cons (vx_slot 0) va_nil))) (blkOk_by (own := [("at", 5)]) (by kernel_rfl)) (fun _ _ _ _ _ => (vg_name 5 nd)) (fun _ _ _ _ _ => vts_nil) (fun _ _ _ _ _ => (ve_op op_addA os_add (vx_slot 4) (vx_of (ve_tup (va_cons (vx_of (ve_use 5)) va_nil))))))))))
      (vss_one (vs_par2 1 2 nd (va_cons (vx_of (ve_op op_addA os_add (vx_slot 1) (vx_slot 3))) (va_cons (vx_of (ve_callTy call_list_of cs_list (by rfl) T.z_list (by decide +kernel) (va_cons (vx_slot 3) va_nil))) va_nil)))))))
      (vss_one (vs_ret (ve_move 1)))))
/-! ### _law_out_of -/
abbrev s__law_out_of : Stmt := topS 30
theorem sc__law_out_of : FnScope ["many", "few", "found", "at"] ["many", "few"] (defScope s__law_out_of) := ⟨rfl, rfl, rfl, by decide +kernel, rfl, by decide +kernel, by decide +kernel⟩
noncomputable def b__law_out_of : DE → SRes := (sCons (sSet 2 (eC (.int 1)))
      (sCons (sFor (iRng1f (aCons (xSlot 1) aNil)) (gN 3) (sSet 2 (eOp2 dFdiv (xOf (eOp2 dMul (xSlot 2) (xOf (eOp2 dSub (xSlot 0) (xSlot 3))))) (xOf (eOp2 dAdd (xSlot 3) (xOf (eC (.int 1))))))))
      (sRet (eIf (tOfE (eOp2 dLe (xSlot 1) (xSlot 0))) (eUse 2) (eC (.int 0))))))
noncomputable def G__law_out_of : List D → FR := fnG [0, 1] 2 4 b__law_out_of
theorem ok__law_out_of {f : Addr} {fd : FuncData} (F : FunD K "_law_out_of" "_law_out_of" (defArgs s__law_out_of) (defBody s__law_out_of) (defScope s__law_out_of) [] [] f fd) (T : Txt mg)  : FnOk P w K mg base (L2.CX P w) 1 f fd ["many", "few"] (spG K 2 G__law_out_of) := by
  have nd := sc__law_out_of.nd
  exact fn_ok F sc__law_out_of fun cdv A outer s H E hr => (vss_cons (vs_set 2 ve_int nd)
      (vss_cons (vs_for po_def rfl (vi_range1 (by rfl) T.z_range (va_cons (vx_slot 1) va_nil)) (vg_name 3 nd) (vss_one (vs_set 2 (ve_op op_fdivW os_fdiv (vx_of (ve_op op_mulA os_mul (vx_slot 2) (vx_of (ve_op op_sub os_I0 (vx_slot 0) (vx_slot 3))))) (vx_of (ve_op op_addA os_add (vx_slot 3) (vx_of ve_int)))) nd)))
      (vss_one (vs_ret (ve_if (vt_cmp op_leI os_cmpI (vx_slot 1) (vx_slot 0) (nomark _)) (ve_use 2) ve_int)))))
/-! ### _law_sets -/
abbrev s__law_sets : Stmt := topS 31
theorem sc__law_sets : FnScope ["crock", "things", "many", "found", "one", "most", "thing"] ["crock", "things", "many"] (defScope s__law_sets) := ⟨rfl, rfl, rfl, by decide +kernel, rfl, by decide +kernel, by decide +kernel⟩
noncomputable def b__law_sets : DE → SRes := (sCons (sSet 3 (eLst aNil))
      (sCons (sFor (iRng1f (aCons (xOf (eOp2 dAdd (xOf (eC (.int 1))) (xOf (eCall G__law_ladle [] (aCons (xSlot 0) (aCons (xSlot 2) aNil)))))) aNil)) (gN 4) (sCons (sSet 5 (eOp2 dAdd (xOf (eC (.int 2))) (xOf (eCall G__law_ladle [] (aCons (xSlot 0) (aCons (xOf (eC (.int 3))) aNil))))))
      (sExpr (eApp 3 (eBlt (d1 dTuple) (aCons (xOf (eLc [6] (iRng1f (aCons (xSlot 1) aNil)) (gN 6) (tOfE (eOp2 (dEq false) (xOf (eCall G__law_ladle [] (aCons (xSlot 0) (aCons (xSlot 5) aNil)))) (xOf (eC (.int 0))))) (eUse 6))) aNil))))))
      (sRet (eBlt (d1 dTuple) (aCons (xSlot 3) aNil)))))
noncomputable def G__law_sets : List D → FR := fnG [0, 1, 2] 3 7 b__law_sets
theorem ok__law_sets {f : Addr} {fd : FuncData} (F : FunD K "_law_sets" "_law_sets" (defArgs s__law_sets) (defBody s__law_sets) (defScope s__law_sets) [] [] f fd) (T : Txt mg) (C__law_ladle_2 : Cal P w K mg base "_law_ladle" 1 2 [] G__law_ladle) : FnOk P w K mg base (L2.CX P w) 2 f fd ["crock", "things", "many"] (spG K 3 G__law_sets) := by
  have nd := sc__law_sets.nd
  exact fn_ok F sc__law_sets fun cdv A outer s H E hr => (vss_cons (vs_set 3 (ve_lst va_nil) nd)
      (vss_cons (vs_for po_def rfl (vi_range1 (by rfl) T.z_range (va_cons (vx_of (ve_op op_addA os_add (vx_of ve_int) (vx_of (ve_cal C__law_ladle_2 hr px_def (va_cons (vx_slot 0) (va_cons (vx_slot 2) va_nil)))))) va_nil)) (vg_name 4 nd) (vss_cons (vs_set 5 (ve_op op_addA os_add (vx_of ve_int) (vx_of (ve_cal C__law_ladle_2 hr px_def (va_cons (vx_slot 0) (va_cons (vx_of ve_int) va_nil))))) nd)
      (vss_one (vs_expr (ve_append 3 (ve_callTy call_tuple_of cs_tuple (by rfl) T.z_tuple (by decide +kernel) (va_cons (vx_of (ve_lc rfl nd (vi_range1 (by rfl) T.z_range (va_cons (vx_slot 1) va_nil)) (blkOk_by (own := [("thing", 6)]) (by kernel_rfl)) (fun _ _ _ _ _ => (vg_name 6 nd)) (fun _ _ _ _ _ => (vts_one (vt_cmp (op_eqD hr.units) os_eq (vx_of (ve_cal C__law_ladle_2 hr pxs0 (va_cons (vx_slot 0) (va_cons (vx_slot 5) va_nil)))) (vx_of ve_int) (nomark _)))) (fun _ _ _ _ _ => (ve_use 6)))) va_nil)))))))
      (vss_one (vs_ret (ve_callTy call_tuple_of cs_tuple (by rfl) T.z_tuple (by decide +kernel) (va_cons (vx_slot 3) va_nil))))))
/-! ### _law_meets -/
abbrev s__law_meets : Stmt := topS 32
theorem sc__law_meets : FnScope ["things", "sets", "found", "lot", "both", "thing", "at"] ["things", "sets"] (defScope s__law_meets) := ⟨rfl, rfl, rfl, by decide +kernel, rfl, by decide +kernel, by decide +kernel⟩
noncomputable def b__law_meets : DE → SRes := (sCons (sSet 2 (eOp2 dMul (xOf (eLst (aCons (xOf (eC (.int 0))) aNil))) (xOf (eOp2 dAdd (xOf (eBlt (d1 dLen) (aCons (xSlot 1) aNil))) (xOf (eC (.int 1)))))))
      (sCons (sFor (iVal (eCall G__law_lots [] (aCons (xOf (eBlt (d1 dLen) (aCons (xSlot 1) aNil))) aNil))) (gN 3) (sCons (sSet 4 (eLc [5] (iRng1f (aCons (xSlot 0) aNil)) (gN 5) (tOfE (eOp2 (dEq false) (xOf (eLc [6] (iSlot 3) (gN 6) (tOfE (eOp2 (dIn true) (xSlot 5) (xOf (eOp2 dIx (xSlot 1) (xSlot 6))))) (eC (.int 1)))) (xOf (eLst aNil)))) (eUse 5)))
      (sAsg (eOp2 dAdd (xOf (eOp2 dIx (xSlot 2) (xOf (eBlt (d1 dLen) (aCons (xSlot 3) aNil))))) (xOf (eBlt (d1 dLen) (aCons (xSlot 4) aNil)))) (gIx 2 (xOf (eBlt (d1 dLen) (aCons (xSlot 3) aNil)))))))
      (sRet (eBlt (d1 dTuple) (aCons (xSlot 2) aNil)))))
noncomputable def G__law_meets : List D → FR := fnG [0, 1] 2 7 b__law_meets
theorem ok__law_meets {f : Addr} {fd : FuncData} (F : FunD K "_law_meets" "_law_meets" (defArgs s__law_meets) (defBody s__law_meets) (defScope s__law_meets) [] [] f fd) (T : Txt mg) (C__law_lots_1 : Cal P w K mg base "_law_lots" 1 1 [] G__law_lots) : FnOk P w K mg base (L2.CX P w) 2 f fd ["things", "sets"] (spG K 2 G__law_meets) := by
  have nd := sc__law_meets.nd
  exact fn_ok F sc__law_meets fun cdv A outer s H E hr => (vss_cons (vs_set 2 (ve_op op_mulA os_mul (vx_of (ve_lst (va_cons (vx_of ve_int) va_nil))) (vx_of (ve_op op_addA os_add (vx_of (ve_callB call_lenA cs_len (by rfl) T.z_len (by decide +kernel) (va_cons (vx_slot 1) va_nil))) (vx_of ve_int)))) nd)
      (vss_cons (vs_for po_def rfl (vi_val (ve_cal C__law_lots_1 hr px_def (va_cons (vx_of (ve_callB call_lenA cs_len (by rfl) T.z_len (by decide +kernel) (va_cons (vx_slot 1) va_nil))) va_nil))) (vg_name 3 nd) (vss_cons (vs_setLc 4 rfl nd (vi_range1 (by rfl) T.z_range (va_cons (vx_slot 0) va_nil)) (blkOk_by (own := [("thing", 5)]) (by kernel_rfl)) (fun _ _ _ _ _ => (vg_name 5 nd)) (fun _ _ _ _ _ => (vts_one (vt_cmp (op_eqD hr.units) os_eq (vx_of (ve_lc rfl nd (vi_slot 3) (blkOk_by (own := [("at", 6)]) (by kernel_rfl)) (fun _ _ _ _ _ => (vg_name 6 nd)) (fun _ _ _ _ _ => (vts_one (vt_cmp op_notIn_seq os_in (vx_slot 5) (vx_of (ve_ix ix_seq os_ix (vx_slot 1) (vx_slot 6))) (by rfl)))) (fun _ _ _ _ _ => ve_int))) (vx_of (ve_lst va_nil)) (nomark _)))) (fun _ _ _ _ _ => (ve_use 5)))
      (vss_one (vs_asg (ve_op op_addA os_add (vx_of (ve_ix ix_seq os_ix (vx_slot 2) (vx_of (ve_callB call_lenA cs_len (by rfl) T.z_len (by decide +kernel) (va_cons (vx_slot 3) va_nil))))) (vx_of (ve_callB call_lenA cs_len (by rfl) T.z_len (by decide +kernel) (va_cons (vx_slot 4) va_nil)))) (vg_ix (W := W0) 2 (vx_of (ve_callB call_lenA cs_len (by rfl) T.z_len (by decide +kernel) (va_cons (vx_slot 3) va_nil))))))))
      (vss_one (vs_ret (ve_callTy call_tuple_of cs_tuple (by rfl) T.z_tuple (by decide +kernel) (va_cons (vx_slot 2) va_nil))))))
/-! ### _law_counts -/
abbrev s__law_counts : Stmt := topS 33
theorem sc__law_counts : FnScope ["sums", "found", "many", "r", "more", "j"] ["sums"] (defScope s__law_counts) := ⟨rfl, rfl, rfl, by decide +kernel, rfl, by decide +kernel, by decide +kernel⟩
noncomputable def b__law_counts : DE → SRes := (sCons (sPar (aCons (xOf (eOp2 dMul (xOf (eLst (aCons (xOf (eC (.int 0))) aNil))) (xOf (eBlt (d1 dLen) (aCons (xSlot 0) aNil))))) (aCons (xOf (eOp2 dSub (xOf (eBlt (d1 dLen) (aCons (xSlot 0) aNil))) (xOf (eC (.int 1))))) aNil)) (gsCons (gN 1) (gsCons (gN 2) gsNil)))
      (sCons (sFor (iRng3f (aCons (xSlot 2) (aCons (xOf (eUn dNeg (xOf (eC (.int 1))))) (aCons (xOf (eUn dNeg (xOf (eC (.int 1))))) aNil)))) (gN 3) (sCons (sSet 4 (eBlt (d1 dSum) (aCons (xOf (eLc [5] (iRng2f (aCons (xOf (eOp2 dAdd (xSlot 3) (xOf (eC (.int 1))))) (aCons (xOf (eOp2 dAdd (xSlot 2) (xOf (eC (.int 1))))) aNil))) (gN 5) tYesF (eOp2 dMul (xOf (eCall G__law_out_of [] (aCons (xSlot 5) (aCons (xSlot 3) aNil)))) (xOf (eOp2 dIx (xSlot 1) (xSlot 5)))))) aNil)))
      (sAsg (eOp2 dSub (xOf (eOp2 dIx (xSlot 0) (xSlot 3))) (xSlot 4)) (gIx 1 (xSlot 3)))))
      (sRet (eBlt (d1 dTuple) (aCons (xSlot 1) aNil)))))
noncomputable def G__law_counts : List D → FR := fnG [0] 1 6 b__law_counts
theorem ok__law_counts {f : Addr} {fd : FuncData} (F : FunD K "_law_counts" "_law_counts" (defArgs s__law_counts) (defBody s__law_counts) (defScope s__law_counts) [] [] f fd) (T : Txt mg) (C__law_out_of_2 : Cal P w K mg base "_law_out_of" 1 2 [] G__law_out_of) : FnOk P w K mg base (L2.CX P w) 2 f fd ["sums"] (spG K 1 G__law_counts) := by
  have nd := sc__law_counts.nd
  exact fn_ok F sc__law_counts fun cdv A outer s H E hr => (vss_cons (vs_tupasg rfl (va_cons (vx_of (ve_op op_mulA os_mul (vx_of (ve_lst (va_cons (vx_of ve_int) va_nil))) (vx_of (ve_callB call_lenA cs_len (by rfl) T.z_len (by decide +kernel) (va_cons (vx_slot 0) va_nil))))) (va_cons (vx_of (ve_op op_sub os_I0 (vx_of (ve_callB call_lenA cs_len (by rfl) T.z_len (by decide +kernel) (va_cons (vx_slot 0) va_nil))) (vx_of ve_int))) va_nil)) (vgs_cons (vg_name 1 nd) (vgs_cons (vg_name 2 nd) vgs_nil)) rfl)
      (vss_cons (vs_for po_def rfl (vi_range3 (by rfl) T.z_range (va_cons (vx_slot 2) (va_cons (vx_of (ve_un un_neg us_neg (vx_of ve_int))) (va_cons (vx_of (ve_un un_neg us_neg (vx_of ve_int))) va_nil)))) (vg_name 3 nd) (vss_cons (vs_set 4 (ve_callB (cr_sumA rfl) cs_sum (by rfl) T.z_sum (by decide +kernel) (va_cons (vx_of (ve_lc rfl nd (vi_range2 (by rfl) T.z_range (va_cons (vx_of (ve_op op_addA os_add (vx_slot 3) (vx_of ve_int))) (va_cons (vx_of (ve_op op_addA os_add (vx_slot 2) (vx_of ve_int))) va_nil))) (blkOk_by (own := [("j", 5)]) (by kernel_rfl)) (fun _ _ _ _ _ => (vg_name 5 nd)) (fun _ _ _ _ _ => vts_nil) (fun _ _ _ _ _ => (ve_op op_mulA os_mul (vx_of (ve_cal C__law_out_of_2 hr pxs0 (va_cons (vx_slot 5) (va_cons (vx_slot 3) va_nil)))) (vx_of (ve_ix ix_seq os_ix (vx_slot 1) (vx_slot 5))))))) va_nil)) nd)
      (vss_one (vs_asg (ve_op op_sub os_I0 (vx_of (ve_ix ix_seq os_ix (vx_slot 0) (vx_slot 3))) (vx_slot 4)) (vg_ix (W := W0) 1 (vx_slot 3))))))
      (vss_one (vs_ret (ve_callTy call_tuple_of cs_tuple (by rfl) T.z_tuple (by decide +kernel) (va_cons (vx_slot 1) va_nil))))))
/-! ### _law_are_sets -/
abbrev s__law_are_sets : Stmt := topS 34
theorem sc__law_are_sets : FnScope ["sums", "value", "one", "thing"] ["sums", "value"] (defScope s__law_are_sets) := ⟨rfl, rfl, rfl, by decide +kernel, rfl, by decide +kernel, by decide +kernel⟩
noncomputable def b__law_are_sets : DE → SRes := (sCons (sIf (tOrF (tNotF (tOfE (eBlt (d2 dIsi) (aCons (xSlot 1) (aCons (xOf (eC (.ty "tuple"))) aNil))))) (tOrF (tOfE (eOp2 (dEq true) (xOf (eBlt (d1 dLen) (aCons (xSlot 1) aNil))) (xOf (eC (.int 2))))) (tNotF (tOfE (eBlt (d2 dIsi) (aCons (xOf (eOp2 dIx (xSlot 1) (xOf (eC (.int 0))))) (aCons (xOf (eC (.ty "str"))) aNil))))))) (sRet (eC (.str ""))) sNil)
      (sCons (sIf (tOfE (eOp2 (dEq false) (xOf (eOp2 dIx (xSlot 1) (xOf (eC (.int 0))))) (xOf (eC (.str "lack"))))) (sCons (sIf (tOrF (tNotF (tOfE (eCall G__law_is_whole [] (aCons (xOf (eOp2 dIx (xSlot 1) (xOf (eC (.int 1))))) aNil)))) (tNotF (tOfE (eChain dLe dLt (xOf (eC (.int 0))) (xOf (eOp2 dIx (xSlot 1) (xOf (eC (.int 1))))) (xOf (eBlt (d1 dLen) (aCons (xSlot 0) aNil))))))) (sRet (eC (.str ""))) sNil)
      (sRet (eIf (tOfE (eOp2 dLt (xOf (eOp2 dIx (xOf (eCall G__law_counts [] (aCons (xSlot 0) aNil))) (xOf (eOp2 dIx (xSlot 1) (xOf (eC (.int 1))))))) (xOf (eC (.int 0))))) (eC (.str "lack")) (eC (.str ""))))) sNil)
      (sCons (sIf (tOrF (tOfE (eOp2 (dEq true) (xOf (eOp2 dIx (xSlot 1) (xOf (eC (.int 0))))) (xOf (eC (.str "sets"))))) (tOrF (tNotF (tOfE (eBlt (d2 dIsi) (aCons (xOf (eOp2 dIx (xSlot 1) (xOf (eC (.int 1))))) (aCons (xOf (eC (.ty "tuple"))) aNil))))) (tOfE (eOp2 (dEq true) (xOf (eBlt (d1 dLen) (aCons (xOf (eOp2 dIx (xSlot 1) (xOf (eC (.int 1))))) aNil))) (xOf (eOp2 dSub (xOf (eBlt (d1 dLen) (aCons (xSlot 0) aNil))) (xOf (eC (.int 1))))))))) (sRet (eC (.str ""))) sNil)
      (sCons (sFor (iVal (eOp2 dIx (xSlot 1) (xOf (eC (.int 1))))) (gN 2) (sCons (sIf (tOrF (tNotF (tOfE (eBlt (d2 dIsi) (aCons (xSlot 2) (aCons (xOf (eC (.ty "tuple"))) aNil))))) (tOfE (eOp2 (dEq true) (xOf (eLc [3] (iSlot 2) (gN 3) (tNotF (tOfE (eCall G__law_is_whole [] (aCons (xSlot 3) aNil)))) (eC (.int 1)))) (xOf (eLst aNil))))) (sRet (eC (.str ""))) sNil)
      (sIf (tOrF (tOfE (eOp2 (dEq true) (xOf (eBlt (d1 dList) (aCons (xSlot 2) aNil))) (xOf (eUn dSortSet (xSlot 2))))) (tOfE (eOp2 (dEq true) (xOf (eLc [3] (iSlot 2) (gN 3) (tNotF (tOfE (eChain dLe dLt (xOf (eC (.int 0))) (xSlot 3) (xOf (eOp2 dIx (xSlot 0) (xOf (eC (.int 0)))))))) (eC (.int 1)))) (xOf (eLst aNil))))) (sRet (eC (.str ""))) sNil)))
      (sRet (eIf (tOfE (eOp2 (dEq false) (xOf (eCall G__law_meets [] (aCons (xOf (eOp2 dIx (xSlot 0) (xOf (eC (.int 0))))) (aCons (xOf (eOp2 dIx (xSlot 1) (xOf (eC (.int 1))))) aNil)))) (xOf (eBlt (d1 dTuple) (aCons (xSlot 0) aNil))))) (eC (.str "sets")) (eC (.str ""))))))))
noncomputable def G__law_are_sets : List D → FR := fnG [0, 1] 2 4 b__law_are_sets
theorem ok__law_are_sets {f : Addr} {fd : FuncData} (F : FunD K "_law_are_sets" "_law_are_sets" (defArgs s__law_are_sets) (defBody s__law_are_sets) (defScope s__law_are_sets) [] [] f fd) (T : Txt mg) (C__law_is_whole_1 : Cal P w K mg base "_law_is_whole" 1 1 [] G__law_is_whole) (C__law_counts_1 : Cal P w K mg base "_law_counts" 2 1 [] G__law_counts) (C__law_meets_2 : Cal P w K mg base "_law_meets" 2 2 [] G__law_meets) : FnOk P w K mg base (L2.CX P w) 3 f fd ["sums", "value"] (spG K 2 G__law_are_sets) := by
  have nd := sc__law_are_sets.nd
  exact fn_ok F sc__law_are_sets fun cdv A outer s H E hr => (vss_cons (vs_if (vt_w (vw_or (vt_not (vt_val (ve_callB call_isi cs_isi (by rfl) T.z_isinstance (by decide +kernel) (va_cons (vx_slot 1) (va_cons (vx_of (ve_bltT (by rfl) T.z_tuple (by decide +kernel))) va_nil))))) (vw_or (vt_cmp (op_neD hr.units) os_ne (vx_of (ve_callB call_lenA cs_len (by rfl) T.z_len (by decide +kernel) (va_cons (vx_slot 1) va_nil))) (vx_of ve_int) (nomark _)) (vw_or1 (vt_not (vt_val (ve_callB call_isi cs_isi (by rfl) T.z_isinstance (by decide +kernel) (va_cons (vx_of (ve_ix ix_seq os_ix (vx_slot 1) (vx_of ve_int))) (va_cons (vx_of (ve_bltT (by rfl) T.z_str (by decide +kernel))) va_nil))))))))) (vss_one (vs_ret ve_str)) vss_nil)
      (vss_cons (vs_if (vt_cmp (op_eqD hr.units) os_eq (vx_of (ve_ix ix_seq os_ix (vx_slot 1) (vx_of ve_int))) (vx_of ve_str) (nomark _)) (vss_cons (vs_if (vt_w (vw_or (vt_not (vt_val (ve_cal C__law_is_whole_1 hr px_def (va_cons (vx_of (ve_ix ix_seq os_ix (vx_slot 1) (vx_of ve_int))) va_nil)))) (vw_or1 (vt_not (vt_chain op_leI op_ltI os_cmpI os_cmpI (vx_of ve_int) (vx_of (ve_ix ix_seq os_ix (vx_slot 1) (vx_of ve_int))) (vx_of (ve_callB call_lenA cs_len (by rfl) T.z_len (by decide +kernel) (va_cons (vx_slot 0) va_nil)))))))) (vss_one (vs_ret ve_str)) vss_nil)
      (vss_one (vs_ret (ve_if (vt_cmp op_ltI os_cmpI (vx_of (ve_ix ix_seq os_ix (vx_of (ve_cal C__law_counts_1 hr px_def (va_cons (vx_slot 0) va_nil))) (vx_of (ve_ix ix_seq os_ix (vx_slot 1) (vx_of ve_int))))) (vx_of ve_int) (nomark _)) ve_str ve_str)))) vss_nil)
      (vss_cons (vs_if (vt_w (vw_or (vt_cmp (op_neD hr.units) os_ne (vx_of (ve_ix ix_seq os_ix (vx_slot 1) (vx_of ve_int))) (vx_of ve_str) (nomark _)) (vw_or (vt_not (vt_val (ve_callB call_isi cs_isi (by rfl) T.z_isinstance (by decide +kernel) (va_cons (vx_of (ve_ix ix_seq os_ix (vx_slot 1) (vx_of ve_int))) (va_cons (vx_of (ve_bltT (by rfl) T.z_tuple (by decide +kernel))) va_nil))))) (vw_or1 (vt_cmp (op_neD hr.units) os_ne (vx_of (ve_callB call_lenA cs_len (by rfl) T.z_len (by decide +kernel) (va_cons (vx_of (ve_ix ix_seq os_ix (vx_slot 1) (vx_of ve_int))) va_nil))) (vx_of (ve_op op_sub os_I0 (vx_of (ve_callB call_lenA cs_len (by rfl) T.z_len (by decide +kernel) (va_cons (vx_slot 0) va_nil))) (vx_of ve_int))) (nomark _)))))) (vss_one (vs_ret ve_str)) vss_nil)
      (vss_cons (vs_for po_def rfl (vi_val (ve_ix ix_seq os_ix (vx_slot 1) (vx_of ve_int))) (vg_name 2 nd) (vss_cons (vs_if (vt_w (vw_or (vt_not (vt_val (ve_callB call_isi cs_isi (by rfl) T.z_isinstance (by decide +kernel) (va_cons (vx_slot 2) (va_cons (vx_of (ve_bltT (by rfl) T.z_tuple (by decide +kernel))) va_nil))))) (vw_or1 (vt_cmp (op_neD hr.units) os_ne (vx_of (ve_lc rfl nd (vi_slot 2) (blkOk_by (own := [("thing", 3)]) (by kernel_rfl)) (fun _ _ _ _ _ => (vg_name 3 nd)) (fun _ _ _ _ _ => (vts_one (vt_not (vt_val (ve_cal C__law_is_whole_1 hr pxs0 (va_cons (vx_slot 3) va_nil)))))) (fun _ _ _ _ _ => ve_int))) (vx_of (ve_lst va_nil)) (nomark _))))) (vss_one (vs_ret ve_str)) vss_nil)
      (vss_one (vs_if (vt_w (vw_or (vt_cmp (op_neD hr.units) os_ne (vx_of (ve_callTy call_list_of cs_list (by rfl) T.z_list (by decide +kernel) (va_cons (vx_slot 2) va_nil))) (vx_of (ve_sortSet (by rfl) T.z_sorted (by rfl) T.z_set (vx_slot 2))) (nomark _)) (vw_or1 (vt_cmp (op_neD hr.units) os_ne (vx_of (ve_lc rfl nd (vi_slot 2) (blkOk_by (own := [("thing", 3)]) (by kernel_rfl)) (fun _ _ _ _ _ => (vg_name 3 nd)) (fun _ _ _ _ _ => (vts_one (vt_not (vt_chain op_leI op_ltI os_cmpI os_cmpI (vx_of ve_int) (vx_slot 3) (vx_of (ve_ix ix_seq os_ix (vx_slot 0) (vx_of ve_int))))))) (fun _ _ _ _ _ => ve_int))) (vx_of (ve_lst va_nil)) (nomark _))))) (vss_one (vs_ret ve_str)) vss_nil))))
      (vss_one (vs_ret (ve_if (vt_cmp (op_eqD hr.units) os_eq (vx_of (ve_cal C__law_meets_2 hr px_def (va_cons (vx_of (ve_ix ix_seq os_ix (vx_slot 0) (vx_of ve_int))) (va_cons (vx_of (ve_ix ix_seq os_ix (vx_slot 1) (vx_of ve_int))) va_nil)))) (vx_of (ve_callTy call_tuple_of cs_tuple (by rfl) T.z_tuple (by decide +kernel) (va_cons (vx_slot 0) va_nil))) (nomark _)) ve_str ve_str)))))))
/-! ### _law_near -/
abbrev s__law_near : Stmt := topS 35
theorem sc__law_near : FnScope ["crock", "sums", "paper", "found", "sets", "at", "one", "odds", "odd", "other", "turn", "some", "thing"] ["crock", "sums", "paper"] (defScope s__law_near) := ⟨rfl, rfl, rfl, by decide +kernel, rfl, by decide +kernel, by decide +kernel⟩
noncomputable def b__law_near : DE → SRes := (sCons (sSet 3 (eLst (aCons (xOf (eUse 2)) (aCons (xOf (eFz (eBlt (d1 dList) (aCons (xSlot 2) aNil)))) (aCons (xOf (eSl dSl (xSlot 2) oNo (oAt (xOf (eC (.int 1)))))) (aCons (xOf (eUn dRev (xSlot 2))) (aCons (xOf (eOp2 dAdd (xSlot 2) (xOf (eTup (aCons (xOf (eC (.int 0))) aNil))))) (aCons (xOf (eC .non)) (aCons (xOf (eTup aNil)) (aCons (xOf (eC (.int 0))) (aCons (xOf (eFz (eC (.dct true (.k []) [])))) (aCons (xOf (eC (.str "sets"))) (aCons (xOf (eTup (aCons (xOf (eC (.str "sets"))) (aCons (xOf (eTup aNil)) aNil)))) aNil)))))))))))))
      (sCons (sSet 3 (eOp2 dAdd (xSlot 3) (xOf (eLst (aCons (xOf (eTup (aCons (xOf (eC (.str "sets"))) (aCons (xOf (eC .non)) aNil)))) aNil)))))
      (sCons (sSet 3 (eOp2 dAdd (xSlot 3) (xOf (eLc [5] (iRng2f (aCons (xOf (eUn dNeg (xOf (eC (.int 1))))) (aCons (xOf (eOp2 dAdd (xOf (eBlt (d1 dLen) (aCons (xSlot 1) aNil))) (xOf (eC (.int 1))))) aNil))) (gN 5) tYesF (eTup (aCons (xOf (eC (.str "lack"))) (aCons (xOf (eUse 5)) aNil)))))))
      (sCons (sSet 3 (eOp2 dAdd (xSlot 3) (xOf (eLst (aCons (xOf (eTup (aCons (xOf (eC (.str "lack"))) (aCons (xOf (eC (.bl true))) aNil)))) (aCons (xOf (eTup (aCons (xOf (eC (.str "lack"))) (aCons (xOf (eC .non)) aNil)))) (aCons (xOf (eTup (aCons (xOf (eC (.str "lack"))) (aCons (xOf (eOp2 dIx (xSlot 2) (xOf (eC (.int 1))))) aNil)))) aNil)))))))
      (sCons (sExpr (eApp 3 (eTup (aCons (xOf (eC (.str "sets"))) (aCons (xOf (eOp2 dIx (xSlot 2) (xOf (eC (.int 1))))) aNil)))))
      (sCons (sIf (tOfE (eOp2 (dEq false) (xOf (eOp2 dIx (xSlot 2) (xOf (eC (.int 0))))) (xOf (eC (.str "sets"))))) (sCons (sSet 4 (eOp2 dIx (xSlot 2) (xOf (eC (.int 1)))))
      (sCons (sSet 3 (eOp2 dAdd (xSlot 3) (xOf (eLst (aCons (xOf (eTup (aCons (xOf (eC (.str "sets"))) (aCons (xOf (eUn dRev (xSlot 4))) aNil)))) (aCons (xOf (eTup (aCons (xOf (eC (.str "sets"))) (aCons (xOf (eSl dSl (xSlot 4) (oAt (xOf (eC (.int 1)))) oNo)) aNil)))) (aCons (xOf (eTup (aCons (xOf (eC (.str "sets"))) (aCons (xOf (eOp2 dAdd (xSlot 4) (xOf (eTup (aCons (xOf (eTup aNil)) aNil))))) aNil)))) (aCons (xOf (eTup (aCons (xOf (eC (.str "sets"))) (aCons (xOf (eBlt (d1 dList) (aCons (xSlot 4) aNil))) aNil)))) aNil))))))))
      (sCons (sFor (iRng1f (aCons (xOf (eBlt (d1 dLen) (aCons (xSlot 4) aNil))) aNil)) (gN 5) (sCons (sSet 6 (eOp2 dIx (xSlot 4) (xSlot 5)))
      (sCons (sSet 7 (eLst (aCons (xOf (eUn dRev (xSlot 6))) (aCons (xOf (eFz (eBlt (d1 dList) (aCons (xSlot 6) aNil)))) (aCons (xOf (eSl dSl (xSlot 6) (oAt (xOf (eC (.int 1)))) oNo)) (aCons (xOf (eOp2 dAdd (xSlot 6) (xOf (eSl dSl (xSlot 6) (oAt (xOf (eUn dNeg (xOf (eC (.int 1)))))) oNo)))) (aCons (xOf (eOp2 dAdd (xSlot 6) (xOf (eTup (aCons (xOf (eOp2 dIx (xSlot 1) (xOf (eC (.int 0))))) aNil))))) (aCons (xOf (eOp2 dAdd (xOf (eTup (aCons (xOf (eUn dNeg (xOf (eC (.int 1))))) aNil))) (xSlot 6))) aNil))))))))
      (sCons (sSet 7 (eOp2 dAdd (xSlot 7) (xOf (eLst (aCons (xOf (eOp2 dAdd (xOf (eTup (aCons (xOf (eC (.bl true))) aNil))) (xOf (eSl dSl (xSlot 6) (oAt (xOf (eC (.int 1)))) oNo)))) (aCons (xOf (eC .non)) aNil))))))
      (sCons (sExpr (eApp 7 (eBlt (d1 dTuple) (aCons (xOf (eUn dSortSet (xOf (eOp2 dAdd (xSlot 6) (xOf (eTup (aCons (xOf (eCall G__law_ladle [] (aCons (xSlot 0) (aCons (xOf (eBlt dMax (aCons (xOf (eC (.int 1))) (aCons (xOf (eOp2 dIx (xSlot 1) (xOf (eC (.int 0))))) aNil)))) aNil)))) aNil))))))) aNil))))
      (sCons (sFor (iVal (eUse 7)) (gN 8) (sExpr (eApp 3 (eTup (aCons (xOf (eC (.str "sets"))) (aCons (xOf (eOp2 dAdd (xOf (eOp2 dAdd (xOf (eSl dSl (xSlot 4) oNo (oAt (xSlot 5)))) (xOf (eTup (aCons (xOf (eUse 8)) aNil))))) (xOf (eSl dSl (xSlot 4) (oAt (xOf (eOp2 dAdd (xSlot 5) (xOf (eC (.int 1)))))) oNo)))) aNil))))))
      (sCons (sSet 9 (eBlt (d1 dTuple) (aCons (xOf (eBlt (d1 dSorted) (aCons (xOf (eLc [12] (iSlot 6) (gN 12) tYesF (eOp2 dSub (xOf (eOp2 dSub (xOf (eOp2 dIx (xSlot 1) (xOf (eC (.int 0))))) (xOf (eC (.int 1))))) (xSlot 12)))) aNil))) aNil)))
      (sExpr (eApp 3 (eTup (aCons (xOf (eC (.str "sets"))) (aCons (xOf (eOp2 dAdd (xOf (eOp2 dAdd (xOf (eSl dSl (xSlot 4) oNo (oAt (xSlot 5)))) (xOf (eTup (aCons (xOf (eUse 9)) aNil))))) (xOf (eSl dSl (xSlot 4) (oAt (xOf (eOp2 dAdd (xSlot 5) (xOf (eC (.int 1)))))) oNo)))) aNil))))))))))))
      (sExpr (eApp 3 (eTup (aCons (xOf (eC (.str "sets"))) (aCons (xOf (eBlt (d1 dTuple) (aCons (xOf (eLc [6] (iSlot 4) (gN 6) tYesF (eBlt (d1 dTuple) (aCons (xOf (eBlt (d1 dSorted) (aCons (xOf (eLc [12] (iSlot 6) (gN 12) tYesF (eOp2 dSub (xOf (eOp2 dSub (xOf (eOp2 dIx (xSlot 1) (xOf (eC (.int 0))))) (xOf (eC (.int 1))))) (xSlot 12)))) aNil))) aNil)))) aNil))) aNil)))))))) sNil)
      (sCons (sFor (iRng1f (aCons (xOf (eC (.int 6))) aNil)) (gN 10) (sCons (sSet 11 (eCall G__law_sets [] (aCons (xSlot 0) (aCons (xOf (eBlt dMax (aCons (xOf (eC (.int 0))) (aCons (xOf (eBlt dMin (aCons (xOf (eC (.int 30))) (aCons (xOf (eOp2 dIx (xSlot 1) (xOf (eC (.int 0))))) aNil)))) aNil)))) (aCons (xOf (eOp2 dSub (xOf (eBlt (d1 dLen) (aCons (xSlot 1) aNil))) (xOf (eC (.int 1))))) aNil)))))
      (sExpr (eApp 3 (eTup (aCons (xOf (eC (.str "sets"))) (aCons (xOf (eUse 11)) aNil)))))))
      (sRet (eMove 3)))))))))
noncomputable def G__law_near : List D → FR := fnG [0, 1, 2] 3 13 b__law_near
theorem ok__law_near {f : Addr} {fd : FuncData} (F : FunD K "_law_near" "_law_near" (defArgs s__law_near) (defBody s__law_near) (defScope s__law_near) [] [] f fd) (T : Txt mg) (C__law_ladle_2 : Cal P w K mg base "_law_ladle" 1 2 [] G__law_ladle) (C__law_sets_3 : Cal P w K mg base "_law_sets" 2 3 [] G__law_sets) : FnOk P w K mg base (L2.CX P w) 3 f fd ["crock", "sums", "paper"] (spG K 3 G__law_near) := by
  have nd := sc__law_near.nd
  exact fn_ok F sc__law_near fun cdv A outer s H E hr => (vss_cons (vs_set 3 (ve_lst (va_cons (vx_of (ve_use 2)) (va_cons (vx_of (ve_fz (ve_callTy call_list_of cs_list (by rfl) T.z_list (by decide +kernel) (va_cons (vx_slot 2) va_nil)))) (va_cons (vx_of (ve_sl sl_all ss_sl (vx_slot 2) vo_no (vo_at (vx_of ve_int)))) (va_cons (vx_of (ve_rev (vx_slot 2))) (va_cons (vx_of (ve_op op_addA os_add (vx_slot 2) (vx_of (ve_tup (va_cons (vx_of ve_int) va_nil))))) (va_cons (vx_of ve_non) (va_cons (vx_of (ve_tup va_nil)) (va_cons (vx_of ve_int) (va_cons (vx_of (ve_fz ve_dnewK)) (va_cons (vx_of ve_str) (va_cons (vx_of (ve_tup (va_cons (vx_of ve_str) (va_cons (vx_of (ve_tup va_nil)) va_nil)))) va_nil)))))))))))) nd)
      (vss_cons (vs_set 3 (ve_op op_addA os_add (vx_slot 3) (vx_of (ve_lst (va_cons (vx_of (ve_tup (va_cons (vx_of ve_str) (va_cons (vx_of ve_non) va_nil)))) va_nil)))) nd)
      (vss_cons (vs_set 3 (ve_op op_addA os_add (vx_slot 3) (vx_of (ve_lc rfl nd (vi_range2 (by rfl) T.z_range (va_cons (vx_of (ve_un un_neg us_neg (vx_of ve_int))) (va_cons (vx_of (ve_op op_addA os_add (vx_of (ve_callB call_lenA cs_len (by rfl) T.z_len (by decide +kernel) (va_cons (vx_slot 1) va_nil))) (vx_of ve_int))) va_nil))) (blkOk_by (own := [("at", 5)]) (by kernel_rfl)) (fun _ _ _ _ _ => (vg_name 5 nd)) (fun _ _ _ _ _ => vts_nil) (fun _ _ _ _ _ => (ve_tup (va_cons (vx_of ve_str) (va_cons (vx_of (ve_use 5)) va_nil))))))) nd)
      (vss_cons (vs_set 3 (ve_op op_addA os_add (vx_slot 3) (vx_of (ve_lst (va_cons (vx_of (ve_tup (va_cons (vx_of ve_str) (va_cons (vx_of ve_bl) va_nil)))) (va_cons (vx_of (ve_tup (va_cons (vx_of ve_str) (va_cons (vx_of ve_non) va_nil)))) (va_cons (vx_of (ve_tup (va_cons (vx_of ve_str) (va_cons (vx_of (ve_ix ix_seq os_ix (vx_slot 2) (vx_of ve_int))) va_nil)))) va_nil)))))) nd)
      (vss_cons (vs_expr (ve_append 3 (ve_tup (va_cons (vx_of ve_str) (va_cons (vx_of (ve_ix ix_seq os_ix (vx_slot 2) (vx_of ve_int))) va_nil)))))
      (vss_cons (vs_if (vt_cmp (op_eqD hr.units) os_eq (vx_of (ve_ix ix_seq os_ix (vx_slot 2) (vx_of ve_int))) (vx_of ve_str) (nomark _)) (vss_cons (vs_set 4 (ve_ix ix_seq os_ix (vx_slot 2) (vx_of ve_int)) nd)
      (vss_cons (vs_set 3 (ve_op op_addA os_add (vx_slot 3) (vx_of (ve_lst (va_cons (vx_of (ve_tup (va_cons (vx_of ve_str) (va_cons (vx_of (ve_rev (vx_slot 4))) va_nil)))) (va_cons (vx_of (ve_tup (va_cons (vx_of ve_str) (va_cons (vx_of (ve_sl sl_all ss_sl (vx_slot 4) (vo_at (vx_of ve_int)) vo_no)) va_nil)))) (va_cons (vx_of (ve_tup (va_cons (vx_of ve_str) (va_cons (vx_of (ve_op op_addA os_add (vx_slot 4) (vx_of (ve_tup (va_cons (vx_of (ve_tup va_nil)) va_nil))))) va_nil)))) (va_cons (vx_of (ve_tup (va_cons (vx_of ve_str) (va_cons (vx_of (ve_callTy call_list_of cs_list (by rfl) T.z_list (by decide +kernel) (va_cons (vx_slot 4) va_nil))) va_nil)))) va_nil))))))) nd)
      (vss_cons (vs_for po_def rfl (vi_range1 (by rfl) T.z_range (va_cons (vx_of (ve_callB call_lenA cs_len (by rfl) T.z_len (by decide +kernel) (va_cons (vx_slot 4) va_nil))) va_nil)) (vg_name 5 nd) (vss_cons (vs_set 6 (ve_ix ix_seq os_ix (vx_slot 4) (vx_slot 5)) nd)
      (vss_cons (vs_set 7 (ve_lst (va_cons (vx_of (ve_rev (vx_slot 6))) (va_cons (vx_of (ve_fz (ve_callTy call_list_of cs_list (by rfl) T.z_list (by decide +kernel) (va_cons (vx_slot 6) va_nil)))) (va_cons (vx_of (ve_sl sl_all ss_sl (vx_slot 6) (vo_at (vx_of ve_int)) vo_no)) (va_cons (vx_of (ve_op op_addA os_add (vx_slot 6) (vx_of (ve_sl sl_all ss_sl (vx_slot 6) (vo_at (vx_of (ve_un un_neg us_neg (vx_of ve_int)))) vo_no)))) (va_cons (vx_of (ve_op op_addA os_add (vx_slot 6) (vx_of (ve_tup (va_cons (vx_of (ve_ix ix_seq os_ix (vx_slot 1) (vx_of ve_int))) va_nil))))) (va_cons (vx_of (ve_op op_addA os_add (vx_of (ve_tup (va_cons (vx_of (ve_un un_neg us_neg (vx_of ve_int))) va_nil))) (vx_slot 6))) va_nil))))))) nd)
      (vss_cons (vs_set 7 (ve_op op_addA os_add (vx_slot 7) (vx_of (ve_lst (va_cons (vx_of (ve_op op_addA os_add (vx_of (ve_tup (va_cons (vx_of ve_bl) va_nil))) (vx_of (ve_sl sl_all ss_sl (vx_slot 6) (vo_at (vx_of ve_int)) vo_no)))) (va_cons (vx_of ve_non) va_nil))))) nd)
      (vss_cons (vs_expr (ve_append 7 (ve_callTy call_tuple_of cs_tuple (by rfl) T.z_tuple (by decide +kernel) (va_cons (vx_of (ve_sortSet (by rfl) T.z_sorted (by rfl) T.z_set (vx_of (ve_op op_addA os_add (vx_slot 6) (vx_of (ve_tup (va_cons (vx_of (ve_cal C__law_ladle_2 hr px_def (va_cons (vx_slot 0) (va_cons (vx_of (ve_callB (call_maxA rfl) cs_max (by rfl) T.z_max (by decide +kernel) (va_cons (vx_of ve_int) (va_cons (vx_of (ve_ix ix_seq os_ix (vx_slot 1) (vx_of ve_int))) va_nil)))) va_nil)))) va_nil))))))) va_nil))))
      (vss_cons (vs_for po_def rfl (vi_val (ve_use 7)) (vg_name 8 nd) (vss_one (vs_expr (ve_append 3 (ve_tup (va_cons (vx_of ve_str) (va_cons (vx_of (ve_op op_addA os_add (vx_of (ve_op op_addA os_add (vx_of (ve_sl sl_all ss_sl (vx_slot 4) vo_no (vo_at (vx_slot 5)))) (vx_of (ve_tup (va_cons (vx_of (ve_use 8)) va_nil))))) (vx_of (ve_sl sl_all ss_sl (vx_slot 4) (vo_at (vx_of (ve_op op_addA os_add (vx_slot 5) (vx_of ve_int)))) vo_no)))) va_nil)))))))
      (vss_cons (vs_set 9 (ve_callTy call_tuple_of cs_tuple (by rfl) T.z_tuple (by decide +kernel) (va_cons (vx_of (ve_callB cr_sortedI cs_sorted (by rfl) T.z_sorted (by decide +kernel) (va_cons (vx_of (ve_lc rfl nd (vi_slot 6) (blkOk_by (own := [("thing", 12)]) (by kernel_rfl)) (fun _ _ _ _ _ => (vg_name 12 nd)) (fun _ _ _ _ _ => vts_nil) (fun _ _ _ _ _ => (ve_op op_sub os_I0 (vx_of (ve_op op_sub os_I0 (vx_of (ve_ix ix_seq os_ix (vx_slot 1) (vx_of ve_int))) (vx_of ve_int))) (vx_slot 12))))) va_nil))) va_nil)) nd)
      (vss_one (vs_expr (ve_append 3 (ve_tup (va_cons (vx_of ve_str) (va_cons (vx_of (ve_op op_addA os_add (vx_of (ve_op op_addA os_add (vx_of (ve_sl sl_all ss_sl (vx_slot 4) vo_no (vo_at (vx_slot 5)))) (vx_of (ve_tup (va_cons (vx_of (ve_use 9)) va_nil))))) (vx_of (ve_sl sl_all ss_sl (vx_slot 4) (vo_at (vx_of (ve_op op_addA os_add (vx_slot 5) (vx_of ve_int)))) vo_no)))) va_nil)))))))))))))
      (vss_one (vs_expr (ve_append 3 (ve_tup (va_cons (vx_of ve_str) (va_cons (vx_of (ve_callTy call_tuple_of cs_tuple (by rfl) T.z_tuple (by decide +kernel) (va_cons (vx_of (ve_lc rfl nd (vi_slot 4) (blkOk_by (own := [("one", 6)]) (by kernel_rfl)) (fun _ _ _ _ _ => (vg_name 6 nd)) (fun _ _ _ _ _ => vts_nil) (fun _ _ _ _ _ => (ve_callTy call_tuple_of cs_tuple (by rfl) T.z_tuple (by decide +kernel) (va_cons (vx_of (ve_callB cr_sortedI cs_sorted (by rfl) T.z_sorted (by decide +kernel) (va_cons (vx_of (ve_lc rfl nd (vi_slot 6) (blkOk_by (own := [("thing", 12)]) (by kernel_rfl)) (fun _ _ _ _ _ => (vg_name 12 nd)) (fun _ _ _ _ _ => vts_nil) (fun _ _ _ _ _ => (ve_op op_sub os_I0 (vx_of (ve_op op_sub os_I0 (vx_of (ve_ix ix_seq os_ix (vx_slot 1) (vx_of ve_int))) (vx_of ve_int))) (vx_slot 12))))) va_nil))) va_nil))))) va_nil))) va_nil))))))))) vss_nil)
      (vss_cons (vs_for po_def rfl (vi_range1 (by rfl) T.z_range (va_cons (vx_of ve_int) va_nil)) (vg_name 10 nd) (vss_cons (vs_set 11 (ve_cal C__law_sets_3 hr px_def (va_cons (vx_slot 0) (va_cons (vx_of (ve_callB (call_maxA rfl) cs_max (by rfl) T.z_max (by decide +kernel) (va_cons (vx_of ve_int) (va_cons (vx_of (ve_callB (call_minA rfl) cs_min (by rfl) T.z_min (by decide +kernel) (va_cons (vx_of ve_int) (va_cons (vx_of (ve_ix ix_seq os_ix (vx_slot 1) (vx_of ve_int))) va_nil)))) va_nil)))) (va_cons (vx_of (ve_op op_sub os_I0 (vx_of (ve_callB call_lenA cs_len (by rfl) T.z_len (by decide +kernel) (va_cons (vx_slot 1) va_nil))) (vx_of ve_int))) va_nil)))) nd)
      (vss_one (vs_expr (ve_append 3 (ve_tup (va_cons (vx_of ve_str) (va_cons (vx_of (ve_use 11)) va_nil))))))))
      (vss_one (vs_ret (ve_move 3))))))))))
/-! ### _law_right -/
abbrev s__law_right : Stmt := topS 36
theorem sc__law_right : FnScope ["crock", "things", "sums", "turn", "at", "paper", "kind", "value", "told"] ["crock"] (defScope s__law_right) := ⟨rfl, rfl, rfl, by decide +kernel, rfl, by decide +kernel, by decide +kernel⟩
noncomputable def b__law_right : DE → SRes := (sCons (sSet 1 (eCall G__law_ladle [] (aCons (xSlot 0) (aCons (xOf (eC (.int 11))) aNil))))
      (sCons (sSet 2 (eBlt (d1 dList) (aCons (xOf (eCall G__law_meets [] (aCons (xSlot 1) (aCons (xOf (eCall G__law_sets [] (aCons (xSlot 0) (aCons (xSlot 1) (aCons (xOf (eC (.int 4))) aNil))))) aNil)))) aNil)))
      (sCons (sFor (iRng1f (aCons (xOf (eCall G__law_ladle [] (aCons (xSlot 0) (aCons (xOf (eC (.int 3))) aNil)))) aNil)) (gN 3) (sCons (sSet 4 (eCall G__law_ladle [] (aCons (xSlot 0) (aCons (xOf (eBlt (d1 dLen) (aCons (xSlot 2) aNil))) aNil))))
      (sAsg (eOp2 dSub (xOf (eOp2 dAdd (xOf (eOp2 dIx (xSlot 2) (xSlot 4))) (xOf (eCall G__law_ladle [] (aCons (xSlot 0) (aCons (xOf (eC (.int 5))) aNil)))))) (xOf (eC (.int 2)))) (gIx 2 (xSlot 4)))))
      (sCons (sSet 2 (eBlt (d1 dTuple) (aCons (xOf (eOp2 dAdd (xOf (eLst (aCons (xOf (eBlt dMax (aCons (xOf (eC (.int 0))) (aCons (xOf (eOp2 dIx (xSlot 2) (xOf (eC (.int 0))))) aNil)))) aNil))) (xOf (eSl dSl (xSlot 2) (oAt (xOf (eC (.int 1)))) oNo)))) aNil)))
      (sCons (sSet 5 (eCall G_sums_paper [] (aCons (xSlot 2) aNil)))
      (sCons (sSet 6 (eIf (tOfE (eOp2 dLt (xOf (eBlt dMin (aCons (xOf (eCall G__law_counts [] (aCons (xSlot 2) aNil))) aNil))) (xOf (eC (.int 0))))) (eC (.str "lack")) (eC (.str "sets"))))
      (sCons (sIf (tOfE (eOp2 (dEq true) (xOf (eCall G__law_are_sets [] (aCons (xSlot 2) (aCons (xSlot 5) aNil)))) (xSlot 6))) (sRet (eC (.bl false))) sNil)
      (sCons (sFor (iVal (eCall G__law_near [] (aCons (xSlot 0) (aCons (xSlot 2) (aCons (xSlot 5) aNil))))) (gN 7) (sCons (sSet 8 (eCall G__law_are_sets [] (aCons (xSlot 2) (aCons (xSlot 7) aNil))))
      (sIf (tOrF (tOfE (eOp2 (dEq true) (xOf (eCall G_is_sums_paper [] (aCons (xSlot 2) (aCons (xSlot 7) aNil)))) (xOf (eOp2 (dEq true) (xSlot 8) (xOf (eC (.str ""))))))) (tOfE (eOp2 (dIn true) (xSlot 8) (xOf (eTup (aCons (xOf (eC (.str ""))) (aCons (xOf (eUse 6)) aNil))))))) (sRet (eC (.bl false))) sNil)))
      (sRet (eC (.bl true)))))))))))
noncomputable def G__law_right : List D → FR := fnG [0] 1 9 b__law_right
theorem ok__law_right {f : Addr} {fd : FuncData} (F : FunD K "_law_right" "_law_right" (defArgs s__law_right) (defBody s__law_right) (defScope s__law_right) [] [] f fd) (T : Txt mg) (C__law_ladle_2 : Cal P w K mg base "_law_ladle" 1 2 [] G__law_ladle) (C__law_sets_3 : Cal P w K mg base "_law_sets" 2 3 [] G__law_sets) (C__law_meets_2 : Cal P w K mg base "_law_meets" 2 2 [] G__law_meets) (C_sums_paper_1 : Cal P w K mg base "sums_paper" 4 1 [] G_sums_paper) (C__law_counts_1 : Cal P w K mg base "_law_counts" 2 1 [] G__law_counts) (C__law_are_sets_2 : Cal P w K mg base "_law_are_sets" 3 2 [] G__law_are_sets) (C__law_near_3 : Cal P w K mg base "_law_near" 3 3 [] G__law_near) (C_is_sums_paper_2 : Cal P w K mg base "is_sums_paper" 4 2 [] G_is_sums_paper) : FnOk P w K mg base (L2.CX P w) 5 f fd ["crock"] (spG K 1 G__law_right) := by
  have nd := sc__law_right.nd
  exact fn_ok F sc__law_right fun cdv A outer s H E hr => (vss_cons (vs_set 1 (ve_cal C__law_ladle_2 hr px_def (va_cons (vx_slot 0) (va_cons (vx_of ve_int) va_nil))) nd)
      (vss_cons (vs_set 2 (ve_callTy call_list_of cs_list (by rfl) T.z_list (by decide +kernel) (va_cons (vx_of (ve_cal C__law_meets_2 hr px_def (va_cons (vx_slot 1) (va_cons (vx_of (ve_cal C__law_sets_3 hr px_def (va_cons (vx_slot 0) (va_cons (vx_slot 1) (va_cons (vx_of ve_int) va_nil))))) va_nil)))) va_nil)) nd)
      (vss_cons (vs_for po_def rfl (vi_range1 (by rfl) T.z_range (va_cons (vx_of (ve_cal C__law_ladle_2 hr px_def (va_cons (vx_slot 0) (va_cons (vx_of ve_int) va_nil)))) va_nil)) (vg_name 3 nd) (vss_cons (vs_set 4 (ve_cal C__law_ladle_2 hr px_def (va_cons (vx_slot 0) (va_cons (vx_of (ve_callB call_lenA cs_len (by rfl) T.z_len (by decide +kernel) (va_cons (vx_slot 2) va_nil))) va_nil))) nd)
      (vss_one (vs_asg (ve_op op_sub os_I0 (vx_of (ve_op op_addA os_add (vx_of (ve_ix ix_seq os_ix (vx_slot 2) (vx_slot 4))) (vx_of (ve_cal C__law_ladle_2 hr px_def (va_cons (vx_slot 0) (va_cons (vx_of ve_int) va_nil)))))) (vx_of ve_int)) (vg_ix (W := W0) 2 (vx_slot 4))))))
      (vss_cons (vs_set 2 (ve_callTy call_tuple_of cs_tuple (by rfl) T.z_tuple (by decide +kernel) (va_cons (vx_of (ve_op op_addA os_add (vx_of (ve_lst (va_cons (vx_of (ve_callB (call_maxA rfl) cs_max (by rfl) T.z_max (by decide +kernel) (va_cons (vx_of ve_int) (va_cons (vx_of (ve_ix ix_seq os_ix (vx_slot 2) (vx_of ve_int))) va_nil)))) va_nil))) (vx_of (ve_sl sl_all ss_sl (vx_slot 2) (vo_at (vx_of ve_int)) vo_no)))) va_nil)) nd)
      (vss_cons (vs_set 5 (ve_cal C_sums_paper_1 hr px_def (va_cons (vx_slot 2) va_nil)) nd)
      (vss_cons (vs_set 6 (ve_if (vt_cmp op_ltI os_cmpI (vx_of (ve_callB (call_minA rfl) cs_min (by rfl) T.z_min (by decide +kernel) (va_cons (vx_of (ve_cal C__law_counts_1 hr px_def (va_cons (vx_slot 2) va_nil))) va_nil))) (vx_of ve_int) (nomark _)) ve_str ve_str) nd)
      (vss_cons (vs_if (vt_cmp (op_neD hr.units) os_ne (vx_of (ve_cal C__law_are_sets_2 hr px_def (va_cons (vx_slot 2) (va_cons (vx_slot 5) va_nil)))) (vx_slot 6) (nomark _)) (vss_one (vs_ret ve_bl)) vss_nil)
      (vss_cons (vs_for po_def rfl (vi_val (ve_cal C__law_near_3 hr px_def (va_cons (vx_slot 0) (va_cons (vx_slot 2) (va_cons (vx_slot 5) va_nil))))) (vg_name 7 nd) (vss_cons (vs_set 8 (ve_cal C__law_are_sets_2 hr px_def (va_cons (vx_slot 2) (va_cons (vx_slot 7) va_nil))) nd)
      (vss_one (vs_if (vt_w (vw_or (vt_cmp (op_neD hr.units) os_ne (vx_of (ve_cal C_is_sums_paper_2 hr px_def (va_cons (vx_slot 2) (va_cons (vx_slot 7) va_nil)))) (vx_of (ve_cmp (op_neD hr.units) os_ne (vx_slot 8) (vx_of ve_str) (nomark _))) (nomark _)) (vw_or1 (vt_cmp op_notIn_seq os_in (vx_slot 8) (vx_of (ve_tup (va_cons (vx_of ve_str) (va_cons (vx_of (ve_use 6)) va_nil)))) (by rfl))))) (vss_one (vs_ret ve_bl)) vss_nil))))
      (vss_one (vs_ret ve_bl))))))))))
/-! ### law -/
abbrev s_law : Stmt := topS 37
theorem sc_law : FnScope ["script", "spot", "crock", "turn", "told"] ["script"] (defScope s_law) := ⟨rfl, rfl, rfl, by decide +kernel, rfl, by decide +kernel, by decide +kernel⟩
noncomputable def b_law : DE → SRes := (sCons (sFor (iRng1f (aCons (xOf (eBlt dMax (aCons (xOf (eC (.int 1))) (aCons (xOf (eBlt dMin (aCons (xOf (eC (.int 3))) (aCons (xOf (eBlt (d1 dLen) (aCons (xSlot 0) aNil))) aNil)))) aNil)))) aNil)) (gN 1) (sCons (sSet 2 (eCall G__law_crock [] (aCons (xSlot 0) (aCons (xSlot 1) aNil))))
      (sFor (iRng1f (aCons (xOf (eC (.int 4))) aNil)) (gN 3) (sIf (tNotF (tOfE (eCall G__law_right [] (aCons (xSlot 2) aNil)))) (sRet (eC (.bl false))) sNil))))
      (sCons (sSet 4 (eLst (aCons (xOf (eCall G_sums_paper [] (aCons (xOf (eTup (aCons (xOf (eC (.int 2))) (aCons (xOf (eC (.int 3))) (aCons (xOf (eC (.int 0))) aNil))))) aNil))) (aCons (xOf (eCall G_is_sums_paper [] (aCons (xOf (eTup (aCons (xOf (eC (.int 2))) (aCons (xOf (eC (.int 2))) (aCons (xOf (eC (.int 1))) aNil))))) (aCons (xOf (eTup (aCons (xOf (eC (.str "sets"))) (aCons (xOf (eTup (aCons (xOf (eTup (aCons (xOf (eC (.int 0))) aNil))) (aCons (xOf (eTup (aCons (xOf (eC (.int 0))) aNil))) aNil)))) aNil)))) aNil)))) (aCons (xOf (eCall G_sums_paper [] (aCons (xOf (eTup (aCons (xOf (eC (.int 0))) (aCons (xOf (eC (.int 0))) aNil)))) aNil))) aNil)))))
      (sRet (eOp2 (dEq false) (xSlot 4) (xOf (eLst (aCons (xOf (eTup (aCons (xOf (eC (.str "lack"))) (aCons (xOf (eC (.int 0))) aNil)))) (aCons (xOf (eC (.bl true))) (aCons (xOf (eTup (aCons (xOf (eC (.str "sets"))) (aCons (xOf (eTup (aCons (xOf (eTup aNil)) aNil))) aNil)))) aNil)))))))))
noncomputable def G_law : List D → FR := fnG [0] 1 5 b_law
theorem ok_law {f : Addr} {fd : FuncData} (F : FunD K "law" "law" (defArgs s_law) (defBody s_law) (defScope s_law) [] [] f fd) (T : Txt mg) (C__law_crock_2 : Cal P w K mg base "_law_crock" 1 2 [] G__law_crock) (C__law_right_1 : Cal P w K mg base "_law_right" 5 1 [] G__law_right) (C_sums_paper_1 : Cal P w K mg base "sums_paper" 4 1 [] G_sums_paper) (C_is_sums_paper_2 : Cal P w K mg base "is_sums_paper" 4 2 [] G_is_sums_paper) : FnOk P w K mg base (L2.CX P w) 6 f fd ["script"] (spG K 1 G_law) := by
  have nd := sc_law.nd
  exact fn_ok F sc_law fun cdv A outer s H E hr => (vss_cons (vs_for po_def rfl (vi_range1 (by rfl) T.z_range (va_cons (vx_of (ve_callB (call_maxA rfl) cs_max (by rfl) T.z_max (by decide +kernel) (va_cons (vx_of ve_int) (va_cons (vx_of (ve_callB (call_minA rfl) cs_min (by rfl) T.z_min (by decide +kernel) (va_cons (vx_of ve_int) (va_cons (vx_of (ve_callB call_lenA cs_len (by rfl) T.z_len (by decide +kernel) (va_cons (vx_slot 0) va_nil))) va_nil)))) va_nil)))) va_nil)) (vg_name 1 nd) (vss_cons (vs_set 2 (ve_cal C__law_crock_2 hr px_def (va_cons (vx_slot 0) (va_cons (vx_slot 1) va_nil))) nd)
      (vss_one (vs_for po_def rfl (vi_range1 (by rfl) T.z_range (va_cons (vx_of ve_int) va_nil)) (vg_name 3 nd) (vss_one (vs_if (vt_not (vt_val (ve_cal C__law_right_1 hr px_def (va_cons (vx_slot 2) va_nil)))) (vss_one (vs_ret ve_bl)) vss_nil))))))
      (vss_cons (vs_set 4 (ve_lst (va_cons (vx_of (ve_cal C_sums_paper_1 hr px_def (va_cons (vx_of (ve_tup (va_cons (vx_of ve_int) (va_cons (vx_of ve_int) (va_cons (vx_of ve_int) va_nil))))) va_nil))) (va_cons (vx_of (ve_cal C_is_sums_paper_2 hr px_def (va_cons (vx_of (ve_tup (va_cons (vx_of ve_int) (va_cons (vx_of ve_int) (va_cons (vx_of ve_int) va_nil))))) (va_cons (vx_of (ve_tup (va_cons (vx_of ve_str) (va_cons (vx_of (ve_tup (va_cons (vx_of (ve_tup (va_cons (vx_of ve_int) va_nil))) (va_cons (vx_of (ve_tup (va_cons (vx_of ve_int) va_nil))) va_nil)))) va_nil)))) va_nil)))) (va_cons (vx_of (ve_cal C_sums_paper_1 hr px_def (va_cons (vx_of (ve_tup (va_cons (vx_of ve_int) (va_cons (vx_of ve_int) va_nil)))) va_nil))) va_nil)))) nd)
      (vss_one (vs_ret (ve_cmp (op_eqD hr.units) os_eq (vx_slot 4) (vx_of (ve_lst (va_cons (vx_of (ve_tup (va_cons (vx_of ve_str) (va_cons (vx_of ve_int) va_nil)))) (va_cons (vx_of ve_bl) (va_cons (vx_of (ve_tup (va_cons (vx_of ve_str) (va_cons (vx_of (ve_tup (va_cons (vx_of (ve_tup va_nil)) va_nil))) va_nil)))) va_nil))))) (nomark _))))))
end
end Law

set_option maxHeartbeats 0
namespace Law
open PySem PySem.Spec PyProof.Rows L2 Tr
/-! ### the head -/
def dd_is_whole : He.DefD := ⟨("is_whole", none), "is_whole", "is_whole", defArgs s_is_whole, defBody s_is_whole, defScope s_is_whole, [], [("least", .non), ("most", .non)]⟩
def dd_out_of : He.DefD := ⟨("out_of", none), "out_of", "out_of", defArgs s_out_of, defBody s_out_of, defScope s_out_of, [], []⟩
def dd_sign_of : He.DefD := ⟨("sign_of", none), "sign_of", "sign_of", defArgs s_sign_of, defBody s_sign_of, defScope s_sign_of, [], []⟩
def dd_counts_in : He.DefD := ⟨("counts_in", none), "counts_in", "counts_in", defArgs s_counts_in, defBody s_counts_in, defScope s_counts_in, [], []⟩
def dd_counts_by : He.DefD := ⟨("counts_by", none), "counts_by", "counts_by", defArgs s_counts_by, defBody s_counts_by, defScope s_counts_by, [], []⟩
def dd_sets_by : He.DefD := ⟨("sets_by", none), "sets_by", "sets_by", defArgs s_sets_by, defBody s_sets_by, defScope s_sets_by, [], []⟩
def dd_sums_told : He.DefD := ⟨("sums_told", none), "sums_told", "sums_told", defArgs s_sums_told, defBody s_sums_told, defScope s_sums_told, [], []⟩
def dd_are_sets : He.DefD := ⟨("are_sets", none), "are_sets", "are_sets", defArgs s_are_sets, defBody s_are_sets, defScope s_are_sets, [], []⟩
def dd_shows_sums : He.DefD := ⟨("shows_sums", none), "shows_sums", "shows_sums", defArgs s_shows_sums, defBody s_shows_sums, defScope s_shows_sums, [], []⟩
def dd_need_things : He.DefD := ⟨("need_things", none), "need_things", "need_things", defArgs s_need_things, defBody s_need_things, defScope s_need_things, [], []⟩
def dd_need_sums : He.DefD := ⟨("need_sums", none), "need_sums", "need_sums", defArgs s_need_sums, defBody s_need_sums, defScope s_need_sums, [], []⟩
def dd_sums_paper : He.DefD := ⟨("sums_paper", none), "sums_paper", "sums_paper", defArgs s_sums_paper, defBody s_sums_paper, defScope s_sums_paper, [], []⟩
def dd_is_sums_paper : He.DefD := ⟨("is_sums_paper", none), "is_sums_paper", "is_sums_paper", defArgs s_is_sums_paper, defBody s_is_sums_paper, defScope s_is_sums_paper, [], []⟩
def dd__law_crock : He.DefD := ⟨("_law_crock", none), "_law_crock", "_law_crock", defArgs s__law_crock, defBody s__law_crock, defScope s__law_crock, [], []⟩
def dd__law_ladle : He.DefD := ⟨("_law_ladle", none), "_law_ladle", "_law_ladle", defArgs s__law_ladle, defBody s__law_ladle, defScope s__law_ladle, [], []⟩
def dd__law_is_whole : He.DefD := ⟨("_law_is_whole", none), "_law_is_whole", "_law_is_whole", defArgs s__law_is_whole, defBody s__law_is_whole, defScope s__law_is_whole, [], []⟩
def dd__law_lots : He.DefD := ⟨("_law_lots", none), "_law_lots", "_law_lots", defArgs s__law_lots, defBody s__law_lots, defScope s__law_lots, [], []⟩
def dd__law_out_of : He.DefD := ⟨("_law_out_of", none), "_law_out_of", "_law_out_of", defArgs s__law_out_of, defBody s__law_out_of, defScope s__law_out_of, [], []⟩
def dd__law_sets : He.DefD := ⟨("_law_sets", none), "_law_sets", "_law_sets", defArgs s__law_sets, defBody s__law_sets, defScope s__law_sets, [], []⟩
def dd__law_meets : He.DefD := ⟨("_law_meets", none), "_law_meets", "_law_meets", defArgs s__law_meets, defBody s__law_meets, defScope s__law_meets, [], []⟩
def dd__law_counts : He.DefD := ⟨("_law_counts", none), "_law_counts", "_law_counts", defArgs s__law_counts, defBody s__law_counts, defScope s__law_counts, [], []⟩
def dd__law_are_sets : He.DefD := ⟨("_law_are_sets", none), "_law_are_sets", "_law_are_sets", defArgs s__law_are_sets, defBody s__law_are_sets, defScope s__law_are_sets, [], []⟩
def dd__law_near : He.DefD := ⟨("_law_near", none), "_law_near", "_law_near", defArgs s__law_near, defBody s__law_near, defScope s__law_near, [], []⟩
def dd__law_right : He.DefD := ⟨("_law_right", none), "_law_right", "_law_right", defArgs s__law_right, defBody s__law_right, defScope s__law_right, [], []⟩
def dd_law : He.DefD := ⟨("law", none), "law", "law", defArgs s_law, defBody s_law, defScope s_law, [], []⟩
def hfn : List He.DefD := [dd_is_whole, dd_out_of, dd_sign_of, dd_counts_in, dd_counts_by, dd_sets_by, dd_sums_told, dd_are_sets, dd_shows_sums, dd_need_things, dd_need_sums, dd_sums_paper, dd_is_sums_paper, dd__law_crock, dd__law_ladle, dd__law_is_whole, dd__law_lots, dd__law_out_of, dd__law_sets, dd__law_meets, dd__law_counts, dd__law_are_sets, dd__law_near, dd__law_right, dd_law]
def hfa : List He.Fa := [.glo "is_whole", .glo "out_of", .glo "sign_of", .glo "counts_in", .glo "counts_by", .glo "sets_by", .glo "sums_told", .glo "are_sets", .glo "shows_sums", .glo "need_things", .glo "need_sums", .glo "sums_paper", .glo "is_sums_paper", .glo "_law_crock", .glo "_law_ladle", .glo "_law_is_whole", .glo "_law_lots", .glo "_law_out_of", .glo "_law_sets", .glo "_law_meets", .glo "_law_counts", .glo "_law_are_sets", .glo "_law_near", .glo "_law_right", .glo "law", .free "abs", .free "all", .free "bool", .free "enumerate", .free "int", .free "isinstance", .free "len", .free "list", .free "max", .free "min", .free "range", .free "set", .free "sorted", .free "str", .free "sum", .free "tuple", .free "zip", .str "LACK" "lack", .int "LONGEST" 1000000000000000000000000000000, .int "MOST_SETS" 6, .int "MOST_THINGS" 30, .str "SETS" "sets"]
abbrev hR : PySem.W.OpenRow := PySem.W.OpenLaw.row PySem.Challenge.rw_countwide_k70_whole_sets_or_a_lack_judge
abbrev hk : PySem.W.Hook := He.hookD 4 hfa hfn
def hob (s : PySem.W.SharedT) : He.AlD := He.obsDG 4 hfa hfn (HandSHeadRun.getT s)
theorem hob_eq (s : PySem.W.SharedT) : hob s = hk.obs s.abs := He.obsDG_eq (HandSHeadRun.getT_eq s)
def hloose : List Str := ([("FoldError" : Str), ("NoTable" : Str), ("LackError" : Str), ("NoNumber" : Str), ("is_whole" : Str), ("MOST_THINGS" : Str), ("MOST_SETS" : Str), ("LONGEST" : Str), ("SETS" : Str), ("LACK" : Str), ("out_of" : Str), ("sign_of" : Str), ("counts_in" : Str), ("counts_by" : Str), ("sets_by" : Str), ("sums_told" : Str), ("are_sets" : Str), ("shows_sums" : Str), ("need_things" : Str), ("need_sums" : Str), ("sums_paper" : Str), ("is_sums_paper" : Str), ("_law_crock" : Str), ("_law_ladle" : Str), ("_law_is_whole" : Str), ("_law_lots" : Str), ("_law_out_of" : Str), ("_law_sets" : Str), ("_law_meets" : Str), ("_law_counts" : Str), ("_law_are_sets" : Str), ("_law_near" : Str), ("_law_right" : Str)] : List Str)
theorem hrun (w : World) : HandSHeadRun.RunEq hR (PySem.W.view hR.prog [37]) hk hob 4000 hloose w := by
  intro os
  kernel_rfl
theorem facts {P : Program} {w : World} {K : PySem.W.Frag} {h : Heap} {mg : Str → Option Value} {f : Addr} (X : K.In h) (G : h.Ns mainGlobals mg) (hfa : mg ("law" : Str) = some (.ref f)) (c : He.SaysD Law.hfa hfn K) :
    ∃ fd : FuncData, (∀ (s : Shared) (v : Value), BindsTo s fd ⟨[v], []⟩ [("script", v)]) ∧ ∀ base : Heap, K.In base → base.Ns mainGlobals mg → FnOk P w K mg base (L2.CX P w) 6 f fd ["script"] (spG K 1 G_law) := by
  obtain ⟨fd_is_whole, F_is_whole⟩ := c.def_ 0 (d := dd_is_whole) rfl
  obtain ⟨fd_out_of, F_out_of⟩ := c.def_ 1 (d := dd_out_of) rfl
  obtain ⟨fd_sign_of, F_sign_of⟩ := c.def_ 2 (d := dd_sign_of) rfl
  obtain ⟨fd_counts_in, F_counts_in⟩ := c.def_ 3 (d := dd_counts_in) rfl
  obtain ⟨fd_counts_by, F_counts_by⟩ := c.def_ 4 (d := dd_counts_by) rfl
  obtain ⟨fd_sets_by, F_sets_by⟩ := c.def_ 5 (d := dd_sets_by) rfl
  obtain ⟨fd_sums_told, F_sums_told⟩ := c.def_ 6 (d := dd_sums_told) rfl
  obtain ⟨fd_are_sets, F_are_sets⟩ := c.def_ 7 (d := dd_are_sets) rfl
  obtain ⟨fd_shows_sums, F_shows_sums⟩ := c.def_ 8 (d := dd_shows_sums) rfl
  obtain ⟨fd_need_things, F_need_things⟩ := c.def_ 9 (d := dd_need_things) rfl
  obtain ⟨fd_need_sums, F_need_sums⟩ := c.def_ 10 (d := dd_need_sums) rfl
  obtain ⟨fd_sums_paper, F_sums_paper⟩ := c.def_ 11 (d := dd_sums_paper) rfl
  obtain ⟨fd_is_sums_paper, F_is_sums_paper⟩ := c.def_ 12 (d := dd_is_sums_paper) rfl
  obtain ⟨fd__law_crock, F__law_crock⟩ := c.def_ 13 (d := dd__law_crock) rfl
  obtain ⟨fd__law_ladle, F__law_ladle⟩ := c.def_ 14 (d := dd__law_ladle) rfl
  obtain ⟨fd__law_is_whole, F__law_is_whole⟩ := c.def_ 15 (d := dd__law_is_whole) rfl
  obtain ⟨fd__law_lots, F__law_lots⟩ := c.def_ 16 (d := dd__law_lots) rfl
  obtain ⟨fd__law_out_of, F__law_out_of⟩ := c.def_ 17 (d := dd__law_out_of) rfl
  obtain ⟨fd__law_sets, F__law_sets⟩ := c.def_ 18 (d := dd__law_sets) rfl
  obtain ⟨fd__law_meets, F__law_meets⟩ := c.def_ 19 (d := dd__law_meets) rfl
  obtain ⟨fd__law_counts, F__law_counts⟩ := c.def_ 20 (d := dd__law_counts) rfl
  obtain ⟨fd__law_are_sets, F__law_are_sets⟩ := c.def_ 21 (d := dd__law_are_sets) rfl
  obtain ⟨fd__law_near, F__law_near⟩ := c.def_ 22 (d := dd__law_near) rfl
  obtain ⟨fd__law_right, F__law_right⟩ := c.def_ 23 (d := dd__law_right) rfl
  obtain ⟨fd_law, F_law⟩ := c.def_ 24 (d := dd_law) rfl
  have T : Txt mg := ⟨He.free_ok X G (c.fact 25 (f := .free "abs") rfl), He.free_ok X G (c.fact 26 (f := .free "all") rfl), He.free_ok X G (c.fact 27 (f := .free "bool") rfl), He.free_ok X G (c.fact 28 (f := .free "enumerate") rfl), He.free_ok X G (c.fact 29 (f := .free "int") rfl), He.free_ok X G (c.fact 30 (f := .free "isinstance") rfl), He.free_ok X G (c.fact 31 (f := .free "len") rfl), He.free_ok X G (c.fact 32 (f := .free "list") rfl), He.free_ok X G (c.fact 33 (f := .free "max") rfl), He.free_ok X G (c.fact 34 (f := .free "min") rfl), He.free_ok X G (c.fact 35 (f := .free "range") rfl), He.free_ok X G (c.fact 36 (f := .free "set") rfl), He.free_ok X G (c.fact 37 (f := .free "sorted") rfl), He.free_ok X G (c.fact 38 (f := .free "str") rfl), He.free_ok X G (c.fact 39 (f := .free "sum") rfl), He.free_ok X G (c.fact 40 (f := .free "tuple") rfl), He.free_ok X G (c.fact 41 (f := .free "zip") rfl), He.str_ok X G (c.fact 42 (f := .str "LACK" "lack") rfl), He.int_ok X G (c.fact 43 (f := .int "LONGEST" 1000000000000000000000000000000) rfl), He.int_ok X G (c.fact 44 (f := .int "MOST_SETS" 6) rfl), He.int_ok X G (c.fact 45 (f := .int "MOST_THINGS" 30) rfl), He.str_ok X G (c.fact 46 (f := .str "SETS" "sets") rfl)⟩
  have e := hfa.symm.trans (He.glo_ok X G (c.fact 24 (f := .glo "law") rfl))
  cases e
  have b := FunD.bindsA (ps := ["script"]) F_law fun _ _ _ _ _ _ us hl => match us, hl with | [_], _ => rfl
  refine ⟨fd_law, fun s v => b s [v] rfl, fun base _ _ => ?_⟩
  have O_is_whole := ok_is_whole (P := P) (w := w) (base := base) F_is_whole T 
  have KC_is_whole_1_least_most : KCal P w K mg base "is_whole" 1 3 1 ["least", "most"] [some 0, some 1] [] G_is_whole := by
    obtain ⟨mv, kb⟩ := Tr.FunD.kb (ps := ["thing", "least", "most"]) F_is_whole 1 ["least", "most"] [] [some 0, some 1] (List.cons_ne_nil _ _) (by simp [dd_is_whole, He.DefD.kws, He.Dv.v]) fun _ _ _ _ _ _ us mv ws h1 h2 h3 => match us, mv, ws, h1, h2, h3 with | [_], [], [_, _], _, _, _ => rfl
    exact ⟨_, _, _, [], mv, O_is_whole, He.glo_ok X G (c.fact 0 (f := .glo "is_whole") rfl), F_is_whole.kp, kb, fun _ _ => .nil, by simp [D.flag]⟩
  have C_is_whole_1 : Cal P w K mg base "is_whole" 1 3 [.non, .non] G_is_whole := by
    obtain ⟨ds, hv, hb⟩ := FunD.binds0 (ps := ["thing", "least", "most"]) F_is_whole 1 (List.cons_ne_nil _ _) rfl fun _ _ _ _ _ _ us ks h1 h2 => match us, ks, h1, h2 with | [_], [_, _], _, _ => ⟨_, _, _, _, _, _, rfl, rfl, ⟨_, _, _, _, _, _, rfl, rfl, rfl⟩⟩
    exact ⟨_, _, _, _, ds, O_is_whole, He.glo_ok X G (c.fact 0 (f := .glo "is_whole") rfl), F_is_whole.kp, hb, hv, fun _ _ => .cons (Rp_non.mpr ⟨rfl, rfl⟩) (.cons (Rp_non.mpr ⟨rfl, rfl⟩) (.nil)), by simp [D.flag]⟩
  have O_out_of := ok_out_of (P := P) (w := w) (base := base) F_out_of T 
  have C_out_of_2 : Cal P w K mg base "out_of" 1 2 [] G_out_of := ⟨_, _, _, [], [], O_out_of, He.glo_ok X G (c.fact 1 (f := .glo "out_of") rfl), F_out_of.kp, FunD.bindsN (ps := ["many", "size"]) F_out_of fun _ _ _ _ _ _ us hl => match us, hl with | [_, _], _ => rfl, .nil, fun _ _ => .nil, by simp⟩
  have O_sign_of := ok_sign_of (P := P) (w := w) (base := base) F_sign_of T 
  have C_sign_of_1 : Cal P w K mg base "sign_of" 1 1 [] G_sign_of := ⟨_, _, _, [], [], O_sign_of, He.glo_ok X G (c.fact 2 (f := .glo "sign_of") rfl), F_sign_of.kp, FunD.bindsN (ps := ["number"]) F_sign_of fun _ _ _ _ _ _ us hl => match us, hl with | [_], _ => rfl, .nil, fun _ _ => .nil, by simp⟩
  have O_counts_in := ok_counts_in (P := P) (w := w) (base := base) F_counts_in T C_sign_of_1 C_out_of_2
  have C_counts_in_1 : Cal P w K mg base "counts_in" 2 1 [] G_counts_in := ⟨_, _, _, [], [], O_counts_in, He.glo_ok X G (c.fact 3 (f := .glo "counts_in") rfl), F_counts_in.kp, FunD.bindsN (ps := ["sums"]) F_counts_in fun _ _ _ _ _ _ us hl => match us, hl with | [_], _ => rfl, .nil, fun _ _ => .nil, by simp⟩
  have O_counts_by := ok_counts_by (P := P) (w := w) (base := base) F_counts_by T 
  have C_counts_by_2 : Cal P w K mg base "counts_by" 1 2 [] G_counts_by := ⟨_, _, _, [], [], O_counts_by, He.glo_ok X G (c.fact 4 (f := .glo "counts_by") rfl), F_counts_by.kp, FunD.bindsN (ps := ["things", "sets"]) F_counts_by fun _ _ _ _ _ _ us hl => match us, hl with | [_, _], _ => rfl, .nil, fun _ _ => .nil, by simp⟩
  have O_sets_by := ok_sets_by (P := P) (w := w) (base := base) F_sets_by T 
  have C_sets_by_1 : Cal P w K mg base "sets_by" 1 1 [] G_sets_by := ⟨_, _, _, [], [], O_sets_by, He.glo_ok X G (c.fact 5 (f := .glo "sets_by") rfl), F_sets_by.kp, FunD.bindsN (ps := ["counts"]) F_sets_by fun _ _ _ _ _ _ us hl => match us, hl with | [_], _ => rfl, .nil, fun _ _ => .nil, by simp⟩
  have O_sums_told := ok_sums_told (P := P) (w := w) (base := base) F_sums_told T C_counts_in_1 C_sets_by_1
  have C_sums_told_1 : Cal P w K mg base "sums_told" 3 1 [] G_sums_told := ⟨_, _, _, [], [], O_sums_told, He.glo_ok X G (c.fact 6 (f := .glo "sums_told") rfl), F_sums_told.kp, FunD.bindsN (ps := ["sums"]) F_sums_told fun _ _ _ _ _ _ us hl => match us, hl with | [_], _ => rfl, .nil, fun _ _ => .nil, by simp⟩
  have O_are_sets := ok_are_sets (P := P) (w := w) (base := base) F_are_sets T KC_is_whole_1_least_most
  have C_are_sets_2 : Cal P w K mg base "are_sets" 2 2 [] G_are_sets := ⟨_, _, _, [], [], O_are_sets, He.glo_ok X G (c.fact 7 (f := .glo "are_sets") rfl), F_are_sets.kp, FunD.bindsN (ps := ["things", "thing"]) F_are_sets fun _ _ _ _ _ _ us hl => match us, hl with | [_, _], _ => rfl, .nil, fun _ _ => .nil, by simp⟩
  have O_shows_sums := ok_shows_sums (P := P) (w := w) (base := base) F_shows_sums T KC_is_whole_1_least_most C_counts_in_1 C_are_sets_2 C_counts_by_2
  have C_shows_sums_2 : Cal P w K mg base "shows_sums" 3 2 [] G_shows_sums := ⟨_, _, _, [], [], O_shows_sums, He.glo_ok X G (c.fact 8 (f := .glo "shows_sums") rfl), F_shows_sums.kp, FunD.bindsN (ps := ["sums", "thing"]) F_shows_sums fun _ _ _ _ _ _ us hl => match us, hl with | [_, _], _ => rfl, .nil, fun _ _ => .nil, by simp⟩
  have O_need_things := ok_need_things (P := P) (w := w) (base := base) F_need_things T KC_is_whole_1_least_most
  have C_need_things_1 : Cal P w K mg base "need_things" 2 1 [] G_need_things := ⟨_, _, _, [], [], O_need_things, He.glo_ok X G (c.fact 9 (f := .glo "need_things") rfl), F_need_things.kp, FunD.bindsN (ps := ["things"]) F_need_things fun _ _ _ _ _ _ us hl => match us, hl with | [_], _ => rfl, .nil, fun _ _ => .nil, by simp⟩
  have O_need_sums := ok_need_sums (P := P) (w := w) (base := base) F_need_sums T C_is_whole_1
  have C_need_sums_1 : Cal P w K mg base "need_sums" 2 1 [] G_need_sums := ⟨_, _, _, [], [], O_need_sums, He.glo_ok X G (c.fact 10 (f := .glo "need_sums") rfl), F_need_sums.kp, FunD.bindsN (ps := ["thing"]) F_need_sums fun _ _ _ _ _ _ us hl => match us, hl with | [_], _ => rfl, .nil, fun _ _ => .nil, by simp⟩
  have O_sums_paper := ok_sums_paper (P := P) (w := w) (base := base) F_sums_paper T C_need_sums_1 C_need_things_1 C_sums_told_1
  have C_sums_paper_1 : Cal P w K mg base "sums_paper" 4 1 [] G_sums_paper := ⟨_, _, _, [], [], O_sums_paper, He.glo_ok X G (c.fact 11 (f := .glo "sums_paper") rfl), F_sums_paper.kp, FunD.bindsN (ps := ["sums"]) F_sums_paper fun _ _ _ _ _ _ us hl => match us, hl with | [_], _ => rfl, .nil, fun _ _ => .nil, by simp⟩
  have O_is_sums_paper := ok_is_sums_paper (P := P) (w := w) (base := base) F_is_sums_paper T C_need_sums_1 C_need_things_1 C_shows_sums_2
  have C_is_sums_paper_2 : Cal P w K mg base "is_sums_paper" 4 2 [] G_is_sums_paper := ⟨_, _, _, [], [], O_is_sums_paper, He.glo_ok X G (c.fact 12 (f := .glo "is_sums_paper") rfl), F_is_sums_paper.kp, FunD.bindsN (ps := ["sums", "value"]) F_is_sums_paper fun _ _ _ _ _ _ us hl => match us, hl with | [_, _], _ => rfl, .nil, fun _ _ => .nil, by simp⟩
  have O__law_crock := ok__law_crock (P := P) (w := w) (base := base) F__law_crock T 
  have C__law_crock_2 : Cal P w K mg base "_law_crock" 1 2 [] G__law_crock := ⟨_, _, _, [], [], O__law_crock, He.glo_ok X G (c.fact 13 (f := .glo "_law_crock") rfl), F__law_crock.kp, FunD.bindsN (ps := ["script", "spot"]) F__law_crock fun _ _ _ _ _ _ us hl => match us, hl with | [_, _], _ => rfl, .nil, fun _ _ => .nil, by simp⟩
  have O__law_ladle := ok__law_ladle (P := P) (w := w) (base := base) F__law_ladle T 
  have C__law_ladle_2 : Cal P w K mg base "_law_ladle" 1 2 [] G__law_ladle := ⟨_, _, _, [], [], O__law_ladle, He.glo_ok X G (c.fact 14 (f := .glo "_law_ladle") rfl), F__law_ladle.kp, FunD.bindsN (ps := ["crock", "total"]) F__law_ladle fun _ _ _ _ _ _ us hl => match us, hl with | [_, _], _ => rfl, .nil, fun _ _ => .nil, by simp⟩
  have O__law_is_whole := ok__law_is_whole (P := P) (w := w) (base := base) F__law_is_whole T 
  have C__law_is_whole_1 : Cal P w K mg base "_law_is_whole" 1 1 [] G__law_is_whole := ⟨_, _, _, [], [], O__law_is_whole, He.glo_ok X G (c.fact 15 (f := .glo "_law_is_whole") rfl), F__law_is_whole.kp, FunD.bindsN (ps := ["value"]) F__law_is_whole fun _ _ _ _ _ _ us hl => match us, hl with | [_], _ => rfl, .nil, fun _ _ => .nil, by simp⟩
  have O__law_lots := ok__law_lots (P := P) (w := w) (base := base) F__law_lots T 
  have C__law_lots_1 : Cal P w K mg base "_law_lots" 1 1 [] G__law_lots := ⟨_, _, _, [], [], O__law_lots, He.glo_ok X G (c.fact 16 (f := .glo "_law_lots") rfl), F__law_lots.kp, FunD.bindsN (ps := ["many"]) F__law_lots fun _ _ _ _ _ _ us hl => match us, hl with | [_], _ => rfl, .nil, fun _ _ => .nil, by simp⟩
  have O__law_out_of := ok__law_out_of (P := P) (w := w) (base := base) F__law_out_of T 
  have C__law_out_of_2 : Cal P w K mg base "_law_out_of" 1 2 [] G__law_out_of := ⟨_, _, _, [], [], O__law_out_of, He.glo_ok X G (c.fact 17 (f := .glo "_law_out_of") rfl), F__law_out_of.kp, FunD.bindsN (ps := ["many", "few"]) F__law_out_of fun _ _ _ _ _ _ us hl => match us, hl with | [_, _], _ => rfl, .nil, fun _ _ => .nil, by simp⟩
  have O__law_sets := ok__law_sets (P := P) (w := w) (base := base) F__law_sets T C__law_ladle_2
  have C__law_sets_3 : Cal P w K mg base "_law_sets" 2 3 [] G__law_sets := ⟨_, _, _, [], [], O__law_sets, He.glo_ok X G (c.fact 18 (f := .glo "_law_sets") rfl), F__law_sets.kp, FunD.bindsN (ps := ["crock", "things", "many"]) F__law_sets fun _ _ _ _ _ _ us hl => match us, hl with | [_, _, _], _ => rfl, .nil, fun _ _ => .nil, by simp⟩
  have O__law_meets := ok__law_meets (P := P) (w := w) (base := base) F__law_meets T C__law_lots_1
  have C__law_meets_2 : Cal P w K mg base "_law_meets" 2 2 [] G__law_meets := ⟨_, _, _, [], [], O__law_meets, He.glo_ok X G (c.fact 19 (f := .glo "_law_meets") rfl), F__law_meets.kp, FunD.bindsN (ps := ["things", "sets"]) F__law_meets fun _ _ _ _ _ _ us hl => match us, hl with | [_, _], _ => rfl, .nil, fun _ _ => .nil, by simp⟩
  have O__law_counts := ok__law_counts (P := P) (w := w) (base := base) F__law_counts T C__law_out_of_2
  have C__law_counts_1 : Cal P w K mg base "_law_counts" 2 1 [] G__law_counts := ⟨_, _, _, [], [], O__law_counts, He.glo_ok X G (c.fact 20 (f := .glo "_law_counts") rfl), F__law_counts.kp, FunD.bindsN (ps := ["sums"]) F__law_counts fun _ _ _ _ _ _ us hl => match us, hl with | [_], _ => rfl, .nil, fun _ _ => .nil, by simp⟩
  have O__law_are_sets := ok__law_are_sets (P := P) (w := w) (base := base) F__law_are_sets T C__law_is_whole_1 C__law_counts_1 C__law_meets_2
  have C__law_are_sets_2 : Cal P w K mg base "_law_are_sets" 3 2 [] G__law_are_sets := ⟨_, _, _, [], [], O__law_are_sets, He.glo_ok X G (c.fact 21 (f := .glo "_law_are_sets") rfl), F__law_are_sets.kp, FunD.bindsN (ps := ["sums", "value"]) F__law_are_sets fun _ _ _ _ _ _ us hl => match us, hl with | [_, _], _ => rfl, .nil, fun _ _ => .nil, by simp⟩
  have O__law_near := ok__law_near (P := P) (w := w) (base := base) F__law_near T C__law_ladle_2 C__law_sets_3
  have C__law_near_3 : Cal P w K mg base "_law_near" 3 3 [] G__law_near := ⟨_, _, _, [], [], O__law_near, He.glo_ok X G (c.fact 22 (f := .glo "_law_near") rfl), F__law_near.kp, FunD.bindsN (ps := ["crock", "sums", "paper"]) F__law_near fun _ _ _ _ _ _ us hl => match us, hl with | [_, _, _], _ => rfl, .nil, fun _ _ => .nil, by simp⟩
  have O__law_right := ok__law_right (P := P) (w := w) (base := base) F__law_right T C__law_ladle_2 C__law_sets_3 C__law_meets_2 C_sums_paper_1 C__law_counts_1 C__law_are_sets_2 C__law_near_3 C_is_sums_paper_2
  have C__law_right_1 : Cal P w K mg base "_law_right" 5 1 [] G__law_right := ⟨_, _, _, [], [], O__law_right, He.glo_ok X G (c.fact 23 (f := .glo "_law_right") rfl), F__law_right.kp, FunD.bindsN (ps := ["crock"]) F__law_right fun _ _ _ _ _ _ us hl => match us, hl with | [_], _ => rfl, .nil, fun _ _ => .nil, by simp⟩
  have O_law := ok_law (P := P) (w := w) (base := base) F_law T C__law_crock_2 C__law_right_1 C_sums_paper_1 C_is_sums_paper_2
  exact O_law
end Law


set_option maxHeartbeats 4000000
namespace Law
open PySem PySem.Spec PyProof.Rows L2 Tr
def i1? : FR → Option (Int × List D)
  | .ok (.int i) ds => some (i, ds)
  | _ => none
theorem whole_nn (i : Int) : G_is_whole [.int i, .non, .non] = .ok (.bl true) [.int i, .non, .non] := by
  simp [G_is_whole, b_is_whole, fin, back]
theorem whole_ii (i lo hi : Int) : G_is_whole [.int i, .int lo, .int hi] = .ok (.bl (decide (lo ≤ i) && decide (i ≤ hi))) [.int i, .int lo, .int hi] := by
  by_cases h : i < lo
  · have h' : ¬ lo ≤ i := by omega
    simp [G_is_whole, b_is_whole, fin, back, h, h']
  · have h' : lo ≤ i := by omega
    simp [G_is_whole, b_is_whole, fin, back, h, h']
def sg (n : Int) : Int := if n % 2 = 0 then 1 else -1
theorem eq_ints {b : Bool} {i j : Int} : dEq b (.int i) (.int j) = .ok (.bl (if b then !decide (i = j) else decide (i = j))) := by
  have h : (i == j) = decide (i = j) := by by_cases q : i = j <;> simp [q]
  cases b <;> simp [dEq, D.py, SeqAt.shaped, PyData.eqv, PyData.canLay0, PyData.depth, h]
theorem pyL_ints : ∀ xs : List Int, pyL (xs.map .int) = some (xs.map .int)
  | [] => by simp [pyL]
  | x :: xs => by simp [pyL, D.py, pyL_ints xs]
theorem lay_ints : ∀ xs : List Int, PyData.canLayAll0 (xs.map .int) = true ∧ PyData.depthAll (xs.map .int) = 0
  | [] => by simp [PyData.canLayAll0, PyData.depthAll]
  | x :: xs => by simp [PyData.canLayAll0, PyData.depthAll, PyData.canLay0, PyData.depth, lay_ints xs]
theorem eqv_ints : ∀ xs ys : List Int, PyData.eqvAll (xs.map .int) (ys.map .int) = decide (xs = ys)
  | [], [] => by simp [PyData.eqvAll]
  | [], y :: ys => by simp [PyData.eqvAll]
  | x :: xs, [] => by simp [PyData.eqvAll]
  | x :: xs, y :: ys => by
    have h : (x == y) = decide (x = y) := by by_cases q : x = y <;> simp [q]
    simp [PyData.eqvAll, PyData.eqv, eqv_ints xs ys, h]
theorem eq_tups {b : Bool} {xs ys : List Int} : dEq b (.tup (xs.map .int)) (.tup (ys.map .int)) = .ok (.bl (if b then !decide (xs = ys) else decide (xs = ys))) := by
  cases b <;> simp [dEq, D.py, pyL_ints, SeqAt.shaped, PyData.eqv, PyData.canLay0, PyData.depth, lay_ints, eqv_ints]
theorem eq_lsts {b o o' : Bool} {xs ys : List Int} : dEq b (.lst o (xs.map .int)) (.lst o' (ys.map .int)) = .ok (.bl (if b then !decide (xs = ys) else decide (xs = ys))) := by
  cases b <;> simp [dEq, D.py, pyL_ints, SeqAt.shaped, PyData.eqv, PyData.canLay0, PyData.depth, lay_ints, eqv_ints]
theorem sign_ok (i : Int) : G_sign_of [.int i] = .ok (.int (sg i)) [.int i] := by
  by_cases h : i % 2 = 0 <;> simp [G_sign_of, b_sign_of, fin, back, eq_ints, sg, h]
def ch : Nat → Nat → Int
  | _, 0 => 1
  | 0, _ + 1 => 0
  | n + 1, k + 1 => ch n k + ch n (k + 1)
def isIt : FR → Int → Int → Int → Bool
  | .ok (.int i) [.int a, .int b], x, y, z => i == x && a == y && b == z
  | _, _, _, _ => false
theorem isIt_ok {r : FR} {x y z : Int} (h : isIt r x y z = true) : r = .ok (.int x) [.int y, .int z] := by
  unfold isIt at h
  split at h
  · simp at h; obtain ⟨⟨rfl, rfl⟩, rfl⟩ := h; rfl
  · cases h
theorem out_all : ∀ n k : Fin 9, isIt (fnG0 [0, 1] 2 4 b_out_of [.int n.val, .int k.val]) (ch n.val k.val) n.val k.val = true := by decide +kernel
theorem lout_all : ∀ n k : Fin 9, isIt (fnG0 [0, 1] 2 4 b__law_out_of [.int n.val, .int k.val]) (ch n.val k.val) n.val k.val = true := by decide +kernel
theorem out_ok {n k : Nat} (hn : n < 9) (hk : k < 9) : G_out_of [.int n, .int k] = .ok (.int (ch n k)) [.int n, .int k] := by rw [G_out_of, fnG_eq]; exact isIt_ok (out_all ⟨n, hn⟩ ⟨k, hk⟩)
theorem lout_ok {n k : Nat} (hn : n < 9) (hk : k < 9) : G__law_out_of [.int n, .int k] = .ok (.int (ch n k)) [.int n, .int k] := by rw [G__law_out_of, fnG_eq]; exact isIt_ok (lout_all ⟨n, hn⟩ ⟨k, hk⟩)
theorem ch_all : ∀ n k : Fin 9, (ch n.val k.val).natAbs < 100 ∧ 0 ≤ ch n.val k.val := by decide +kernel
theorem ch_lt {n k : Nat} (hn : n < 9) (hk : k < 9) : (ch n k).natAbs < 100 := (ch_all ⟨n, hn⟩ ⟨k, hk⟩).1
/-! counts_in, sums_in -/
theorem atI_map {α : Type} {F : α → D} (xs : List α) (k : Nat) (h : k < xs.length) : atI (xs.map F) (k : Int) = some (F xs[k]) := by
  unfold atI ixN
  have h1 : ((k : Int) < ((xs.map F).length : Nat)) := by simp; omega
  rw [if_pos (by omega), if_pos h1]
  simp [h]
def gt0 (xs : List Int) (k : Nat) : Int := xs.getD k 0
theorem getD_lt {xs : List Int} {k : Nat} (h : k < xs.length) : gt0 xs k = xs[k] := by simp [gt0, h]
theorem ix_tup {xs : List Int} {k : Nat} (h : k < xs.length) : dIx (.tup (xs.map .int)) (.int k) = .ok (.int (gt0 xs k)) := by
  simp [dIx, atI_map xs k h, getD_lt h]
theorem ix_lst {o} {xs : List Int} {k : Nat} (h : k < xs.length) : dIx (.lst o (xs.map .int)) (.int k) = .ok (.int (gt0 xs k)) := by
  simp [dIx, atI_map xs k h, getD_lt h]
def cin (xs : List Int) : List Int := (List.range xs.length).map fun r => ((List.range (xs.length - r)).map fun (k : Nat) => sg k * ch (r + k) r * gt0 xs (r + k)).sum
def sin (xs : List Int) : List Int := (List.range xs.length).map fun r => ((List.range (xs.length - r)).map fun (k : Nat) => ch (r + k) r * gt0 xs (r + k)).sum
def big (x : Int) : Prop := x.natAbs < 2 ^ 900
theorem sg_abs (i : Int) : (sg i).natAbs = 1 := by unfold sg; split <;> rfl
theorem rng_nat {n : Nat} : rng 0 (n : Int) = (List.range n).map fun k => D.int (k : Nat) := by
  unfold rng
  rw [show ((n : Int) - 0).toNat = n by omega]
  exact List.map_congr_left fun k _ => by rw [Int.zero_add]
theorem rng_nat2 {a n : Nat} : rng a (n : Int) = (List.range (n - a)).map fun k => D.int ((a + k : Nat)) := by
  unfold rng
  rw [show ((n : Int) - a).toNat = n - a by omega]
  exact List.map_congr_left fun k _ => by rw [Int.natCast_add]
theorem small_nat {n : Nat} (h : n ≤ 100) : small62 (n : Int) = true := by unfold small62; simp; omega
theorem line_nat {n : Nat} (h : n ≤ 100) : n ≤ sizeLine := Nat.le_trans h (by decide)
theorem big_get {xs : List Int} (hb : ∀ x ∈ xs, big x) {k : Nat} (h : k < xs.length) : (gt0 xs k).natAbs < 2 ^ 900 := by
  rw [getD_lt h]; exact hb _ (List.getElem_mem h)
theorem pow_le' : 2 ^ 900 ≤ 2 ^ 1000 := Nat.pow_le_pow_right (by decide) (by decide)
theorem lt_100 {n : Nat} (h : n < 100) : n < 2 ^ 1000 := Nat.lt_of_lt_of_le h (Nat.le_trans (show 100 ≤ 2 ^ 7 by decide) (Nat.pow_le_pow_right (by decide) (by decide)))
theorem mul_sc {s c x : Int} (hs : s.natAbs = 1) (hc : c.natAbs < 100) (hx : x.natAbs < 2 ^ 900) : mulOk s c = true ∧ mulOk (s * c) x = true ∧ mulOk c x = true := by
  have h1 : (s * c).natAbs < 100 := by rw [Int.natAbs_mul, hs, Nat.one_mul]; exact hc
  exact ⟨mulOk_of (lt_100 (by omega)) (lt_100 hc), mulOk_of (lt_100 h1) (Nat.lt_of_lt_of_le hx pow_le'), mulOk_of (lt_100 hc) (Nat.lt_of_lt_of_le hx pow_le')⟩
@[simp] theorem sum_of {α : Type} {o} {f : α → Int} {l : List α} : dSum (.lst o (l.map fun k => D.int (f k))) = .ok (.int (l.map f).sum) := by simp [dSum, dInts_of]
theorem counts_in_ok (xs : List Int) (hl : xs.length ≤ 8) (hb : ∀ x ∈ xs, big x) : G_counts_in [.tup (xs.map .int)] = .ok (.lst true ((cin xs).map .int)) [.tup (xs.map .int)] := by
  have hs : small62 (xs.length : Int) = true := small_nat (by omega)
  unfold G_counts_in b_counts_in
  simp
  rw [eLc_map (List.range xs.length) (fun k => D.int (k : Nat)) (fun r => .int (((List.range (xs.length - r)).map fun (k : Nat) => sg k * ch (r + k) r * gt0 xs (r + k)).sum)) (k := ⟨rng 0 xs.length, none⟩) (e1 := [some (.tup (xs.map .int)), some (.int xs.length), none, none])]
  · simp [cin]
  · simp [hs]
  · exact rng_nat
  · simp
  · rw [List.length_range]; exact line_nat (by omega)
  · simp
  · intro r hr
    have hr : r < xs.length := by simpa using hr
    simp [lcStep]
    rw [eLc_map (List.range (xs.length - r)) (fun k => D.int ((r + k : Nat))) (fun k => .int (sg k * ch (r + k) r * gt0 xs (r + k))) (k := ⟨rng r xs.length, none⟩) (e1 := [some (.tup (xs.map .int)), some (.int xs.length), some (.int r), none])]
    · simp [← List.map_map (g := D.int)]
    · simp [hs, small_nat (n := r) (by omega)]
    · exact rng_nat2
    · simp
    · rw [List.length_range]; exact line_nat (by omega)
    · simp
    · intro k hk
      have hk : r + k < xs.length := by simp at hk; omega
      have e1 : ((r + k : Nat) : Int) - r = k := by omega
      have q := mul_sc (sg_abs k) (ch_lt (n := r + k) (k := r) (by omega) (by omega)) (big_get hb hk)
      simp [lcStep, sign_ok, out_ok (n := r + k) (k := r) (by omega) (by omega), ix_tup hk, e1, q.1, q.2.1, ← Int.natCast_add]
end Law


set_option maxHeartbeats 4000000
namespace Law
open PySem PySem.Spec PyProof.Rows L2 Tr
@[simp] theorem all_of {α : Type} {o} {f : α → Bool} {l : List α} : dAll (.lst o (l.map fun k => D.bl (f k))) = .ok (.bl (l.all f)) := by
  have h := all_bls (o := o) (ns := l.map f)
  rw [List.map_map] at h
  rw [show (l.map fun k => D.bl (f k)) = l.map (D.bl ∘ f) from rfl, h]
  simp [List.all_map, Function.comp_def]
@[simp] theorem it_tup {ds} : D.items (.tup ds) = some ds := by simp [D.items]
theorem need_sums_ok (xs : List Int) (h2 : 2 ≤ xs.length) (h7 : xs.length ≤ 7) (hb : ∀ x ∈ xs, x.natAbs < 10 ^ 30) : G_need_sums [.tup (xs.map .int)] = .ok .non [.tup (xs.map .int)] := by
  unfold G_need_sums b_need_sums
  have e2 : (2 : Int) ≤ xs.length := by omega
  have e7 : (xs.length : Int) ≤ 7 := by omega
  simp [e2, e7]
  rw [eLc_map xs (fun k => D.int k) (fun _ => .bl true) (k := ⟨xs.map .int, none⟩) (e1 := [some (.tup (xs.map .int)), none])]
  · simp
  · simp
  · rfl
  · simp
  · exact line_nat (by omega)
  · simp
  · intro x hx
    have hx := hb x hx
    simp [lcStep, whole_nn]
    omega
/-- the sums that stand in ended and at_least -/
def endS (xs : List Int) (m : Nat) : Int := ((List.range m).map fun (k : Nat) => sg k * gt0 xs (1 + k)).sum
def atlS (xs : List Int) (m : Nat) : Int := ((List.range (xs.length - m)).map fun (k : Nat) => sg k * ch (m + k - 1) (m - 1) * gt0 xs (m + k)).sum
theorem big_of {x : Int} (h : x.natAbs < 10 ^ 30) : x.natAbs < 2 ^ 900 := Nat.lt_of_lt_of_le h (Nat.le_trans (show 10 ^ 30 ≤ 2 ^ 100 by decide) (Nat.pow_le_pow_right (by decide) (by decide)))
end Law


set_option maxHeartbeats 4000000
namespace Law
open PySem PySem.Spec PyProof.Rows L2 Tr
abbrev tI (s : List Int) : D := .tup (s.map .int)
abbrev setD (ss : List (List Int)) : D := .tup (ss.map tI)
def oft (ss : List (List Int)) (t : Nat) : Int := ((ss.filter fun s => decide ((t : Int) ∈ s)).length : Nat)
def cby (n : Nat) (ss : List (List Int)) : List Int := (List.range (ss.length + 1)).map fun (k : Nat) => (((List.range n).map (oft ss)).count (k : Int) : Nat)
theorem counts_by_ok (n : Nat) (ss : List (List Int)) (hn : n ≤ 30) (hs : ss.length ≤ 6) : G_counts_by [.int n, setD ss] = .ok (.lst true ((cby n ss).map .int)) [.int n, setD ss] := by
  unfold G_counts_by b_counts_by
  simp
  rw [eLc_map (List.range n) (fun k => D.int (k : Nat)) (fun t => .int (oft ss t)) (k := ⟨rng 0 n, none⟩) (e1 := [some (.int n), some (setD ss), none, none, none, none])]
  · simp
    rw [eLc_map (List.range (ss.length + 1)) (fun k => D.int (k : Nat)) (fun (k : Nat) => .int (((List.range n).map (oft ss)).count (k : Int) : Nat)) (k := ⟨rng 0 ((ss.length : Int) + 1), none⟩) (e1 := [some (.int n), some (setD ss), some (.lst true ((List.range n).map fun t => .int (oft ss t))), none, none, none])]
    · simp [cby]
    · have h1 : small62 ((ss.length : Int) + 1) = true := small_nat (n := ss.length + 1) (by omega)
      simp [h1]
    · exact rng_nat (n := ss.length + 1)
    · simp
    · rw [List.length_range]; exact line_nat (by omega)
    · simp
    · intro k hk
      simp [lcStep, isLst, count_of]
  · simp [small_nat (n := n) (by omega)]
  · exact rng_nat
  · simp
  · rw [List.length_range]; exact line_nat (by omega)
  · simp
  · intro t ht
    simp [lcStep]
    rw [eLc_pure ss tI (fun s => decide ((t : Int) ∈ s)) tI (k := ⟨ss.map tI, none⟩) (e1 := [some (.int n), some (setD ss), none, some (.int t), none, none])]
    · simp [oft]
    · simp
    · rfl
    · simp
    · exact line_nat (by omega)
    · simp
    · intro s hs
      by_cases h : (t : Int) ∈ s <;> simp [lcStep, in_tup, h]
def Goods (n : Nat) (ss : List (List Int)) : Prop := ∀ s ∈ ss, s.length ≤ 30 ∧ (∀ x ∈ s, 0 ≤ x ∧ x < n) ∧ s.Pairwise (· < ·)
theorem near_far : ∀ {s : List Int}, s.Pairwise (· < ·) → ∀ p ∈ s.zip (s.drop 1), p.1 < p.2
  | [], _, p, hp => by simp at hp
  | [x], _, p, hp => by simp at hp
  | x :: y :: s, h, p, hp => by
    simp at hp
    rw [List.pairwise_cons] at h
    rcases hp with rfl | hp
    · exact h.1 y (by simp)
    · exact near_far h.2 p (by simpa using hp)
theorem are_sets_ok (n : Nat) (ss : List (List Int)) (hs : ss.length ≤ 6) (hg : Goods n ss) : G_are_sets [.int n, setD ss] = .ok (.bl true) [.int n, setD ss] := by
  unfold G_are_sets b_are_sets
  simp
  obtain ⟨e', h1, x, h2⟩ := forL_inv0 (g := gN 2) (b := (sCons (sIf (tOrF (tNotF (tOfE (eBlt (d2 dIsi) (aCons (xSlot 2) (aCons (xOf (eC (.ty "tuple"))) aNil))))) (tNotF (tOfE (eBlt (d1 dAll) (aCons (xOf (eLc [3] (iSlot 2) (gN 3) tYesF (eCallK G_is_whole [some 0, some 1] [] (aCons (xSlot 3) aNil) (aCons (xOf (eC (.int 0))) (aCons (xOf (eOp2 dSub (xSlot 0) (xOf (eC (.int 1))))) aNil))))) aNil))))) (sRet (eC (.bl false))) sNil)
      (sIf (tNotF (tOfE (eBlt (d1 dAll) (aCons (xOf (eLc [4, 5] (iZip2 (aCons (xSlot 2) (aCons (xOf (eSl dSl (xSlot 2) (oAt (xOf (eC (.int 1)))) oNo)) aNil))) (gTp 2 (gsCons (gN 4) (gsCons (gN 5) gsNil))) tYesF (eOp2 dLt (xSlot 4) (xSlot 5)))) aNil)))) (sRet (eC (.bl false))) sNil))) (ds := ss.map tI) (e := [some (.int n), some (setD ss), none, none, none, none]) (fun i e => ∃ x, e = [some (.int n), some (setD ss), x, none, none, none]) ⟨none, rfl⟩ (by
    rintro j d e hd ⟨x, rfl⟩
    obtain ⟨s, hs1, rfl⟩ : ∃ s, s ∈ ss ∧ d = tI s := by
      have := List.mem_of_getElem? hd
      simp at this
      obtain ⟨s, h1, h2⟩ := this
      exact ⟨s, h1, h2.symm⟩
    obtain ⟨g1, g2, g3⟩ := hg s hs1
    refine ⟨[some (.int n), some (setD ss), some (tI s), none, none, none], [some (.int n), some (setD ss), some (tI s), none, none, none], by simp, ?_, some (tI s), rfl⟩
    simp
    rw [eLc_map s (fun k => D.int k) (fun _ => .bl true) (k := ⟨s.map .int, none⟩) (e1 := [some (.int n), some (setD ss), some (tI s), none, none, none])]
    · simp
      rw [eLc_map (s.zip (s.drop 1)) (fun p => D.tup [.int p.1, .int p.2]) (fun _ => .bl true) (k := ⟨zipD (s.map .int) ((s.drop 1).map .int), none⟩) (e1 := [some (.int n), some (setD ss), some (tI s), none, none, none])]
      · simp
      · have c1 : cutD (s.map D.int) (some 1) none = (s.drop 1).map .int := by rw [List.map_drop]; exact cutD_from _ 1
        simp [dSl, c1]
      · exact zipD_ints _ _
      · simp
      · exact Nat.le_trans (by rw [List.length_zip]; exact Nat.min_le_left _ _) (line_nat (n := s.length) (by omega))
      · simp
      · intro p hp
        have := near_far g3 p hp
        simp [lcStep, this]
    · simp
    · rfl
    · simp
    · exact line_nat (by omega)
    · simp
    · intro x hx
      have := g2 x hx
      simp [lcStep, arr, whole_ii]
      omega)
  rw [h1, h2]
  simp
theorem need_things_ok (n : Nat) (hn : n ≤ 30) : G_need_things [.int n] = .ok .non [.int n] := by
  unfold G_need_things b_need_things
  have e1 : (0 : Int) ≤ n := by omega
  have e2 : (n : Int) ≤ 30 := by omega
  simp [arr, whole_ii, e1, e2]
theorem cby_len (n : Nat) (ss : List (List Int)) : (cby n ss).length = ss.length + 1 := by simp [cby]
theorem cby_le (n : Nat) (ss : List (List Int)) : ∀ x ∈ cby n ss, 0 ≤ x ∧ x ≤ n := by
  intro x hx
  simp only [cby, List.mem_map] at hx
  obtain ⟨k, _, rfl⟩ := hx
  have := List.count_le_length (a := (k : Int)) (l := (List.range n).map (oft ss))
  simp at this
  omega
end Law


set_option maxHeartbeats 4000000
namespace Law
open PySem PySem.Spec PyProof.Rows L2 Tr
def Cr (n : Nat) (d : D) : Prop := ∃ a b c : Int, d = .lst true [.int a, .int b, .int c] ∧ 0 ≤ c ∧ c ≤ n
theorem small_mul {i j : Int} (hi : i.natAbs < 10 ^ 200) (hj : j.natAbs < 10 ^ 200) : mulOk i j = true := by
  have h : 10 ^ 200 ≤ 2 ^ 1000 := Nat.le_trans (show 10 ^ 200 ≤ 16 ^ 200 from Nat.pow_le_pow_left (by decide) _) (by rw [show (16 : Nat) = 2 ^ 4 by decide, ← Nat.pow_mul]; exact Nat.pow_le_pow_right (by decide) (by decide))
  exact mulOk_of (Nat.lt_of_lt_of_le hi h) (Nat.lt_of_lt_of_le hj h)
theorem ix3 {o} {a b c : D} : (a.flag = false → dIx (.lst o [a, b, c]) (.int 0) = .ok a) ∧ (b.flag = false → dIx (.lst o [a, b, c]) (.int 1) = .ok b) ∧ (c.flag = false → dIx (.lst o [a, b, c]) (.int 2) = .ok c) := by
  refine ⟨?_, ?_, ?_⟩ <;> intro h <;> simp [dIx, atI, ixN, h]
theorem log_lt {t : Int} (h0 : 0 < t) (h : t < 2 ^ 100) : t.natAbs.log2 < 9000 := by
  have : t.natAbs < 2 ^ 100 := by omega
  exact Nat.lt_trans (log2_lt' (by decide) this) (by decide)
theorem ladle_ok {n : Nat} {d : D} {t : Int} (h : Cr n d) (hn : n ≤ 100000) (h0 : 0 < t) (h1 : t < 2 ^ 100) : ∃ k d', G__law_ladle [d, .int t] = .ok (.int k) [d', .int t] ∧ Cr (n + 1) d' ∧ 0 ≤ k ∧ k < t := by
  obtain ⟨a, b, c, rfl, c0, c1⟩ := h
  have hl := log_lt h0 h1
  by_cases ha : 0 < a
  · refine ⟨a % t, .lst true [.int (a / t), .int b, .int c], ?_, ⟨_, _, _, rfl, c0, by omega⟩, Int.emod_nonneg _ (by omega), Int.emod_lt_of_pos _ h0⟩
    unfold G__law_ladle b__law_ladle
    simp [ix3, ha, h0, hl, ixN]
  · have m1 : 0 ≤ (b + 86028121 * (c + 1)) % 2305843009213693951 := Int.emod_nonneg _ (by omega)
    have m2 : (b + 86028121 * (c + 1)) % 2305843009213693951 < 2305843009213693951 := Int.emod_lt_of_pos _ (by omega)
    generalize hone : (b + 86028121 * (c + 1)) % 2305843009213693951 = one at m1 m2
    have q1 : mulOk 86028121 (c + 1) = true := small_mul (by omega) (by omega)
    have q2 : mulOk one one = true := small_mul (by omega) (by omega)
    have q3 : mulOk 271 (c + 1) = true := small_mul (by omega) (by omega)
    have q4 : mulOk ((one * one + 271 * (c + 1)) % 2305843009213693921) 5915587277 = true := small_mul (by omega) (by omega)
    have l2 : Nat.log2 65543 < 9000 := by decide
    refine ⟨((one * one + 271 * (c + 1)) % 2305843009213693921 * 5915587277 + one) / 65543 % t, .lst true [.int a, .int b, .int (c + 1)], ?_, ⟨_, _, _, rfl, by omega, by omega⟩, Int.emod_nonneg _ (by omega), Int.emod_lt_of_pos _ h0⟩
    unfold G__law_ladle b__law_ladle
    simp [ix3, ha, h0, hl, ixN, q1, q2, q3, q4, hone, l2]
theorem pow_1 : powOk 10 58 = true := by decide +kernel
theorem pow_2 : powOk (10 ^ 58) 5 = true := by decide +kernel
theorem pow_3 : powOk 10 17 = true := by decide +kernel
theorem atI_scr (ns : List Int) (k : Nat) (h : k < ns.length) : atI ns (k : Int) = some ns[k] := by
  unfold atI ixN
  rw [if_pos (by omega), if_pos (by omega)]
  simp [h]
theorem crock_ok (ns : List Int) (spot : Nat) (hs : spot ≤ 10) : ∃ d, G__law_crock [.scr ns, .int spot] = .ok d [.scr ns, .int spot] ∧ Cr 0 d := by
  have a1 : (0 : Int) < (10 ^ 58) ^ 5 := by decide
  have q1 : ∀ x : Int, mulOk (x % 2305843009213693907) 101 = true := fun x => by
    have m1 : 0 ≤ x % 2305843009213693907 := Int.emod_nonneg _ (by omega)
    have m2 : x % 2305843009213693907 < 2305843009213693907 := Int.emod_lt_of_pos _ (by omega)
    exact small_mul (by omega) (by omega)
  have q2 : mulOk 1171 spot = true := small_mul (by omega) (by omega)
  have q3 : mulOk 43 1 = true := by decide +kernel
  have q4 : mulOk 43 0 = true := by decide +kernel
  have q5 : mulOk 967 spot = true := small_mul (by omega) (by omega)
  unfold G__law_crock b__law_crock
  by_cases h : spot < ns.length
  · have hx : dIx (.scr ns) (.int spot) = .ok (.int ns[spot]) := by simp [dIx, atI_scr ns spot h]
    by_cases c : ns[spot] < 0
    · simp [-Int.reducePow, -Int.reduceMul, h, hx, c, pow_1, pow_2, pow_3, a1, q1, q2, q3, q4]
      exact ⟨_, rfl, _, _, 0, rfl, by omega, by omega⟩
    · simp [-Int.reducePow, -Int.reduceMul, h, hx, c, pow_1, pow_2, pow_3, a1, q1, q2, q3, q4]
      exact ⟨_, rfl, _, _, 0, rfl, by omega, by omega⟩
  · have c : ¬ (967 * (spot : Int) + 83 < 0) := by omega
    simp [-Int.reducePow, -Int.reduceMul, h, c, pow_1, pow_2, pow_3, a1, q1, q2, q3, q4, q5]
    exact ⟨_, rfl, _, _, 0, rfl, by omega, by omega⟩
/-! the lots -/
abbrev lstT (o : Bool) (L : List (List Int)) : D := .lst o (L.map tI)
theorem pyL_tups : ∀ L : List (List Int), pyL (L.map tI) = some (L.map fun s => .tuple (s.map .int))
  | [] => by simp [pyL]
  | x :: xs => by simp [pyL, D.py, pyL_ints, pyL_tups xs]
theorem lay_tups : ∀ L : List (List Int), PyData.canLayAll0 (L.map fun s => .tuple (s.map .int)) = true ∧ PyData.depthAll (L.map fun s => .tuple (s.map .int)) ≤ 1
  | [] => by simp [PyData.canLayAll0, PyData.depthAll]
  | x :: xs => by
    have := lay_tups xs
    simp [PyData.canLayAll0, PyData.depthAll, PyData.canLay0, PyData.depth, lay_ints, this.1]
    exact Nat.max_le.mpr ⟨Nat.le_refl _, this.2⟩
theorem ne_nil {o o' : Bool} {L : List (List Int)} : dEq true (lstT o L) (.lst o' []) = .ok (.bl (!decide (L = []))) := by
  have h := lay_tups L
  have h2 : 1 + PyData.depthAll (L.map fun s => .tuple (s.map .int)) ≤ 64 := by omega
  cases L with
  | nil => simp [dEq, D.py, pyL, SeqAt.shaped, PyData.eqv, PyData.canLay0, PyData.depth, PyData.canLayAll0, PyData.depthAll, PyData.eqvAll]
  | cons x xs =>
    have h3 := pyL_tups (x :: xs)
    simp only [List.map_cons] at h h2 h3
    have k1 : PyData.canLayAll0 [] = true := by simp [PyData.canLayAll0]
    have k2 : PyData.depthAll [] = 0 := by simp [PyData.depthAll]
    simp [dEq, D.py, h3, pyL, SeqAt.shaped, PyData.eqv, PyData.canLay0, PyData.depth, h.1, k1, k2, PyData.eqvAll]
    omega
theorem ne_unit {xs : List Int} : dEq true (tI xs) (.tup []) = .ok (.bl (!decide (xs = []))) := by
  have h := eq_tups (b := true) (xs := xs) (ys := [])
  simpa using h
def lo (lot : List Int) : Int := if lot = [] then 0 else lot.getLastD 0 + 1
def ext (m : Nat) (lot : List Int) : List (List Int) := (List.range ((m : Int) - lo lot).toNat).map fun (k : Nat) => lot ++ [lo lot + k]
def lstep (m : Nat) (L : List (List Int)) : List (List Int) := L.flatMap (ext m)
theorem ix_last {lot : List Int} (h : lot ≠ []) : dIx (tI lot) (.int (-1)) = .ok (.int (lot.getLastD 0)) := by
  have hl : 0 < lot.length := List.length_pos_iff.mpr h
  simp only [dIx, atI, ixN, List.length_map]
  rw [if_neg (by omega), if_pos (by omega), show (-1 + (lot.length : Int)).toNat = lot.length - 1 by omega]
  have g : lot[lot.length - 1]? = some (lot[lot.length - 1]'(by omega)) := List.getElem?_eq_getElem _
  simp [g, List.getLastD_eq_getLast?, List.getLast?_eq_getElem?]
@[simp] theorem ap_ext {i f e} : eExt i f e = match gd e i with
  | some (.lst true _) => (f e).bind fun d e1 => match d, gd e1 i with
    | .lst _ es, some (.lst true ds) => if es.all (fun d => !d.flag) = true ∧ ds.length + es.length ≤ sizeLine then .ok .non (e1.set i (some (.lst true (ds ++ es)))) else .stuck
    | _, _ => .stuck
  | _ => .stuck := (rfl)
theorem line_k {n : Nat} (h : n ≤ 1000) : n ≤ sizeLine := Nat.le_trans h (by decide)
def In (m : Nat) (L : List (List Int)) : Prop := ∀ lot ∈ L, lot.length ≤ 5 ∧ ∀ x ∈ lot, 0 ≤ x ∧ x < m
theorem lo_in {m : Nat} {lot : List Int} (h : ∀ x ∈ lot, 0 ≤ x ∧ x < (m : Int)) : 0 ≤ lo lot ∧ lo lot ≤ m := by
  unfold lo
  split
  · omega
  · rename_i h1
    have hm : lot.getLastD 0 ∈ lot := by
      rw [List.getLastD_eq_getLast?, List.getLast?_eq_some_getLast h1]
      exact List.getLast_mem h1
    have := h _ hm
    omega
theorem frz_tups (L : List (List Int)) : frzL (L.map tI) = L.map tI := frzL_map (fun _ => by simp) L
theorem fl_tups (L : List (List Int)) : (L.map tI).all (fun d => !d.flag) = true := noflag_map (fun _ => rfl) L
theorem ext_ok (m : Nat) (hm : m ≤ 5) (L : List (List Int)) (hL : In m L) (M : List (List Int)) (z : D) (x0 : Option D) (hz : ∀ k, k ≤ L.length → M.length + (L.take k |>.flatMap (ext m)).length ≤ 1000) (f : D) :
    ∃ x, forL (gN 4) ((sExpr (eExt 3 (eLc [5] (iRng2f (aCons (xOf (eIf (tOfE (eOp2 (dEq true) (xSlot 4) (xOf (eTup aNil)))) (eOp2 dAdd (xOf (eOp2 dIx (xSlot 4) (xOf (eUn dNeg (xOf (eC (.int 1))))))) (xOf (eC (.int 1)))) (eC (.int 0)))) (aCons (xSlot 0) aNil))) (gN 5) tYesF (eOp2 dAdd (xSlot 4) (xOf (eTup (aCons (xOf (eUse 5)) aNil)))))))) (L.map tI) [some (.int m), some f, some z, some (lstT true M), x0, none] = .nx [some (.int m), some f, some z, some (lstT true (M ++ lstep m L)), x, none] := by
  obtain ⟨e', h1, x, h2⟩ := forL_inv0 (g := gN 4) (b := (sExpr (eExt 3 (eLc [5] (iRng2f (aCons (xOf (eIf (tOfE (eOp2 (dEq true) (xSlot 4) (xOf (eTup aNil)))) (eOp2 dAdd (xOf (eOp2 dIx (xSlot 4) (xOf (eUn dNeg (xOf (eC (.int 1))))))) (xOf (eC (.int 1)))) (eC (.int 0)))) (aCons (xSlot 0) aNil))) (gN 5) tYesF (eOp2 dAdd (xSlot 4) (xOf (eTup (aCons (xOf (eUse 5)) aNil)))))))) (ds := L.map tI) (e := [some (.int m), some f, some z, some (lstT true M), x0, none]) (fun i e => ∃ x, e = [some (.int m), some f, some z, some (lstT true (M ++ (L.take i).flatMap (ext m))), x, none]) ⟨x0, by simp⟩ (by
    rintro j d e hd ⟨x, rfl⟩
    have hj : j < L.length := by
      have := List.getElem?_eq_some_iff.mp hd
      obtain ⟨h, _⟩ := this
      simpa using h
    have hd : d = tI L[j] := by simpa [hj] using hd.symm
    subst hd
    obtain ⟨g1, g2⟩ := hL L[j] (List.getElem_mem hj)
    have hz' := hz j (by omega)
    have hz1 := hz (j + 1) (by omega)
    rw [List.take_succ_eq_append_getElem hj, List.flatMap_append, List.flatMap_singleton] at hz1
    rw [List.take_succ_eq_append_getElem hj, List.flatMap_append, List.flatMap_singleton, ← List.append_assoc]
    generalize hlot : L[j] = lot at *
    generalize hN : M ++ (L.take j).flatMap (ext m) = N at *
    have l1 := lo_in g2
    have s1 : small62 (lo lot) = true := by unfold small62; simp; omega
    have s2 : small62 (m : Int) = true := small_nat (by omega)
    refine ⟨[some (.int m), some f, some z, some (lstT true N), some (tI lot), none], _, by simp, ?_, some (tI lot), rfl⟩
    simp
    rw [eLc_map (List.range ((m : Int) - lo lot).toNat) (fun (k : Nat) => D.int (lo lot + k)) (fun (k : Nat) => tI (lot ++ [lo lot + k])) (k := ⟨rng (lo lot) m, none⟩) (e1 := [some (.int m), some f, some z, some (lstT true N), some (tI lot), none])]
    · have q1 : ((List.range ((m : Int) - lo lot).toNat).map fun (k : Nat) => tI (lot ++ [lo lot + k])) = (ext m lot).map tI := by simp [ext]
      rw [q1]
      have a3 : N.length + (ext m lot).length ≤ sizeLine := by
        rw [← hN]
        simp only [List.length_append] at hz1 ⊢
        exact line_k (by omega)
      have a4 := fl_tups (ext m lot)
      simp [a3]
    · have hn := ne_unit (xs := lot)
      simp only [tI] at hn
      by_cases h : lot = []
      · subst h
        have hn' : dEq true (tI []) (.tup []) = .ok (.bl false) := hn.trans (by simp)
        simp [lo] at s1
        simp [frzL, hn', lo, s1, s2]
      · have := ix_last h
        simp only [tI] at this
        simp [frzL, hn, h, this, s2]
        simp [lo, h] at s1
        simp [lo, h, s1]
    · rfl
    · simp
    · rw [List.length_range]; exact line_nat (by omega)
    · simp
    · intro k hk
      have a1 : lot.length + 1 ≤ sizeLine := line_nat (by omega)
      have a2 : 1 ≤ sizeLine := line_nat (by omega)
      simp [lcStep, dAdd, a1, a2, frzL])
  refine ⟨x, ?_⟩
  rw [h1, h2]
  simp [lstep]
@[simp] theorem it_lst {o ds} : D.items (.lst o ds) = some (frzL ds) := by simp [D.items]
theorem list_tups {o} (L : List (List Int)) : dList (lstT o L) = .ok (lstT true L) := by
  unfold dList
  rw [show lstT o L = .lst o (L.map tI) from rfl]
  simp
theorem add_tups {o o'} (L M : List (List Int)) (h : L.length + M.length ≤ sizeLine) : dAdd (lstT o L) (lstT o' M) = .ok (lstT true (L ++ M)) := by
  unfold dAdd
  rw [show lstT o L = .lst o (L.map tI) from rfl, show lstT o' M = .lst o' (M.map tI) from rfl]
  simp [h]
theorem lots_go (m : Nat) (hm : m ≤ 5) (L M : List (List Int)) (x0 x1 : Option D) (hL : In m L) (hz : ∀ k, k ≤ L.length → ((L.take k).flatMap (ext m)).length ≤ 1000) (hy : M.length + (lstep m L).length ≤ 1000) (hn : L ≠ []) (n : Nat) :
    ∃ x2 x3, whF (tOfE (eOp2 (dEq true) (xSlot 2) (xOf (eLst aNil)))) (sCons (sSet 3 (eLst aNil))
      (sCons (sFor (iVal (eUse 2)) (gN 4) (sExpr (eExt 3 (eLc [5] (iRng2f (aCons (xOf (eIf (tOfE (eOp2 (dEq true) (xSlot 4) (xOf (eTup aNil)))) (eOp2 dAdd (xOf (eOp2 dIx (xSlot 4) (xOf (eUn dNeg (xOf (eC (.int 1))))))) (xOf (eC (.int 1)))) (eC (.int 0)))) (aCons (xSlot 0) aNil))) (gN 5) tYesF (eOp2 dAdd (xSlot 4) (xOf (eTup (aCons (xOf (eUse 5)) aNil))))))))
      (sPar2 1 2 (aCons (xOf (eOp2 dAdd (xSlot 1) (xSlot 3))) (aCons (xOf (eBlt (d1 dList) (aCons (xSlot 3) aNil))) aNil))))) (n + 1) [some (.int m), some (lstT true M), some (lstT true L), x0, x1, none] = whF (tOfE (eOp2 (dEq true) (xSlot 2) (xOf (eLst aNil)))) (sCons (sSet 3 (eLst aNil))
      (sCons (sFor (iVal (eUse 2)) (gN 4) (sExpr (eExt 3 (eLc [5] (iRng2f (aCons (xOf (eIf (tOfE (eOp2 (dEq true) (xSlot 4) (xOf (eTup aNil)))) (eOp2 dAdd (xOf (eOp2 dIx (xSlot 4) (xOf (eUn dNeg (xOf (eC (.int 1))))))) (xOf (eC (.int 1)))) (eC (.int 0)))) (aCons (xSlot 0) aNil))) (gN 5) tYesF (eOp2 dAdd (xSlot 4) (xOf (eTup (aCons (xOf (eUse 5)) aNil))))))))
      (sPar2 1 2 (aCons (xOf (eOp2 dAdd (xSlot 1) (xSlot 3))) (aCons (xOf (eBlt (d1 dList) (aCons (xSlot 3) aNil))) aNil))))) n [some (.int m), some (lstT true (M ++ lstep m L)), some (lstT true (lstep m L)), x2, x3, none] := by
  obtain ⟨x, h⟩ := ext_ok m hm L hL [] (.lst false (L.map tI)) x1 (by simpa using hz) (lstT true M)
  refine ⟨some (lstT true (lstep m L)), x, ?_⟩
  rw [whF]
  have h1 := ne_nil (o := true) (o' := true) (L := L)
  have h2 := frz_tups L
  have h3 := add_tups (o := true) (o' := true) M (lstep m L) (line_k hy)
  have h4 := list_tups (o := true) (lstep m L)
  simp only [lstT, List.map_nil, List.nil_append] at h h1 h3 h4 ⊢
  simp [h1, hn, h2, h, h3, h4]
theorem lots_end (m : Nat) (M : List (List Int)) (x0 x1 : Option D) (n : Nat) :
    whF (tOfE (eOp2 (dEq true) (xSlot 2) (xOf (eLst aNil)))) (sCons (sSet 3 (eLst aNil))
      (sCons (sFor (iVal (eUse 2)) (gN 4) (sExpr (eExt 3 (eLc [5] (iRng2f (aCons (xOf (eIf (tOfE (eOp2 (dEq true) (xSlot 4) (xOf (eTup aNil)))) (eOp2 dAdd (xOf (eOp2 dIx (xSlot 4) (xOf (eUn dNeg (xOf (eC (.int 1))))))) (xOf (eC (.int 1)))) (eC (.int 0)))) (aCons (xSlot 0) aNil))) (gN 5) tYesF (eOp2 dAdd (xSlot 4) (xOf (eTup (aCons (xOf (eUse 5)) aNil))))))))
      (sPar2 1 2 (aCons (xOf (eOp2 dAdd (xSlot 1) (xSlot 3))) (aCons (xOf (eBlt (d1 dList) (aCons (xSlot 3) aNil))) aNil))))) (n + 1) [some (.int m), some (lstT true M), some (lstT true []), x0, x1, none] = .nx [some (.int m), some (lstT true M), some (lstT true []), x0, x1, none] := by
  rw [whF]
  have h1 := ne_nil (o := true) (o' := true) (L := [])
  simp only [lstT, List.map_nil] at h1 ⊢
  simp [h1]
end Law


set_option maxHeartbeats 4000000
namespace Law
open PySem PySem.Spec PyProof.Rows L2 Tr
def inB (m : Nat) (L : List (List Int)) : Bool := L.all fun lot => decide (lot.length ≤ 5) && lot.all fun x => decide (0 ≤ x) && decide (x < m)
theorem inB_ok {m : Nat} {L : List (List Int)} (h : inB m L = true) : In m L := by
  intro lot hl
  have := List.all_eq_true.mp h lot hl
  simp only [Bool.and_eq_true, decide_eq_true_eq, List.all_eq_true] at this
  exact this
def runL (m : Nat) : Nat → List (List Int) → List (List Int) → Option (List (List Int))
  | 0, _, _ => none
  | n + 1, L, M => if L = [] then some M else if inB m L && decide ((lstep m L).length ≤ 1000) && decide (M.length + (lstep m L).length ≤ 1000) then runL m n (lstep m L) (M ++ lstep m L) else none
theorem take_le (m : Nat) (L : List (List Int)) (k : Nat) : ((L.take k).flatMap (ext m)).length ≤ (lstep m L).length := by
  have e : lstep m L = (L.take k).flatMap (ext m) ++ (L.drop k).flatMap (ext m) := by
    unfold lstep
    rw [← List.flatMap_append, List.take_append_drop]
  rw [e, List.length_append]; omega
theorem lots_run (m : Nat) (hm : m ≤ 5) : ∀ (n : Nat) (L M R : List (List Int)) (x0 x1 : Option D), runL m n L M = some R →
    ∃ x2 x3, whF (tOfE (eOp2 (dEq true) (xSlot 2) (xOf (eLst aNil)))) (sCons (sSet 3 (eLst aNil))
      (sCons (sFor (iVal (eUse 2)) (gN 4) (sExpr (eExt 3 (eLc [5] (iRng2f (aCons (xOf (eIf (tOfE (eOp2 (dEq true) (xSlot 4) (xOf (eTup aNil)))) (eOp2 dAdd (xOf (eOp2 dIx (xSlot 4) (xOf (eUn dNeg (xOf (eC (.int 1))))))) (xOf (eC (.int 1)))) (eC (.int 0)))) (aCons (xSlot 0) aNil))) (gN 5) tYesF (eOp2 dAdd (xSlot 4) (xOf (eTup (aCons (xOf (eUse 5)) aNil))))))))
      (sPar2 1 2 (aCons (xOf (eOp2 dAdd (xSlot 1) (xSlot 3))) (aCons (xOf (eBlt (d1 dList) (aCons (xSlot 3) aNil))) aNil))))) n [some (.int m), some (lstT true M), some (lstT true L), x0, x1, none] = .nx [some (.int m), some (lstT true R), some (lstT true []), x2, x3, none]
  | 0, L, M, R, x0, x1, h => by simp [runL] at h
  | n + 1, L, M, R, x0, x1, h => by
    rw [runL] at h
    by_cases hn : L = []
    · subst hn
      simp at h
      subst h
      exact ⟨x0, x1, lots_end m M x0 x1 n⟩
    · rw [if_neg hn] at h
      split at h
      · rename_i hc
        simp only [Bool.and_eq_true, decide_eq_true_eq] at hc
        obtain ⟨x2, x3, h1⟩ := lots_go m hm L M x0 x1 (inB_ok hc.1.1) (fun k _ => Nat.le_trans (take_le m L k) hc.1.2) hc.2 hn n
        obtain ⟨x4, x5, h2⟩ := lots_run m hm n _ _ R x2 x3 h
        exact ⟨x4, x5, by rw [h1, h2]⟩
      · cases h
def lots (m : Nat) : List (List Int) := (runL m 10 [[]] [[]]).getD []
theorem lots_all : ∀ m : Fin 6, runL m.val 10 [[]] [[]] = some (lots m.val) := by decide +kernel
theorem lots_ok (m : Nat) (hm : m ≤ 5) : G__law_lots [.int m] = .ok (lstT true (lots m)) [.int m] := by
  obtain ⟨x2, x3, h⟩ := lots_run m hm 10 [[]] [[]] (lots m) none none (lots_all ⟨m, by omega⟩)
  unfold G__law_lots b__law_lots
  have a1 : 1 ≤ sizeLine := line_nat (by omega)
  have hw := sWhile_at h (by simp)
  simp only [lstT, tI, List.map_cons, List.map_nil] at hw
  simp [frzL, a1]
  rw [hw]
  simp
theorem lots_in : ∀ m : Fin 6, inB m.val (lots m.val) = true ∧ (lots m.val).length ≤ 40 ∧ (lots m.val).all (fun l => decide (l.length ≤ m.val)) = true := by decide +kernel
/-! meets -/
def sub (n : Nat) (ss : List (List Int)) (lot : List Int) (t : Nat) : Bool := lot.all fun a => decide ((t : Int) ∈ ss.getD a.toNat [])
def nb (n : Nat) (ss : List (List Int)) (lot : List Int) : Int := (((List.range n).filter (sub n ss lot)).length : Nat)
def addAt (F : List Int) (k : Nat) (x : Int) : List Int := F.set k (gt0 F k + x)
theorem eq_ones {b o o' : Bool} {α : Type} {l : List α} : dEq b (.lst o (l.map fun _ => D.int 1)) (.lst o' []) = .ok (.bl (if b then !decide (l = []) else decide (l = []))) := by
  have h := eq_lsts (b := b) (o := o) (o' := o') (xs := l.map fun _ => (1 : Int)) (ys := [])
  rw [List.map_map] at h
  simpa [Function.comp_def] using h
theorem zeros (n : Nat) (h : n ≤ 100) : dMul (.lst true [.int 0]) (.int n) = .ok (.lst true ((List.replicate n 0).map .int)) := by
  have e : (List.replicate n [D.int 0]).flatten = List.replicate n (D.int 0) := by
    induction n with
    | zero => rfl
    | succ n ih => rw [List.replicate_succ, List.flatten_cons, ih (by omega)]; rfl
  have h1 : 1 * n ≤ sizeLine := line_nat (by omega)
  have h2 : -(2 ^ 63) ≤ (n : Int) ∧ (n : Int) < 2 ^ 63 := by omega
  unfold dMul
  simp only [List.length_cons, List.length_nil, Int.toNat_natCast, Nat.zero_add, h1, h2, e]
  simp
theorem addAt_len (F : List Int) (k : Nat) (x : Int) : (addAt F k x).length = F.length := by simp [addAt]
theorem set_ints (F : List Int) (k : Nat) (x : Int) : (F.map D.int).set k (.int x) = (F.set k x).map .int := by
  rw [List.map_set]
theorem ixN_nat {n k : Nat} (h : k < n) : ixN n (k : Int) = some k := by
  unfold ixN; rw [if_pos (by omega), if_pos (by omega)]; simp
theorem ix_sets {ss : List (List Int)} {a : Int} (h0 : 0 ≤ a) (h1 : a < ss.length) : dIx (setD ss) (.int a) = .ok (tI (ss.getD a.toNat [])) := by
  have h := atI_map (F := tI) ss a.toNat (by omega)
  rw [show ((a.toNat : Nat) : Int) = a by omega] at h
  have h2 : a.toNat < ss.length := by omega
  simp [dIx, h, h2]
def meetF (n : Nat) (ss : List (List Int)) (ls : List (List Int)) : List Int := ls.foldl (fun F lot => addAt F lot.length (nb n ss lot)) (List.replicate (ss.length + 1) 0)
theorem meetF_len (n : Nat) (ss : List (List Int)) (ls : List (List Int)) : (meetF n ss ls).length = ss.length + 1 := by
  unfold meetF
  have : ∀ (ls : List (List Int)) (F : List Int), (ls.foldl (fun F lot => addAt F lot.length (nb n ss lot)) F).length = F.length := by
    intro ls
    induction ls with
    | nil => intro F; rfl
    | cons l ls ih => intro F; rw [List.foldl_cons, ih, addAt_len]
  rw [this, List.length_replicate]
theorem meets_ok (n : Nat) (ss : List (List Int)) (hn : n ≤ 30) (hs : ss.length ≤ 5) : G__law_meets [.int n, setD ss] = .ok (.tup ((meetF n ss (lots ss.length)).map .int)) [.int n, setD ss] := by
  unfold G__law_meets b__law_meets
  have z := zeros (ss.length + 1) (by omega)
  simp only [Int.natCast_add, Int.cast_ofNat_Int] at z
  have hlin := lots_in ⟨ss.length, by omega⟩
  have hl := inB_ok hlin.1
  have hq := frz_tups (lots ss.length)
  have a1 : 1 ≤ sizeLine := line_nat (by omega)
  have lk := lots_ok ss.length hs
  simp only [lstT] at lk
  simp [z, a1, lk, hq]
  obtain ⟨e', h1, x3, x4, h2⟩ := forL_inv0 (g := gN 3) (b := (sCons (sSet 4 (eLc [5] (iRng1f (aCons (xSlot 0) aNil)) (gN 5) (tOfE (eOp2 (dEq false) (xOf (eLc [6] (iSlot 3) (gN 6) (tOfE (eOp2 (dIn true) (xSlot 5) (xOf (eOp2 dIx (xSlot 1) (xSlot 6))))) (eC (.int 1)))) (xOf (eLst aNil)))) (eUse 5)))
      (sAsg (eOp2 dAdd (xOf (eOp2 dIx (xSlot 2) (xOf (eBlt (d1 dLen) (aCons (xSlot 3) aNil))))) (xOf (eBlt (d1 dLen) (aCons (xSlot 4) aNil)))) (gIx 2 (xOf (eBlt (d1 dLen) (aCons (xSlot 3) aNil))))))) (ds := (lots ss.length).map tI) (e := [some (.int n), some (setD ss), some (.lst true (List.replicate (ss.length + 1) (D.int 0))), none, none, none, none]) (fun i e => ∃ x3 x4, e = [some (.int n), some (setD ss), some (.lst true ((meetF n ss ((lots ss.length).take i)).map .int)), x3, x4, none, none]) ⟨none, none, by simp [meetF]⟩ (by
    rintro j d e hd ⟨x3, x4, rfl⟩
    have hj : j < (lots ss.length).length := by
      obtain ⟨h, _⟩ := List.getElem?_eq_some_iff.mp hd
      simpa using h
    have hd : d = tI (lots ss.length)[j] := by simpa [hj] using hd.symm
    subst hd
    obtain ⟨g1, g2⟩ := hl _ (List.getElem_mem hj)
    have g3 := List.all_eq_true.mp hlin.2.2 _ (List.getElem_mem hj)
    simp only [decide_eq_true_eq] at g3
    rw [List.take_succ_eq_append_getElem hj]
    generalize hlot : (lots ss.length)[j] = lot at *
    have hF : meetF n ss ((lots ss.length).take j ++ [lot]) = addAt (meetF n ss ((lots ss.length).take j)) lot.length (nb n ss lot) := by
      unfold meetF; rw [List.foldl_append]; rfl
    rw [hF]
    have hFl := meetF_len n ss ((lots ss.length).take j)
    generalize meetF n ss ((lots ss.length).take j) = F at *
    refine ⟨[some (.int n), some (setD ss), some (.lst true (F.map .int)), some (tI lot), x4, none, none], _, by simp, ?_, some (tI lot), some (.lst true (((List.range n).filter (sub n ss lot)).map fun k => D.int (k : Nat))), rfl⟩
    have hF1 : lot.length < F.length := by omega
    have hix := ix_lst (o := true) hF1
    have hxn := ixN_nat hF1
    simp
    rw [eLc_pure (List.range n) (fun k => D.int (k : Nat)) (sub n ss lot) (fun k => D.int (k : Nat)) (k := ⟨rng 0 n, none⟩) (e1 := [some (.int n), some (setD ss), some (.lst true (F.map .int)), some (tI lot), x4, none, none])]
    · simp [hix, hxn, addAt, nb]
    · simp [small_nat (n := n) (by omega)]
    · exact rng_nat
    · simp
    · rw [List.length_range]; exact line_nat (by omega)
    · simp
    · intro t ht
      simp [lcStep]
      rw [eLc_pure lot (fun a => D.int a) (fun a => !decide ((t : Int) ∈ ss.getD a.toNat [])) (fun _ => D.int 1) (k := ⟨lot.map .int, none⟩) (e1 := [some (.int n), some (setD ss), some (.lst true (F.map .int)), some (tI lot), x4, some (.int t), none])]
      · have he : decide (lot.filter (fun a => !decide ((t : Int) ∈ ss.getD a.toNat [])) = []) = sub n ss lot t := by
          unfold sub
          rw [Bool.eq_iff_iff]
          simp [List.filter_eq_nil_iff]
        have a0 : 0 ≤ sizeLine := Nat.zero_le _
        by_cases hb : sub n ss lot t = true
        · rw [hb] at he
          simp [-List.filter_eq_nil_iff, -List.getD_eq_getElem?_getD, eq_ones, he, hb]
        · rw [Bool.not_eq_true] at hb
          rw [hb] at he
          simp [-List.filter_eq_nil_iff, -List.getD_eq_getElem?_getD, eq_ones, he, hb]
      · simp
      · rfl
      · simp
      · exact line_nat (by omega)
      · simp
      · intro a ha
        have g4 := g2 a ha
        have hx := ix_sets (ss := ss) g4.1 g4.2
        by_cases hm : (t : Int) ∈ ss.getD a.toNat []
        · simp [-List.getD_eq_getElem?_getD, lcStep, hx, in_tup, hm]
        · simp [-List.getD_eq_getElem?_getD, lcStep, hx, in_tup, hm])
  rw [h1, h2]
  simp
end Law


set_option maxHeartbeats 4000000
namespace Law
open PySem PySem.Spec PyProof.Rows L2 Tr
theorem sin_cin : ∀ xs : List Int, xs.length ≤ 7 → sin (cin xs) = xs
  | [], _ => rfl
  | [a], _ => by simp [sin, cin, gt0, List.range_succ, ch, sg]
  | [a, b], _ => by simp [sin, cin, gt0, List.range_succ, ch, sg]; omega
  | [a, b, c], _ => by simp [sin, cin, gt0, List.range_succ, ch, sg]; omega
  | [a, b, c, d], _ => by simp [sin, cin, gt0, List.range_succ, ch, sg]; omega
  | [a, b, c, d, e], _ => by simp [sin, cin, gt0, List.range_succ, ch, sg]; omega
  | [a, b, c, d, e, f], _ => by simp [sin, cin, gt0, List.range_succ, ch, sg]; omega
  | [a, b, c, d, e, f, g], _ => by simp [sin, cin, gt0, List.range_succ, ch, sg]; omega
  | _ :: _ :: _ :: _ :: _ :: _ :: _ :: _ :: _, h => by simp at h
theorem cin_sin : ∀ xs : List Int, xs.length ≤ 6 → cin (sin xs) = xs
  | [], _ => rfl
  | [a], _ => by simp [sin, cin, gt0, List.range_succ, ch, sg]
  | [a, b], _ => by simp [sin, cin, gt0, List.range_succ, ch, sg]; omega
  | [a, b, c], _ => by simp [sin, cin, gt0, List.range_succ, ch, sg]; omega
  | [a, b, c, d], _ => by simp [sin, cin, gt0, List.range_succ, ch, sg]; omega
  | [a, b, c, d, e], _ => by simp [sin, cin, gt0, List.range_succ, ch, sg]; omega
  | [a, b, c, d, e, f], _ => by simp [sin, cin, gt0, List.range_succ, ch, sg]; omega
  | _ :: _ :: _ :: _ :: _ :: _ :: _ :: _, h => by simp at h
/-! bounds -/
theorem sum_le (B : Int) (hB : 0 ≤ B) : ∀ l : List Int, (∀ x ∈ l, -B ≤ x ∧ x ≤ B) → -(l.length * B) ≤ l.sum ∧ l.sum ≤ l.length * B
  | [], _ => by simp
  | x :: l, h => by
    have h1 := h x (by simp)
    have h2 := sum_le B hB l fun y hy => h y (by simp [hy])
    rw [List.sum_cons, List.length_cons, Int.natCast_add, Int.add_mul]
    omega
theorem mul_le' {c x A B : Int} (hc : -A ≤ c ∧ c ≤ A) (hx : -B ≤ x ∧ x ≤ B) : -(A * B) ≤ c * x ∧ c * x ≤ A * B := by
  have h1 : c.natAbs ≤ A.natAbs := by omega
  have h2 : x.natAbs ≤ B.natAbs := by omega
  have h3 := Nat.mul_le_mul h1 h2
  have h4 : (c * x).natAbs ≤ (A * B).natAbs := by rw [Int.natAbs_mul, Int.natAbs_mul]; exact h3
  have h5 : 0 ≤ A * B := Int.mul_nonneg (by omega) (by omega)
  omega
theorem gt0_le {xs : List Int} {B : Int} (hB : 0 ≤ B) (h : ∀ x ∈ xs, -B ≤ x ∧ x ≤ B) (k : Nat) : -B ≤ gt0 xs k ∧ gt0 xs k ≤ B := by
  by_cases hk : k < xs.length
  · rw [getD_lt hk]; exact h _ (List.getElem_mem hk)
  · have : gt0 xs k = 0 := by simp [gt0, List.getElem?_eq_none (Nat.le_of_not_lt hk)]
    omega
theorem cin_le {xs : List Int} {B : Int} (hB : 0 ≤ B) (hl : xs.length ≤ 8) (h : ∀ x ∈ xs, -B ≤ x ∧ x ≤ B) : ∀ x ∈ cin xs, -(8 * (100 * B)) ≤ x ∧ x ≤ 8 * (100 * B) := by
  intro x hx
  simp only [cin, List.mem_map, List.mem_range] at hx
  obtain ⟨r, hr, rfl⟩ := hx
  have q := sum_le (100 * B) (by omega) ((List.range (xs.length - r)).map fun (k : Nat) => sg k * ch (r + k) r * gt0 xs (r + k)) (by
    intro y hy
    simp only [List.mem_map, List.mem_range] at hy
    obtain ⟨k, hk, rfl⟩ := hy
    have c1 := ch_lt (n := r + k) (k := r) (by omega) (by omega)
    have c2 : (sg k * ch (r + k) r).natAbs < 100 := by rw [Int.natAbs_mul, sg_abs, Nat.one_mul]; exact c1
    exact mul_le' (by omega) (gt0_le hB h _))
  rw [List.length_map, List.length_range] at q
  have h8 : ((xs.length - r : Nat) : Int) * (100 * B) ≤ 8 * (100 * B) := Int.mul_le_mul_of_nonneg_right (by omega) (by omega)
  omega
theorem sin_le {xs : List Int} {B : Int} (hB : 0 ≤ B) (hl : xs.length ≤ 8) (h : ∀ x ∈ xs, -B ≤ x ∧ x ≤ B) : ∀ x ∈ sin xs, -(8 * (100 * B)) ≤ x ∧ x ≤ 8 * (100 * B) := by
  intro x hx
  simp only [sin, List.mem_map, List.mem_range] at hx
  obtain ⟨r, hr, rfl⟩ := hx
  have q := sum_le (100 * B) (by omega) ((List.range (xs.length - r)).map fun (k : Nat) => ch (r + k) r * gt0 xs (r + k)) (by
    intro y hy
    simp only [List.mem_map, List.mem_range] at hy
    obtain ⟨k, hk, rfl⟩ := hy
    have c1 := ch_lt (n := r + k) (k := r) (by omega) (by omega)
    exact mul_le' (by omega) (gt0_le hB h _))
  rw [List.length_map, List.length_range] at q
  have h8 : ((xs.length - r : Nat) : Int) * (100 * B) ≤ 8 * (100 * B) := Int.mul_le_mul_of_nonneg_right (by omega) (by omega)
  omega
theorem cin_len (xs : List Int) : (cin xs).length = xs.length := by simp [cin]
theorem sin_len (xs : List Int) : (sin xs).length = xs.length := by simp [sin]
/-- one step of the law's own way back from sums to counts -/
theorem sin_get (xs : List Int) (r : Nat) (h : r < xs.length) : gt0 (sin xs) r = gt0 xs r + ((List.range (xs.length - 1 - r)).map fun (k : Nat) => ch (r + 1 + k) r * gt0 xs (r + 1 + k)).sum := by
  have e : gt0 (sin xs) r = ((List.range (xs.length - r)).map fun (k : Nat) => ch (r + k) r * gt0 xs (r + k)).sum := by
    simp [gt0, sin, h]
  have hc : ch r r = 1 := by
    have : ∀ r, ∀ k, r < k → ch r k = 0 := by
      intro r
      induction r with
      | zero => intro k hk; cases k with
        | zero => omega
        | succ k => rfl
      | succ r ih => intro k hk; cases k with
        | zero => omega
        | succ k => rw [ch, ih k (by omega), ih (k + 1) (by omega)]; rfl
    induction r with
    | zero => rfl
    | succ r ih => rw [ch, ih (by omega) (by simp [gt0, sin, show r < xs.length by omega]), this r (r + 1) (by omega)]; rfl
  rw [e, show xs.length - r = (xs.length - 1 - r) + 1 by omega, List.range_succ_eq_map, List.map_cons, List.sum_cons, List.map_map]
  simp only [Nat.add_zero, hc, Int.one_mul]
  congr 2
  apply List.map_congr_left
  intro k _
  simp only [Function.comp]
  rw [show r + (k + 1) = r + 1 + k by omega]
end Law


set_option maxHeartbeats 4000000
namespace Law
open PySem PySem.Spec PyProof.Rows L2 Tr
def oftN (ss : List (List Int)) (t : Nat) : Nat := (ss.filter fun s => decide ((t : Int) ∈ s)).length
theorem oftN_le (ss : List (List Int)) (t : Nat) : oftN ss t ≤ ss.length := List.length_filter_le _ _
def justF (ss : List (List Int)) (n : Nat) : List Int := (List.range n).foldl (fun F t => addAt F (oftN ss t) 1) (List.replicate (ss.length + 1) 0)
theorem justF_s (ss : List (List Int)) (n : Nat) : justF ss (n + 1) = addAt (justF ss n) (oftN ss n) 1 := by
  unfold justF; rw [List.range_succ, List.foldl_append]; rfl
theorem justF_len (ss : List (List Int)) : ∀ n : Nat, (justF ss n).length = ss.length + 1
  | 0 => by simp [justF]
  | n + 1 => by rw [justF_s, addAt_len, justF_len ss n]
/-! the law's own counts -/
def part (xs : List Int) (k : Nat) : List Int := (List.range xs.length).map fun j => if xs.length ≤ j + k then gt0 (cin xs) j else 0
theorem part_len (xs : List Int) (k : Nat) : (part xs k).length = xs.length := by simp [part]
theorem part_get (xs : List Int) (k j : Nat) (h : j < xs.length) : gt0 (part xs k) j = if xs.length ≤ j + k then gt0 (cin xs) j else 0 := by
  simp [gt0, part, h]
theorem part_0 (xs : List Int) : part xs 0 = List.replicate xs.length 0 := by
  apply List.ext_getElem (by simp [part])
  intro i h1 h2
  simp [part] at h1 ⊢
  omega
theorem part_n (xs : List Int) : part xs xs.length = cin xs := by
  apply List.ext_getElem (by simp [part, cin])
  intro i h1 h2
  have h3 : i < (cin xs).length := h2
  simp [part, gt0, h3]
theorem part_s (xs : List Int) (k : Nat) (h : k < xs.length) : (part xs k).set (xs.length - 1 - k) (gt0 (cin xs) (xs.length - 1 - k)) = part xs (k + 1) := by
  apply List.ext_getElem (by simp [part])
  intro i h1 h2
  have h3 : i < xs.length := by simpa [part] using h2
  rw [List.getElem_set]
  split
  · rename_i e; subst e; simp [part]; omega
  · rename_i e
    simp only [part, List.getElem_map, List.getElem_range]
    by_cases q : xs.length ≤ i + k
    · rw [if_pos q, if_pos (by omega)]
    · rw [if_neg q, if_neg (by omega)]
theorem rngC_all : ∀ n : Fin 8, rgOk ((n.val : Int) - 1) (-1) (-1) = true ∧ (Builtin.Range.rangeSize ((n.val : Int) - 1) (-1) (-1)).toNat = n.val := by decide +kernel
theorem rngC_down {n : Nat} (h : n ≤ 7) : rngC ((n : Int) - 1) (-1) (-1) = (List.range n).map fun (k : Nat) => D.int ((n : Int) - 1 - k) := by
  have q := (rngC_all ⟨n, by omega⟩).2
  unfold rngC
  rw [q]
  exact List.map_congr_left fun k _ => by congr 1; omega
theorem law_counts_ok (xs : List Int) (h2 : 1 ≤ xs.length) (h7 : xs.length ≤ 7) (hb : ∀ x ∈ xs, -(10 ^ 12) ≤ x ∧ x ≤ 10 ^ 12) : G__law_counts [.tup (xs.map .int)] = .ok (.tup ((cin xs).map .int)) [.tup (xs.map .int)] := by
  unfold G__law_counts b__law_counts
  have z := zeros xs.length (by omega)
  have a1 : 1 ≤ sizeLine := line_nat (by omega)
  have a2 : 2 ≤ sizeLine := line_nat (by omega)
  have r1 := (rngC_all ⟨xs.length, by omega⟩).1
  simp [z, a1, a2, r1, rngC_down h7]
  obtain ⟨e', h1, x3, x4, h2⟩ := forL_inv0 (g := gN 3) (b := (sCons (sSet 4 (eBlt (d1 dSum) (aCons (xOf (eLc [5] (iRng2f (aCons (xOf (eOp2 dAdd (xSlot 3) (xOf (eC (.int 1))))) (aCons (xOf (eOp2 dAdd (xSlot 2) (xOf (eC (.int 1))))) aNil))) (gN 5) tYesF (eOp2 dMul (xOf (eCall G__law_out_of [] (aCons (xSlot 5) (aCons (xSlot 3) aNil)))) (xOf (eOp2 dIx (xSlot 1) (xSlot 5)))))) aNil)))
      (sAsg (eOp2 dSub (xOf (eOp2 dIx (xSlot 0) (xSlot 3))) (xSlot 4)) (gIx 1 (xSlot 3))))) (ds := (List.range xs.length).map fun (k : Nat) => D.int ((xs.length : Int) - 1 - k)) (e := [some (.tup (xs.map .int)), some (.lst true (List.replicate xs.length (D.int 0))), some (.int ((xs.length : Int) - 1)), none, none, none]) (fun i e => ∃ x3 x4, e = [some (.tup (xs.map .int)), some (.lst true ((part xs i).map .int)), some (.int ((xs.length : Int) - 1)), x3, x4, none]) ⟨none, none, by simp [part_0]⟩ (by
    rintro j d e hd ⟨x3, x4, rfl⟩
    have hj : j < xs.length := by
      obtain ⟨h, _⟩ := List.getElem?_eq_some_iff.mp hd
      simpa using h
    have hd : d = D.int ((xs.length : Int) - 1 - j) := by simpa [hj] using hd.symm
    obtain ⟨r, hr⟩ : ∃ r : Nat, r = xs.length - 1 - j := ⟨_, rfl⟩
    have hr1 : r < xs.length := by omega
    have e0 : (xs.length : Int) - 1 - j = r := by omega
    rw [e0] at hd
    subst hd
    have hP := part_len xs j
    have hrP : r < (part xs j).length := by omega
    have hix := ix_tup hr1
    have hxn := ixN_nat hrP
    have hstep := part_s xs j hj
    rw [← hr] at hstep
    have hval : gt0 xs r - ((List.range (xs.length - 1 - r)).map fun (k : Nat) => ch (r + 1 + k) r * gt0 (part xs j) (r + 1 + k)).sum = gt0 (cin xs) r := by
      have g := sin_get (cin xs) r (by rw [cin_len]; exact hr1)
      rw [sin_cin xs h7, cin_len] at g
      rw [g]
      have : ((List.range (xs.length - 1 - r)).map fun (k : Nat) => ch (r + 1 + k) r * gt0 (part xs j) (r + 1 + k)) = ((List.range (xs.length - 1 - r)).map fun (k : Nat) => ch (r + 1 + k) r * gt0 (cin xs) (r + 1 + k)) := by
        apply List.map_congr_left
        intro k hk
        rw [List.mem_range] at hk
        rw [part_get xs j _ (by omega), if_pos (by omega)]
      rw [this]
      omega
    refine ⟨[some (.tup (xs.map .int)), some (.lst true ((part xs j).map .int)), some (.int ((xs.length : Int) - 1)), some (.int r), x4, none], _, by simp, ?_, some (.int r), some (.int (((List.range (xs.length - 1 - r)).map fun (k : Nat) => ch (r + 1 + k) r * gt0 (part xs j) (r + 1 + k)).sum)), rfl⟩
    simp
    rw [eLc_map (List.range (xs.length - (r + 1))) (fun k => D.int ((r + 1 + k : Nat))) (fun k => .int (ch (r + 1 + k) r * gt0 (part xs j) (r + 1 + k))) (k := ⟨rng ((r + 1 : Nat) : Int) xs.length, none⟩) (e1 := [some (.tup (xs.map .int)), some (.lst true ((part xs j).map .int)), some (.int ((xs.length : Int) - 1)), some (.int r), x4, none])]
    · rw [show xs.length - (r + 1) = xs.length - 1 - r by omega, ← hstep]
      simp [hix, ixN_nat hr1, hP, hr1, hval]
    · have s1 : small62 ((r : Int) + 1) = true := small_nat (n := r + 1) (by omega)
      have s2 : small62 (xs.length : Int) = true := small_nat (by omega)
      simp [s1, s2]
    · exact rng_nat2 (a := r + 1)
    · simp
    · rw [List.length_range]; exact line_nat (by omega)
    · simp
    · intro k hk
      have hk : r + 1 + k < xs.length := by simp at hk; omega
      have hk2 : r + 1 + k < (part xs j).length := by omega
      have hix2 := ix_lst (o := true) hk2
      have hbig : gt0 (part xs j) (r + 1 + k) = gt0 (cin xs) (r + 1 + k) := by rw [part_get xs j _ hk, if_pos (by omega)]
      have hc := gt0_le (B := 8 * (100 * 10 ^ 12)) (by omega) (cin_le (xs := xs) (B := 10 ^ 12) (by omega) (by omega) hb) (r + 1 + k)
      have q := mul_sc (sg_abs k) (ch_lt (n := r + 1 + k) (k := r) (by omega) (by omega)) (x := gt0 (part xs j) (r + 1 + k)) (big_of (by rw [hbig]; omega))
      have lo := lout_ok (n := r + 1 + k) (k := r) (by omega) (by omega)
      simp only [Int.natCast_add, Int.cast_ofNat_Int] at hix2 lo
      simp [lcStep, lo, hix2, q.2.2])
  rw [h1, h2]
  simp [part_n]
end Law


set_option maxHeartbeats 4000000
namespace Law
open PySem PySem.Spec PyProof.Rows L2 Tr
theorem gt0_set {F : List Int} {k j : Nat} {x : Int} (h : k < F.length) : gt0 (F.set k x) j = if k = j then x else gt0 F j := by
  unfold gt0
  by_cases e : k = j
  · subst e; simp [h]
  · simp [e, List.getElem?_set_ne e]
theorem addAt_get {F : List Int} {k j : Nat} {x : Int} (h : k < F.length) : gt0 (addAt F k x) j = gt0 F j + if k = j then x else 0 := by
  unfold addAt
  rw [gt0_set h]
  by_cases e : k = j
  · subst e; simp
  · simp [e]
theorem gt0_rep (n j : Nat) : gt0 (List.replicate n 0) j = 0 := by
  unfold gt0
  by_cases h : j < n <;> simp [h]
theorem ext_gt0 {xs ys : List Int} (hl : xs.length = ys.length) (h : ∀ k, k < xs.length → gt0 xs k = gt0 ys k) : xs = ys := by
  apply List.ext_getElem hl
  intro i h1 h2
  have := h i h1
  rw [getD_lt h1, getD_lt h2] at this
  exact this
theorem cby_get (n : Nat) (ss : List (List Int)) (k : Nat) (h : k ≤ ss.length) : gt0 (cby n ss) k = (((List.range n).map (oftN ss)).count k : Nat) := by
  have e : (List.range n).map (oft ss) = ((List.range n).map (oftN ss)).map fun (k : Nat) => (k : Int) := by
    rw [List.map_map]; rfl
  have hc : ∀ l : List Nat, (l.map fun (k : Nat) => (k : Int)).count (k : Int) = l.count k := by
    intro l
    induction l with
    | nil => rfl
    | cons a l ih =>
      rw [List.map_cons, List.count_cons, List.count_cons, ih]
      congr 1
      by_cases q : a = k
      · simp [q]
      · have q' : ¬ ((a : Int) = k) := by omega
        simp [q, q']
  unfold cby gt0
  rw [e, List.getD_eq_getElem?_getD, List.getElem?_map, List.getElem?_range (show k < ss.length + 1 by omega)]
  simp only [Option.map_some, Option.getD_some]
  rw [hc]
theorem just_cby (ss : List (List Int)) (n : Nat) : justF ss n = cby n ss := by
  apply ext_gt0 (by rw [justF_len, cby_len])
  intro k hk
  rw [justF_len] at hk
  rw [cby_get n ss k (by omega)]
  clear hk
  induction n with
  | zero => simp [justF, gt0_rep]
  | succ n ih =>
    have ho := oftN_le ss n
    rw [justF_s, addAt_get (by rw [justF_len]; omega), ih, List.range_succ, List.map_append, List.count_append]
    by_cases q : oftN ss n = k <;> simp [q, List.count_cons]
/-- Σ over the lots with j entries -/
theorem meetF_get (n : Nat) (ss : List (List Int)) : ∀ (ls : List (List Int)) (F : List Int), (∀ l ∈ ls, l.length < F.length) → ∀ j, gt0 (ls.foldl (fun F lot => addAt F lot.length (nb n ss lot)) F) j = gt0 F j + (ls.map fun l => if l.length = j then nb n ss l else 0).sum
  | [], F, _, j => by simp
  | l :: ls, F, h, j => by
    rw [List.foldl_cons, meetF_get n ss ls _ (fun l' h' => by rw [addAt_len]; exact h l' (by simp [h'])) j, addAt_get (h l (by simp)), List.map_cons, List.sum_cons]
    omega
def pat (ss : List (List Int)) (t : Nat) : List Bool := ss.map fun s => decide ((t : Int) ∈ s)
def subP (p : List Bool) (lot : List Int) : Bool := lot.all fun a => p.getD a.toNat false
theorem sub_pat (n : Nat) (ss : List (List Int)) (lot : List Int) (t : Nat) : sub n ss lot t = subP (pat ss t) lot := by
  unfold sub subP pat
  congr 1
  funext a
  by_cases h : a.toNat < ss.length
  · simp [h]
  · simp [List.getElem?_eq_none (Nat.le_of_not_lt h)]
theorem oft_pat (ss : List (List Int)) (t : Nat) : oftN ss t = (pat ss t).count true := by
  unfold oftN pat
  induction ss with
  | nil => rfl
  | cons s ss ih =>
    rw [List.map_cons, List.count_cons, ← ih]
    by_cases h : (t : Int) ∈ s <;> simp [h]
def allB : Nat → List (List Bool)
  | 0 => [[]]
  | n + 1 => (allB n).map (true :: ·) ++ (allB n).map (false :: ·)
theorem allB_mem : ∀ p : List Bool, p ∈ allB p.length
  | [] => by simp [allB]
  | true :: p => by simp [allB, allB_mem p]
  | false :: p => by simp [allB, allB_mem p]
/-- one thing's share in both -/
def shareL (m : Nat) (p : List Bool) (j : Nat) : Int := ((lots m).map fun l => if l.length = j then (if subP p l then 1 else 0) else 0).sum
def shareR (m : Nat) (p : List Bool) (j : Nat) : Int := ((List.range (m + 1 - j)).map fun (k : Nat) => ch (j + k) j * (if p.count true = j + k then 1 else 0)).sum
theorem share_all : ∀ m j : Fin 6, ∀ p ∈ allB m.val, shareL m.val p j.val = shareR m.val p j.val := by decide +kernel
theorem sum_add {α : Type} (f g : α → Int) : ∀ l : List α, (l.map fun x => f x + g x).sum = (l.map f).sum + (l.map g).sum
  | [] => rfl
  | x :: l => by simp only [List.map_cons, List.sum_cons, sum_add f g l]; omega
theorem meet_sin (n : Nat) (ss : List (List Int)) (hs : ss.length ≤ 5) : meetF n ss (lots ss.length) = sin (cby n ss) := by
  apply ext_gt0 (by rw [meetF_len, sin_len, cby_len])
  intro j hj
  rw [meetF_len] at hj
  have hlin := (lots_in ⟨ss.length, by omega⟩).2.2
  unfold meetF
  rw [meetF_get n ss _ _ (fun l hl => by
    have := List.all_eq_true.mp hlin l hl
    simp only [decide_eq_true_eq] at this
    rw [List.length_replicate]; omega), gt0_rep]
  have e : gt0 (sin (cby n ss)) j = ((List.range (ss.length + 1 - j)).map fun (k : Nat) => ch (j + k) j * (((List.range n).map (oftN ss)).count (j + k) : Nat)).sum := by
    have : gt0 (sin (cby n ss)) j = ((List.range (ss.length + 1 - j)).map fun (k : Nat) => ch (j + k) j * gt0 (cby n ss) (j + k)).sum := by
      simp [gt0, sin, cby_len, hj]
    rw [this]
    congr 1
    apply List.map_congr_left
    intro k hk
    rw [List.mem_range] at hk
    rw [cby_get n ss _ (by omega)]
  rw [e]
  clear e
  rw [Int.zero_add]
  induction n with
  | zero =>
    have z : ∀ (l : List (List Int)), (l.map fun l => if l.length = j then nb 0 ss l else 0).sum = 0 := by
      intro l
      induction l with
      | nil => rfl
      | cons a l ih => rw [List.map_cons, List.sum_cons, ih]; simp [nb]
    have z2 : ∀ (l : List Nat), (l.map fun (k : Nat) => ch (j + k) j * ((List.map (oftN ss) (List.range 0)).count (j + k) : Nat)).sum = 0 := by
      intro l
      induction l with
      | nil => rfl
      | cons a l ih => rw [List.map_cons, List.sum_cons, ih]; simp
    rw [z, z2]
  | succ n ih =>
    have e1 : (fun l : List Int => if l.length = j then nb (n + 1) ss l else 0) = fun l => (if l.length = j then nb n ss l else 0) + (if l.length = j then (if subP (pat ss n) l then 1 else 0) else 0) := by
      funext l
      by_cases h : l.length = j
      · have f1 : sub (n + 1) ss l = fun t => subP (pat ss t) l := funext (sub_pat _ ss l)
        have f2 : sub n ss l = fun t => subP (pat ss t) l := funext (sub_pat _ ss l)
        simp only [h, if_true, nb, f1, f2, List.range_succ, List.filter_append, List.length_append]
        by_cases q : subP (pat ss n) l = true <;> simp [q]
      · simp [h]
    have e2 : (fun (k : Nat) => ch (j + k) j * (((List.range (n + 1)).map (oftN ss)).count (j + k) : Nat)) = fun (k : Nat) => ch (j + k) j * (((List.range n).map (oftN ss)).count (j + k) : Nat) + ch (j + k) j * (if (pat ss n).count true = j + k then 1 else 0) := by
      funext k
      rw [List.range_succ, List.map_append, List.count_append, ← oft_pat, Int.natCast_add, Int.mul_add]
      congr 2
      by_cases q : oftN ss n = j + k <;> simp [q]
    rw [e1, e2, sum_add, sum_add, ih]
    have q := share_all ⟨ss.length, by omega⟩ ⟨j, by omega⟩ (pat ss n) (by
      have := allB_mem (pat ss n)
      rwa [show (pat ss n).length = ss.length by simp [pat]] at this)
    unfold shareL shareR at q
    dsimp only at q
    rw [q]
end Law


set_option maxHeartbeats 4000000
namespace Law
open PySem PySem.Spec PyProof.Rows L2 Tr
theorem Cr.mono {n m : Nat} {d : D} (h : Cr n d) (hm : n ≤ m) : Cr m d := by
  obtain ⟨a, b, c, rfl, c0, c1⟩ := h
  exact ⟨a, b, c, rfl, c0, by omega⟩
theorem Cr.fl {n : Nat} {d : D} (h : Cr n d) : d.flag = true := by
  obtain ⟨a, b, c, rfl, _⟩ := h; rfl
theorem inner_ok (M n : Nat) (hM : M ≤ 10000) (hn : n ≤ 30) (d f o : D) (hd : Cr M d) (k : Int) (hk : 2 ≤ k ∧ k ≤ 4) (many : D) :
    ∃ (s : List Int) (d' : D), eLc [6] (iRng1f (aCons (xSlot 1) aNil)) (gN 6) (tOfE (eOp2 (dEq false) (xOf (eCall G__law_ladle [] (aCons (xSlot 0) (aCons (xSlot 5) aNil)))) (xOf (eC (.int 0))))) (eUse 6) [some d, some (.int n), some many, some f, some o, some (.int k), none] = .ok (.lst true (s.map .int)) [some d', some (.int n), some many, some f, some o, some (.int k), none] ∧ Cr (M + n) d' ∧ (∀ x ∈ s, 0 ≤ x ∧ x < n) ∧ s.Pairwise (· < ·) ∧ s.length ≤ n := by
  obtain ⟨l, e2, h1, d', s, h2, h3, h4, h5, h6, h7⟩ := eLc_inv (vs := [6]) (fi := (iRng1f (aCons (xSlot 1) aNil))) (g := (gN 6)) (ft := (tOfE (eOp2 (dEq false) (xOf (eCall G__law_ladle [] (aCons (xSlot 0) (aCons (xSlot 5) aNil)))) (xOf (eC (.int 0)))))) (fe := (eUse 6)) (e := [some d, some (.int n), some many, some f, some o, some (.int k), none]) (e1 := [some d, some (.int n), some many, some f, some o, some (.int k), none]) (k := ⟨rng 0 n, none⟩)
    (fun j l e => ∃ d' s, e = [some d', some (.int n), some many, some f, some o, some (.int k), none] ∧ Cr (M + j) d' ∧ l = s.map D.int ∧ (∀ x ∈ s, 0 ≤ x ∧ x < (j : Int)) ∧ s.Pairwise (· < ·) ∧ s.length ≤ j)
    (by simp [small_nat (n := n) (by omega)]) (by simp) (by rw [rng_nat]; simp; exact line_nat (by omega)) (by simp) ⟨d, [], by simp, hd, rfl, by simp, .nil, Nat.le_refl _⟩ (by
      rintro j x l e hj ⟨d1, s, rfl, c1, rfl, g1, g2, g3⟩
      simp only [rng_nat] at hj
      have hjn : j < n := by
        obtain ⟨h, _⟩ := List.getElem?_eq_some_iff.mp hj
        simpa using h
      have hx : x = D.int j := by simpa [hjn] using hj.symm
      subst hx
      obtain ⟨v, d2, h1, c2, v0, v1⟩ := ladle_ok (t := k) c1 (by omega) (by omega) (by omega)
      by_cases hv : v = 0
      · refine ⟨some (.int j), [some d2, some (.int n), some many, some f, some o, some (.int k), none], by simp [lcStep, c1.fl, h1, eq_ints, hv], d2, s ++ [(j : Int)], rfl, c2.mono (by omega), by simp, ?_, ?_, ?_⟩
        · intro y hy
          rw [List.mem_append, List.mem_singleton] at hy
          rcases hy with hy | rfl
          · have := g1 y hy; omega
          · omega
        · rw [List.pairwise_append]
          refine ⟨g2, by simp, ?_⟩
          intro a ha b hb
          rw [List.mem_singleton] at hb
          subst hb
          exact (g1 a ha).2
        · rw [List.length_append]; simp; omega
      · refine ⟨none, [some d2, some (.int n), some many, some f, some o, some (.int k), none], by simp [lcStep, c1.fl, h1, eq_ints, hv], d2, s, rfl, c2.mono (by omega), by simp, fun y hy => ?_, g2, by omega⟩
        have := g1 y hy; omega)
  subst h2 h4
  simp only [rng_nat, List.length_map, List.length_range] at h3 h5 h7
  refine ⟨s, d', ?_, h3, h5, h6, h7⟩
  rw [h1]
  simp
theorem sets_ok (N n many : Nat) (hN : N ≤ 5000) (hn : n ≤ 30) (hm : 1 ≤ many ∧ many ≤ 6) (d : D) (hd : Cr N d) :
    ∃ ss d', G__law_sets [d, .int n, .int many] = .ok (setD ss) [d', .int n, .int many] ∧ Cr (N + 300) d' ∧ 1 ≤ ss.length ∧ ss.length ≤ many ∧ Goods n ss := by
  obtain ⟨v, dA, q1, c1, v0, v1⟩ := ladle_ok (t := (many : Int)) hd (by omega) (by omega) (by omega)
  obtain ⟨u, hu⟩ : ∃ u : Nat, v = u := ⟨v.toNat, by omega⟩
  subst hu
  have s1 : small62 (1 + (u : Int)) = true := by unfold small62; simp; omega
  have e1 : (1 : Int) + u = ((1 + u : Nat) : Int) := by omega
  obtain ⟨e', h1, d2, ss, x4, x5, h2, h3, h4, h5⟩ := forL_inv0 (g := gN 4) (b := (sCons (sSet 5 (eOp2 dAdd (xOf (eC (.int 2))) (xOf (eCall G__law_ladle [] (aCons (xSlot 0) (aCons (xOf (eC (.int 3))) aNil))))))
      (sExpr (eApp 3 (eBlt (d1 dTuple) (aCons (xOf (eLc [6] (iRng1f (aCons (xSlot 1) aNil)) (gN 6) (tOfE (eOp2 (dEq false) (xOf (eCall G__law_ladle [] (aCons (xSlot 0) (aCons (xSlot 5) aNil)))) (xOf (eC (.int 0))))) (eUse 6))) aNil)))))) (ds := rng 0 (1 + (u : Int))) (e := [some dA, some (.int n), some (.int many), some (.lst true []), none, none, none]) (fun i e => ∃ d ss x4 x5, e = [some d, some (.int n), some (.int many), some (.lst true (ss.map tI)), x4, x5, none] ∧ Cr (N + 1 + i * 32) d ∧ ss.length = i ∧ Goods n ss)
    ⟨dA, [], none, none, rfl, c1.mono (by omega), rfl, by intro s hs; cases hs⟩ (by
    rintro j x e hj ⟨d, ss, x4, x5, rfl, c, hl, hg⟩
    rw [e1, rng_nat] at hj
    have hjn : j < 1 + u := by
      obtain ⟨h, _⟩ := List.getElem?_eq_some_iff.mp hj
      simpa using h
    have hx : x = D.int j := by simpa [hjn] using hj.symm
    subst hx
    obtain ⟨v2, d2, q2, c2, v3, v4⟩ := ladle_ok (t := 3) c (by omega) (by omega) (by omega)
    obtain ⟨s, d3, q3, c3, g1, g2, g3⟩ := inner_ok (N + 1 + j * 32 + 1) n (by omega) hn d2 (.lst true (ss.map tI)) (.int j) c2 (2 + v2) (by omega) (.int many)
    have a1 : ss.length < sizeLine := Nat.lt_of_lt_of_le (show ss.length < 100 by omega) (by decide)
    refine ⟨[some d, some (.int n), some (.int many), some (.lst true (ss.map tI)), some (.int j), x5, none], [some d3, some (.int n), some (.int many), some (.lst true ((ss ++ [s]).map tI)), some (.int j), some (.int (2 + v2)), none], by simp, ?_, d3, ss ++ [s], _, _, rfl, c3.mono (by omega), by simp [hl], ?_⟩
    · simp [c.fl, q2, q3, a1]
    · intro t ht
      rw [List.mem_append, List.mem_singleton] at ht
      rcases ht with ht | rfl
      · exact hg t ht
      · exact ⟨by omega, g1, g2⟩)
  subst h2
  rw [e1, rng_nat, List.length_map, List.length_range] at h3 h4
  refine ⟨ss, d2, ?_, h3.mono (by omega), by omega, by omega, h5⟩
  unfold G__law_sets b__law_sets
  simp [hd.fl, q1, s1, h1, h3.fl, dTuple]
end Law

set_option maxHeartbeats 4000000
namespace Law
open PySem PySem.Spec PyProof.Rows L2 Tr
@[simp] theorem ap_enum {fa e} : iEnumerate fa e = (fa e).bind fun ls e1 => match ls with
  | [l] => (match frzS l e1 with
    | some (.lst _ ds, e2) => .ok ⟨enumD 0 ds, none⟩ e2
    | _ => .stuck)
  | _ => .stuck := (rfl)
theorem enumD_ints (xs : List Int) : enumD 0 (xs.map .int) = (List.range xs.length).map fun (k : Nat) => D.tup [.int k, .int (gt0 xs k)] := by
  apply List.ext_getElem?
  intro i
  rw [enumD_at]
  by_cases h : i < xs.length
  · simp [h, gt0]
  · simp [h]
def oftL (cs : List Int) (n : Nat) : List Int := (List.range n).flatMap fun (k : Nat) => List.replicate (gt0 cs k).toNat (k : Int)
theorem oftL_s (cs : List Int) (n : Nat) : oftL cs (n + 1) = oftL cs n ++ List.replicate (gt0 cs n).toNat (n : Int) := by
  unfold oftL; rw [List.range_succ, List.flatMap_append]; simp
def setsBy (cs : List Int) : List (List Int) := (List.range (cs.length - 1)).map fun (a : Nat) => ((List.range (oftL cs cs.length).length).filter fun (t : Nat) => decide ((a : Int) < gt0 (oftL cs cs.length) t)).map fun (t : Nat) => (t : Int)
theorem reps (n : Nat) (k : Int) (h : n ≤ 100) : dMul (.lst true [.int k]) (.int n) = .ok (.lst true ((List.replicate n k).map .int)) := by
  have e : (List.replicate n [D.int k]).flatten = List.replicate n (D.int k) := by
    induction n with
    | zero => rfl
    | succ n ih => rw [List.replicate_succ, List.flatten_cons, ih (by omega)]; rfl
  have h1 : 1 * n ≤ sizeLine := line_nat (by omega)
  have h2 : -(2 ^ 63) ≤ (n : Int) ∧ (n : Int) < 2 ^ 63 := by omega
  unfold dMul
  simp only [List.length_cons, List.length_nil, Int.toNat_natCast, Nat.zero_add, h1, h2, e]
  simp
theorem oftL_len (cs : List Int) (h0 : ∀ x ∈ cs, 0 ≤ x) : ∀ n, n ≤ cs.length → ((oftL cs n).length : Int) = (cs.take n).sum
  | 0, _ => by simp [oftL]
  | n + 1, h => by
    have hn : n < cs.length := by omega
    rw [oftL_s, List.length_append, Int.natCast_add, oftL_len cs h0 n (by omega), List.length_replicate, List.take_succ_eq_append_getElem hn, List.sum_append]
    have := h0 _ (List.getElem_mem hn)
    rw [getD_lt hn]
    simp
    omega
theorem sum_take_le : ∀ (cs : List Int), (∀ x ∈ cs, 0 ≤ x) → ∀ n, (cs.take n).sum ≤ cs.sum
  | [], _, n => by simp
  | c :: cs, h, 0 => by
    have h1 := h c (by simp)
    have h2 := sum_take_le cs (fun x hx => h x (by simp [hx])) 0
    simp at h2 ⊢
    omega
  | c :: cs, h, n + 1 => by
    have h2 := sum_take_le cs (fun x hx => h x (by simp [hx])) n
    simp only [List.take_succ_cons, List.sum_cons]
    omega
theorem sets_by_ok (cs : List Int) (h1 : 1 ≤ cs.length) (h7 : cs.length ≤ 7) (h0 : ∀ x ∈ cs, 0 ≤ x) (hs : cs.sum ≤ 60) : G_sets_by [.lst false (cs.map .int)] = .ok (setD (setsBy cs)) [.lst false (cs.map .int)] := by
  have hlen : ∀ n, n ≤ cs.length → (oftL cs n).length ≤ 60 := fun n hn => by
    have a := oftL_len cs h0 n hn
    have b := sum_take_le cs h0 n
    omega
  unfold G_sets_by b_sets_by
  simp [enumD_ints]
  obtain ⟨e', h1, x2, x3, h2⟩ := forL_inv0 (g := gTp 2 (gsCons (gN 2) (gsCons (gN 3) gsNil))) (b := (sExpr (eExt 1 (eOp2 dMul (xOf (eLst (aCons (xOf (eUse 2)) aNil))) (xSlot 3))))) (ds := (List.range cs.length).map fun (k : Nat) => D.tup [.int k, .int (gt0 cs k)]) (e := [some (.lst false (cs.map .int)), some (.lst true []), none, none, none, none]) (fun i e => ∃ x2 x3, e = [some (.lst false (cs.map .int)), some (.lst true ((oftL cs i).map .int)), x2, x3, none, none]) ⟨none, none, by simp [oftL]⟩ (by
    rintro j d e hd ⟨x2, x3, rfl⟩
    have hj : j < cs.length := by
      obtain ⟨h, _⟩ := List.getElem?_eq_some_iff.mp hd
      simpa using h
    have hd : d = .tup [.int j, .int (gt0 cs j)] := by simpa [hj] using hd.symm
    subst hd
    have hx := h0 _ (List.getElem_mem hj)
    rw [← getD_lt hj] at hx
    have l1 := hlen (j + 1) (by omega)
    rw [oftL_s, List.length_append, List.length_replicate] at l1
    obtain ⟨m, hm⟩ : ∃ m : Nat, gt0 cs j = m := ⟨(gt0 cs j).toNat, by omega⟩
    rw [hm, Int.toNat_natCast] at l1
    have rp := reps m (j : Int) (by omega)
    have a1 : 1 ≤ sizeLine := line_nat (by omega)
    have a2 : (oftL cs j).length + m ≤ sizeLine := line_nat (by omega)
    refine ⟨[some (.lst false (cs.map .int)), some (.lst true ((oftL cs j).map .int)), some (.int j), some (.int (gt0 cs j)), none, none], [some (.lst false (cs.map .int)), some (.lst true ((oftL cs (j + 1)).map .int)), some (.int j), some (.int (gt0 cs j)), none, none], by simp, ?_, _, _, rfl⟩
    rw [oftL_s, hm, Int.toNat_natCast]
    simp [a1, rp, a2])
  rw [h1, h2]
  rw [List.length_map, List.length_range]
  have lo := hlen cs.length (Nat.le_refl _)
  obtain ⟨m, hm⟩ : ∃ m : Nat, m = cs.length - 1 := ⟨_, rfl⟩
  have em : (cs.length : Int) - 1 = m := by omega
  have hset : setsBy cs = (List.range m).map fun (a : Nat) => ((List.range (oftL cs cs.length).length).filter fun (t : Nat) => decide ((a : Int) < gt0 (oftL cs cs.length) t)).map fun (t : Nat) => (t : Int) := by rw [hm]; rfl
  rw [hset]
  generalize oftL cs cs.length = ol at *
  obtain ⟨l, e2, q1, o, q2, q3⟩ := eLc_inv (vs := [4]) (fi := (iRng1f (aCons (xOf (eOp2 dSub (xOf (eBlt (d1 dLen) (aCons (xSlot 0) aNil))) (xOf (eC (.int 1))))) aNil))) (g := (gN 4)) (ft := tYesF) (fe := (eBlt (d1 dTuple) (aCons (xOf (eLc [5, 2] (iEnumerate (aCons (xSlot 1) aNil)) (gTp 2 (gsCons (gN 5) (gsCons (gN 2) gsNil))) (tOfE (eOp2 dGt (xSlot 2) (xSlot 4))) (eUse 5))) aNil))) (e := [some (.lst false (cs.map .int)), some (.lst true (ol.map .int)), x2, x3, none, none]) (e1 := [some (.lst false (cs.map .int)), some (.lst true (ol.map .int)), x2, x3, none, none]) (k := ⟨rng 0 (m : Int), none⟩)
    (fun j l e => ∃ o, e = [some (.lst false (cs.map .int)), some (.lst o (ol.map .int)), x2, x3, none, none] ∧ l = (List.range j).map fun (a : Nat) => tI (((List.range ol.length).filter fun (t : Nat) => decide ((a : Int) < gt0 ol t)).map fun (t : Nat) => (t : Int)))
    (by simp [em, small_nat (n := m) (by omega)]) (by simp) (by rw [rng_nat]; simp; exact line_nat (by omega)) (by simp) ⟨true, by simp, rfl⟩ (by
      rintro j x l e hj ⟨o, rfl, rfl⟩
      dsimp only at hj
      rw [rng_nat] at hj
      have hjm : j < m := by
        obtain ⟨h, _⟩ := List.getElem?_eq_some_iff.mp hj
        simpa using h
      have hx : x = D.int j := by simpa [hjm] using hj.symm
      subst hx
      refine ⟨some (tI (((List.range ol.length).filter fun (t : Nat) => decide ((j : Int) < gt0 ol t)).map fun (t : Nat) => (t : Int))), [some (.lst false (cs.map .int)), some (.lst false (ol.map .int)), x2, x3, none, none], ?_, false, rfl, by rw [List.range_succ, List.map_append]; rfl⟩
      simp only [lcStep]
      have inner : (eLc [5, 2] (iEnumerate (aCons (xSlot 1) aNil)) (gTp 2 (gsCons (gN 5) (gsCons (gN 2) gsNil))) (tOfE (eOp2 dGt (xSlot 2) (xSlot 4))) (eUse 5)) [some (.lst false (cs.map .int)), some (.lst o (ol.map .int)), x2, x3, some (.int j), none] = .ok (.lst true (((List.range ol.length).filter fun (t : Nat) => decide ((j : Int) < gt0 ol t)).map fun (t : Nat) => D.int t)) [some (.lst false (cs.map .int)), some (.lst false (ol.map .int)), x2, x3, some (.int j), none] := by
        rw [eLc_pure (List.range ol.length) (fun (k : Nat) => D.tup [.int k, .int (gt0 ol k)]) (fun t => decide ((j : Int) < gt0 ol t)) (fun (t : Nat) => D.int t) (k := ⟨enumD 0 (ol.map .int), none⟩) (e1 := [some (.lst false (cs.map .int)), some (.lst false (ol.map .int)), x2, x3, some (.int j), none])]
        · cases x2 <;> simp
        · cases o <;> simp
        · exact enumD_ints ol
        · simp
        · rw [List.length_range]; exact line_nat (by omega)
        · simp
        · intro t ht
          by_cases hb : (j : Int) < gt0 ol t <;> simp [lcStep, hb]
      have tu := tuple_ints (o := true) (ns := ((List.range ol.length).filter fun (t : Nat) => decide ((j : Int) < gt0 ol t)).map fun (t : Nat) => (t : Int))
      rw [List.map_map] at tu
      simp only [Function.comp_def] at tu
      simp [inner, tu])
  subst q2
  simp only [rng_nat, List.length_map, List.length_range] at q3
  subst q3
  have tu : dTuple (.lst true ((List.range m).map fun (a : Nat) => tI (((List.range ol.length).filter fun (t : Nat) => decide ((a : Int) < gt0 ol t)).map fun (t : Nat) => (t : Int)))) = .ok (.tup ((List.range m).map fun (a : Nat) => tI (((List.range ol.length).filter fun (t : Nat) => decide ((a : Int) < gt0 ol t)).map fun (t : Nat) => (t : Int)))) := by
    simp [dTuple]
  simp [q1]
  rw [tu]
  simp
end Law

set_option maxHeartbeats 4000000
namespace Law
open PySem PySem.Spec PyProof.Rows L2 Tr
theorem sum_gt0 : ∀ xs : List Int, xs.sum = ((List.range xs.length).map fun (k : Nat) => gt0 xs k).sum
  | [] => rfl
  | x :: xs => by
    rw [List.sum_cons, List.length_cons, List.range_succ_eq_map, List.map_cons, List.sum_cons, List.map_map, sum_gt0 xs]
    rfl
theorem cin_sum (xs : List Int) (h1 : 1 ≤ xs.length) (h7 : xs.length ≤ 7) : (cin xs).sum = gt0 xs 0 := by
  have h : gt0 (sin (cin xs)) 0 = gt0 xs 0 := by rw [sin_cin xs h7]
  rw [← h, sum_gt0]
  have hl := cin_len xs
  have e : gt0 (sin (cin xs)) 0 = ((List.range (cin xs).length).map fun (k : Nat) => ch (0 + k) 0 * gt0 (cin xs) (0 + k)).sum := by
    simp [gt0, sin, hl, show 0 < xs.length by omega]
  rw [e]
  congr 1
  apply List.map_congr_left
  intro k _
  have : ch (0 + k) 0 = 1 := by cases k <;> rfl
  rw [this, Int.one_mul, Nat.zero_add]
def lacks (cs : List Int) : List Int := ((List.range cs.length).filter fun (k : Nat) => decide (gt0 cs k < 0)).map fun (k : Nat) => (k : Int)
theorem lacks_nil {cs : List Int} (h : lacks cs = []) : ∀ x ∈ cs, 0 ≤ x := by
  intro x hx
  obtain ⟨i, hi, rfl⟩ := List.mem_iff_getElem.mp hx
  simp only [lacks, List.map_eq_nil_iff, List.filter_eq_nil_iff, List.mem_range, decide_eq_true_eq] at h
  have := h i hi
  rw [getD_lt hi] at this
  omega
def told (xs : List Int) : D := if lacks (cin xs) = [] then .tup [.str "sets", setD (setsBy (cin xs))] else .tup [.str "lack", .int (gt0 (lacks (cin xs)) 0)]
theorem sums_told_ok (xs : List Int) (h1 : 1 ≤ xs.length) (h7 : xs.length ≤ 7) (hb : ∀ x ∈ xs, big x) (h0 : gt0 xs 0 ≤ 60) : G_sums_told [.tup (xs.map .int)] = .ok (told xs) [.tup (xs.map .int)] := by
  unfold G_sums_told b_sums_told
  have hc := counts_in_ok xs (by omega) hb
  have hl := cin_len xs
  have hs := cin_sum xs h1 h7
  unfold told
  generalize cin xs = cs at *
  simp [hc]
  rw [eLc_pure (List.range cs.length) (fun (k : Nat) => D.tup [.int k, .int (gt0 cs k)]) (fun t => decide (gt0 cs t < 0)) (fun (t : Nat) => D.int t) (k := ⟨enumD 0 (cs.map .int), none⟩) (e1 := [some (.tup (xs.map .int)), some (.lst false (cs.map .int)), none, none, none])]
  · have hlk : (((List.range cs.length).filter fun (t : Nat) => decide (gt0 cs t < 0)).map fun (t : Nat) => D.int t) = (lacks cs).map .int := by
      simp [lacks]
    rw [hlk]
    have a2 : 2 ≤ sizeLine := line_nat (by omega)
    have hne := eq_lsts (b := true) (o := true) (o' := true) (xs := lacks cs) (ys := [])
    simp only [List.map_nil] at hne
    by_cases hk : lacks cs = []
    · have sb := sets_by_ok cs (by omega) (by omega) (lacks_nil hk) (by omega)
      have f1 : (setD (setsBy cs)).frz = setD (setsBy cs) := by simp
      have hn0 : dEq true (.lst true []) (.lst true []) = .ok (.bl false) := by rw [hk] at hne; simpa using hne
      simp [hn0, hk, sb, a2, frzL, D.frz]
    · have hp : 0 < (lacks cs).length := List.length_pos_iff.mpr hk
      have i0 : dIx (.lst true ((lacks cs).map .int)) (.int 0) = .ok (.int (gt0 (lacks cs) 0)) := ix_lst (k := 0) hp
      simp [hne, hk, i0, a2, frzL, D.frz]
  · simp
  · exact enumD_ints cs
  · simp
  · rw [List.length_range]; exact line_nat (by omega)
  · simp
  · intro t ht
    by_cases hb : gt0 cs t < 0 <;> simp [lcStep, hb]
end Law

set_option maxHeartbeats 4000000
namespace Law
open PySem PySem.Spec PyProof.Rows L2 Tr
/-- sums that the law asks about -/
structure Fit (xs : List Int) : Prop where
  h2 : 2 ≤ xs.length
  h7 : xs.length ≤ 7
  hb : ∀ x ∈ xs, x.natAbs < 10 ^ 30
  h0 : 0 ≤ gt0 xs 0
  h30 : gt0 xs 0 ≤ 30
theorem sums_paper_ok (xs : List Int) (f : Fit xs) : G_sums_paper [.tup (xs.map .int)] = .ok (told xs) [.tup (xs.map .int)] := by
  obtain ⟨h2, h7, hb, h0, h30⟩ := f
  obtain ⟨n, hn⟩ : ∃ n : Nat, gt0 xs 0 = n := ⟨(gt0 xs 0).toNat, by omega⟩
  have i0 : dIx (.tup (xs.map .int)) (.int 0) = .ok (.int (gt0 xs 0)) := ix_tup (k := 0) (by omega)
  have a := need_sums_ok xs h2 h7 hb
  have b := need_things_ok n (by omega)
  have c := sums_told_ok xs (by omega) h7 (fun x hx => Law.big_of (hb x hx)) (by omega)
  unfold G_sums_paper b_sums_paper
  simp [a, i0, hn, b, c]
/-! values of any kind -/
def isW : D → Bool
  | .int _ => true
  | _ => false
/-- a value whose type is told -/
def Ty (d : D) : Prop := d.tyN.isSome = true ∧ d.flag = false
theorem isi_int (d : D) (h : Ty d) : dIsi d (.ty "int") = .ok (.bl (match d with
  | .int _ => true
  | .bl _ => true
  | _ => false)) := by
  cases d <;> first | rfl | (simp [Ty, D.tyN] at h)
theorem isi_bool (d : D) (h : Ty d) : dIsi d (.ty "bool") = .ok (.bl (match d with
  | .bl _ => true
  | _ => false)) := by
  cases d <;> first | rfl | (simp [Ty, D.tyN] at h)
theorem isi_tuple (d : D) (h : Ty d) : dIsi d (.ty "tuple") = .ok (.bl (match d with
  | .tup _ => true
  | _ => false)) := by
  cases d <;> first | rfl | (simp [Ty, D.tyN] at h)
theorem isi_str (d : D) (h : Ty d) : dIsi d (.ty "str") = .ok (.bl (match d with
  | .str _ => true
  | _ => false)) := by
  cases d <;> first | rfl | (simp [Ty, D.tyN] at h)
theorem law_whole_ok (d : D) (h : Ty d) : G__law_is_whole [d] = .ok (.bl (isW d)) [d] := by
  have a := isi_int d h
  have b := isi_bool d h
  have c := h.2
  unfold G__law_is_whole b__law_is_whole
  cases d <;> simp_all [isW, eNot]
/-- the value is a whole number from lo to hi -/
def inR (lo hi : Int) : D → Bool
  | .int i => decide (lo ≤ i) && decide (i ≤ hi)
  | _ => false
theorem whole_any (d : D) (h : Ty d) (lo hi : Int) : G_is_whole [d, .int lo, .int hi] = .ok (.bl (inR lo hi d)) [d, .int lo, .int hi] := by
  cases d with
  | int i => exact whole_ii i lo hi
  | _ =>
    have a := isi_int _ h
    have b := isi_bool _ h
    have c := h.2
    unfold G_is_whole b_is_whole
    simp_all [inR]
end Law

set_option maxHeartbeats 4000000
namespace Law
open PySem PySem.Spec PyProof.Rows L2 Tr
/-- a loop that goes on or ends with one value -/
theorem forL_first {g : D → DE → Option DE} {b : DE → SRes} (P : DE → Prop) (ok : D → Bool) (r : D) : ∀ {ds : List D} {e : DE}, P e →
    (∀ d e, d ∈ ds → P e → ∃ e1 e2, g d e = some e1 ∧ P e2 ∧ b e1 = if ok d = true then .nx e2 else .rt r e2) →
    ∃ e', P e' ∧ forL g b ds e = if ds.all ok = true then .nx e' else .rt r e'
  | [], e, h, _ => ⟨e, h, rfl⟩
  | d :: ds, e, h, hs => by
    obtain ⟨e1, e2, h1, h2, h3⟩ := hs d e (by simp) h
    by_cases hd : ok d = true
    · rw [if_pos hd] at h3
      obtain ⟨e', h4, h5⟩ := forL_first P ok r (ds := ds) h2 fun d' e hm hp => hs d' e (by simp [hm]) hp
      refine ⟨e', h4, ?_⟩
      rw [forL, h1]
      dsimp only
      rw [h3]
      dsimp only
      rw [h5]
      simp [hd]
    · rw [if_neg hd] at h3
      refine ⟨e2, h2, ?_⟩
      rw [forL, h1]
      dsimp only
      rw [h3]
      simp [hd]
/-- rising -/
def risB : List Int → Bool
  | x :: y :: l => decide (x < y) && risB (y :: l)
  | _ => true
def ints? : List D → Option (List Int)
  | [] => some []
  | .int i :: ds => (ints? ds).map (i :: ·)
  | _ => none
theorem inR_ints (lo hi : Int) : ∀ ds : List D, ds.all (inR lo hi) = true → ∃ xs : List Int, ds = xs.map .int ∧ ∀ x ∈ xs, lo ≤ x ∧ x ≤ hi
  | [], _ => ⟨[], rfl, by simp⟩
  | d :: ds, h => by
    rw [List.all_cons, Bool.and_eq_true] at h
    obtain ⟨xs, rfl, hx⟩ := inR_ints lo hi ds h.2
    cases d with
    | int i =>
      have h1 := h.1
      simp only [inR, Bool.and_eq_true, decide_eq_true_eq] at h1
      refine ⟨i :: xs, rfl, fun x hm => ?_⟩
      rcases List.mem_cons.mp hm with rfl | hm
      · exact h1
      · exact hx x hm
    | _ => exact absurd h.1 (by simp [inR])
end Law

set_option maxHeartbeats 4000000
namespace Law
open PySem PySem.Spec PyProof.Rows L2 Tr
theorem ints_map : ∀ xs : List Int, ints? (xs.map .int) = some xs
  | [] => rfl
  | x :: xs => by simp [ints?, ints_map xs]
theorem ris_all : ∀ xs : List Int, (xs.zip (xs.drop 1)).all (fun p => decide (p.1 < p.2)) = risB xs
  | [] => rfl
  | [x] => rfl
  | x :: y :: l => by
    have h := ris_all (y :: l)
    simp only [List.drop_succ_cons, List.drop_zero] at h ⊢
    rw [List.zip_cons_cons, List.all_cons, h]
    rfl
def setOk (n : Int) : D → Bool
  | .tup xs => xs.all (inR 0 (n - 1)) && (match ints? xs with
    | some is => risB is
    | none => false)
  | _ => false
def areB (n : Int) : D → Bool
  | .tup ss => ss.all (setOk n)
  | _ => false
/-- the items of a set-like value have types that are told -/
def Ty1 (s : D) : Prop := Ty s ∧ ∀ xs, s = .tup xs → xs.length ≤ 100 ∧ ∀ x ∈ xs, Ty x
def Ty2 (v : D) : Prop := Ty v ∧ ∀ ss, v = .tup ss → ss.length ≤ 100 ∧ ∀ s ∈ ss, Ty1 s
theorem are_sets_any (n : Int) (v : D) (hv : Ty2 v) : G_are_sets [.int n, v] = .ok (.bl (areB n v)) [.int n, v] := by
  obtain ⟨h1, h2⟩ := hv
  have it := isi_tuple v h1
  have fl := h1.2
  unfold G_are_sets b_are_sets
  cases v with
  | tup ss =>
    obtain ⟨hl, hs⟩ := h2 ss rfl
    simp
    obtain ⟨e', ⟨x, h3⟩, h4⟩ := forL_first (g := gN 2) (b := (sCons (sIf (tOrF (tNotF (tOfE (eBlt (d2 dIsi) (aCons (xSlot 2) (aCons (xOf (eC (.ty "tuple"))) aNil))))) (tNotF (tOfE (eBlt (d1 dAll) (aCons (xOf (eLc [3] (iSlot 2) (gN 3) tYesF (eCallK G_is_whole [some 0, some 1] [] (aCons (xSlot 3) aNil) (aCons (xOf (eC (.int 0))) (aCons (xOf (eOp2 dSub (xSlot 0) (xOf (eC (.int 1))))) aNil))))) aNil))))) (sRet (eC (.bl false))) sNil)
      (sIf (tNotF (tOfE (eBlt (d1 dAll) (aCons (xOf (eLc [4, 5] (iZip2 (aCons (xSlot 2) (aCons (xOf (eSl dSl (xSlot 2) (oAt (xOf (eC (.int 1)))) oNo)) aNil))) (gTp 2 (gsCons (gN 4) (gsCons (gN 5) gsNil))) tYesF (eOp2 dLt (xSlot 4) (xSlot 5)))) aNil)))) (sRet (eC (.bl false))) sNil))) (ds := ss) (e := [some (.int n), some (.tup ss), none, none, none, none]) (fun e => ∃ x, e = [some (.int n), some (.tup ss), x, none, none, none]) (setOk n) (.bl false) ⟨none, rfl⟩ (by
      rintro d e hd ⟨x, rfl⟩
      obtain ⟨t1, t2⟩ := hs d hd
      have it := isi_tuple d t1
      have fl := t1.2
      refine ⟨[some (.int n), some (.tup ss), some d, none, none, none], [some (.int n), some (.tup ss), some d, none, none, none], by simp, ⟨some d, rfl⟩, ?_⟩
      cases d with
      | tup xs =>
        obtain ⟨xl, xt⟩ := t2 xs rfl
        simp
        rw [eLc_map xs (fun k => k) (fun x => .bl (inR 0 (n - 1) x)) (k := ⟨xs, none⟩) (e1 := [some (.int n), some (.tup ss), some (.tup xs), none, none, none])]
        · have hA : dAll (.lst true (xs.map fun x => D.bl (inR 0 (n - 1) x))) = .ok (.bl (xs.all (inR 0 (n - 1)))) := all_of
          by_cases ha : xs.all (inR 0 (n - 1)) = true
          · obtain ⟨is, hxs, hx⟩ := inR_ints 0 (n - 1) xs ha
            rw [ha] at hA
            simp [hA]
            subst hxs
            rw [eLc_map (is.zip (is.drop 1)) (fun p => D.tup [.int p.1, .int p.2]) (fun p => .bl (decide (p.1 < p.2))) (k := ⟨zipD (is.map .int) ((is.drop 1).map .int), none⟩) (e1 := [some (.int n), some (.tup ss), some (.tup (is.map .int)), none, none, none])]
            · have hB : dAll (.lst true ((is.zip (is.drop 1)).map fun p => D.bl (decide (p.1 < p.2)))) = .ok (.bl (risB is)) := by
                rw [← ris_all is]; exact all_of
              have so : setOk n (.tup (is.map .int)) = risB is := by
                show ((is.map D.int).all (inR 0 (n - 1)) && _) = _
                rw [ha, Bool.true_and, ints_map]
              rw [so]
              by_cases hr : risB is = true
              · have z := ris_all is
                rw [hr, List.all_eq_true] at z
                simp [hr]
                intro x y hm
                have := z (x, y) (by simpa using hm)
                simpa using this
              · rw [Bool.not_eq_true] at hr
                have z := ris_all is
                rw [hr] at z
                simp at z
                simp [hr]
                exact z
            · have c1 : cutD (is.map D.int) (some 1) none = (is.drop 1).map .int := by rw [List.map_drop]; exact cutD_from _ 1
              simp [dSl, c1]
            · exact zipD_ints _ _
            · simp
            · exact Nat.le_trans (by rw [List.length_zip]; exact Nat.min_le_left _ _) (line_nat (n := is.length) (by simpa using xl))
            · simp
            · intro p hp
              simp [lcStep]
          · rw [Bool.not_eq_true] at ha
            rw [ha] at hA
            have so : setOk n (.tup xs) = false := by
              show (xs.all (inR 0 (n - 1)) && _) = _
              rw [ha]; rfl
            simp [hA, so]
        · simp
        · simp
        · simp
        · exact line_nat (by omega)
        · simp
        · intro y hy
          have ty := xt y hy
          simp [lcStep, arr, whole_any y ty, ty.2]
      | _ => simp_all [setOk])
    rw [h4, h3]
    by_cases hq : ss.all (setOk n) = true
    · simp [hq, areB]
    · rw [if_neg hq]
      rw [Bool.not_eq_true] at hq
      simp [areB, hq]
  | _ => simp_all [areB]
end Law

set_option maxHeartbeats 4000000
namespace Law
open PySem PySem.Spec PyProof.Rows L2 Tr
/-- a strictly rising row of numbers from 0 to n - 1 -/
theorem ris_pair : ∀ xs : List Int, risB xs = true → xs.Pairwise (· < ·)
  | [], _ => .nil
  | [x], _ => by simp
  | x :: y :: l, h => by
    simp only [risB, Bool.and_eq_true, decide_eq_true_eq] at h
    have q := ris_pair (y :: l) h.2
    rw [List.pairwise_cons]
    refine ⟨fun z hz => ?_, q⟩
    rcases List.mem_cons.mp hz with rfl | hz
    · exact h.1
    · rw [List.pairwise_cons] at q
      exact Int.lt_trans h.1 (q.1 z hz)
theorem setOk_ints {n : Int} {s : D} (h : setOk n s = true) : ∃ xs : List Int, s = tI xs ∧ (∀ x ∈ xs, 0 ≤ x ∧ x < n) ∧ xs.Pairwise (· < ·) := by
  cases s with
  | tup ds =>
    have h : (ds.all (inR 0 (n - 1)) && (match ints? ds with
      | some is => risB is
      | none => false)) = true := h
    rw [Bool.and_eq_true] at h
    obtain ⟨is, rfl, hx⟩ := inR_ints 0 (n - 1) ds h.1
    have h2 := h.2
    rw [ints_map] at h2
    exact ⟨is, rfl, fun x hm => by have := hx x hm; omega, ris_pair is h2⟩
  | _ => cases h
/-- what are_sets says yes to: a tuple of sets -/
theorem areB_sets {n : Int} : ∀ {ss : List D}, ss.all (setOk n) = true → ∃ rs : List (List Int), ss = rs.map tI ∧ ∀ s ∈ rs, (∀ x ∈ s, 0 ≤ x ∧ x < n) ∧ s.Pairwise (· < ·)
  | [], _ => ⟨[], rfl, by simp⟩
  | s :: ss, h => by
    rw [List.all_cons, Bool.and_eq_true] at h
    obtain ⟨xs, rfl, h1, h2⟩ := setOk_ints h.1
    obtain ⟨rs, rfl, h3⟩ := areB_sets h.2
    refine ⟨xs :: rs, rfl, fun s hs => ?_⟩
    rcases List.mem_cons.mp hs with rfl | hs
    · exact ⟨h1, h2⟩
    · exact h3 s hs
end Law

set_option maxHeartbeats 4000000
namespace Law
open PySem PySem.Spec PyProof.Rows L2 Tr
theorem eq_str {b : Bool} {x y : Str} (hx : (SeqAt.shaped (.str x)) = true) (hy : (SeqAt.shaped (.str y)) = true) : dEq b (.str x) (.str y) = .ok (.bl (if b then !decide (x = y) else decide (x = y))) := by
  have h : PyData.eqv (.str x) (.str y) = decide (x = y) := by
    by_cases q : x = y <;> simp [PyData.eqv, q]
  cases b <;> simp [dEq, D.py, hx, hy, h]
theorem sh_lack : SeqAt.shaped (.str "lack") = true := by decide +kernel
theorem sh_sets : SeqAt.shaped (.str "sets") = true := by decide +kernel
theorem ls_ne : ("lack" : Str) ≠ "sets" := by decide +kernel
def ltD (cs : List Int) : D → Bool
  | .int i => decide (gt0 cs i.toNat < 0)
  | _ => false
/-- ('lack', y) is judged -/
theorem shows_lack (xs : List Int) (f : Fit xs) (y : D) (hy : Ty y) : G_shows_sums [.tup (xs.map .int), .tup [.str "lack", y]] = .ok (.bl (inR 0 (xs.length - 1) y && ltD (cin xs) y)) [.tup (xs.map .int), .tup [.str "lack", y]] := by
  obtain ⟨h2, h7, hb, h0, h30⟩ := f
  have i0 : dIx (.tup [.str "lack", y]) (.int 0) = .ok (.str "lack") := by simp [dIx, atI, ixN]
  have i1 : dIx (.tup [.str "lack", y]) (.int 1) = .ok y := by simp [dIx, atI, ixN]
  have hc := counts_in_ok xs (by omega) (fun x hx => Law.big_of (hb x hx))
  have e0 : dEq false (.str "lack") (.str "lack") = .ok (.bl true) := by rw [eq_str sh_lack sh_lack]; simp
  have es : dIsi (.str "lack") (.ty "str") = .ok (.bl true) := rfl
  have hw := whole_any y hy 0 ((xs.length : Int) - 1)
  unfold G_shows_sums b_shows_sums
  by_cases hr : inR 0 ((xs.length : Int) - 1) y = true
  · cases y with
    | int i =>
      simp only [inR, Bool.and_eq_true, decide_eq_true_eq] at hr
      obtain ⟨k, rfl⟩ : ∃ k : Nat, i = k := ⟨i.toNat, by omega⟩
      have ix : dIx (.lst true ((cin xs).map .int)) (.int k) = .ok (.int (gt0 (cin xs) k)) := ix_lst (by rw [cin_len]; omega)
      simp [i0, i1, e0, es, eq_ints, arr, hw, hc, ix, ltD, inR, hr]
    | _ => cases hr
  · rw [Bool.not_eq_true] at hr
    rw [hr] at hw
    simp [i0, i1, e0, es, eq_ints, arr, hw, hr, hy.2]
end Law

set_option maxHeartbeats 4000000
namespace Law
open PySem PySem.Spec PyProof.Rows L2 Tr
def lenD : D → Nat
  | .tup ss => ss.length
  | _ => 0
def rowD : D → List Int
  | .tup xs => (ints? xs).getD []
  | _ => []
def rowsD : D → List (List Int)
  | .tup ss => ss.map rowD
  | _ => []
theorem rows_tI (rs : List (List Int)) : rowsD (setD rs) = rs := by
  simp [rowsD, rowD, ints_map, Function.comp_def]
def showS (xs : List Int) (y : D) : Bool := areB (gt0 xs 0) y && (decide (lenD y = xs.length - 1) && decide (cby (gt0 xs 0).toNat (rowsD y) = cin xs))
/-- ('sets', y) is judged -/
theorem shows_sets (xs : List Int) (f : Fit xs) (y : D) (hy : Ty2 y) : G_shows_sums [.tup (xs.map .int), .tup [.str "sets", y]] = .ok (.bl (showS xs y)) [.tup (xs.map .int), .tup [.str "sets", y]] := by
  obtain ⟨h2, h7, hb, h0, h30⟩ := f
  have i0 : dIx (.tup [.str "sets", y]) (.int 0) = .ok (.str "sets") := by simp [dIx, atI, ixN]
  have i1 : dIx (.tup [.str "sets", y]) (.int 1) = .ok y := by simp [dIx, atI, ixN]
  have j0 : dIx (.tup (xs.map .int)) (.int 0) = .ok (.int (gt0 xs 0)) := ix_tup (k := 0) (by omega)
  have hc := counts_in_ok xs (by omega) (fun x hx => Law.big_of (hb x hx))
  have e0 : dEq false (.str "sets") (.str "lack") = .ok (.bl false) := by rw [eq_str sh_sets sh_lack]; simp [ls_ne.symm]
  have e1 : dEq true (.str "sets") (.str "sets") = .ok (.bl false) := by rw [eq_str sh_sets sh_sets]; simp
  have es : dIsi (.str "sets") (.ty "str") = .ok (.bl true) := rfl
  have ha := are_sets_any (gt0 xs 0) y hy
  obtain ⟨n, hn⟩ : ∃ n : Nat, gt0 xs 0 = n := ⟨(gt0 xs 0).toNat, by omega⟩
  unfold G_shows_sums b_shows_sums
  unfold showS
  by_cases hr : areB (gt0 xs 0) y = true
  · cases y with
    | tup ss =>
      obtain ⟨rs, rfl, hrs⟩ := areB_sets (show ss.all (setOk (gt0 xs 0)) = true from hr)
      have lr : (rs.length : Int) = ((rs.map tI).length : Nat) := by simp
      by_cases hl : rs.length = xs.length - 1
      · have hcb := counts_by_ok n rs (by omega) (by omega)
        have rr := rows_tI rs
        have hl2 : (rs.length : Int) = (xs.length : Int) - 1 := by omega
        have hl3 : ((xs.length - 1 : Nat) : Int) = (xs.length : Int) - 1 := by omega
        simp only [setD] at hcb rr
        rw [hn] at hr ha j0
        have eq := eq_lsts (b := false) (o := true) (o' := true) (xs := cby n rs) (ys := cin xs)
        simp [i0, i1, j0, e0, e1, es, eq_ints, ha, hr, hc, hn, hcb, hl2, hl3, lenD, hl, rr, eq]
      · have hl2 : ¬ (rs.length : Int) = (xs.length : Int) - 1 := by omega
        simp [i0, i1, j0, e0, e1, es, eq_ints, ha, hr, hl2, lenD, hl]
    | _ => cases hr
  · rw [Bool.not_eq_true] at hr
    rw [hr] at ha
    simp [i0, i1, j0, e0, e1, es, eq_ints, ha, hr, hy.1.2]
end Law

set_option maxHeartbeats 4000000
namespace Law
open PySem PySem.Spec PyProof.Rows L2 Tr
theorem is_paper_of (xs : List Int) (f : Fit xs) (v : D) (b : Bool) (hv : v.flag = false) (h : G_shows_sums [.tup (xs.map .int), v] = .ok (.bl b) [.tup (xs.map .int), v]) : G_is_sums_paper [.tup (xs.map .int), v] = .ok (.bl b) [.tup (xs.map .int), v] := by
  obtain ⟨h2, h7, hb, h0, h30⟩ := f
  obtain ⟨n, hn⟩ : ∃ n : Nat, gt0 xs 0 = n := ⟨(gt0 xs 0).toNat, by omega⟩
  have i0 : dIx (.tup (xs.map .int)) (.int 0) = .ok (.int (gt0 xs 0)) := ix_tup (k := 0) (by omega)
  have a := need_sums_ok xs h2 h7 hb
  have b' := need_things_ok n (by omega)
  unfold G_is_sums_paper b_is_sums_paper
  simp [a, i0, hn, b', h, hv]
/-- a value that is no pair led by a text -/
theorem shows_no_tuple (xs : List Int) (v : D) (h : Ty v) (hn : ∀ ds, v ≠ .tup ds) : G_shows_sums [.tup (xs.map .int), v] = .ok (.bl false) [.tup (xs.map .int), v] := by
  have it := isi_tuple v h
  have fl := h.2
  unfold G_shows_sums b_shows_sums
  cases v <;> simp_all
theorem shows_no_two (xs : List Int) (ds : List D) (hl : ds.length ≠ 2) : G_shows_sums [.tup (xs.map .int), .tup ds] = .ok (.bl false) [.tup (xs.map .int), .tup ds] := by
  have hl2 : ¬ (ds.length : Int) = 2 := by omega
  unfold G_shows_sums b_shows_sums
  simp [eq_ints, hl2]
end Law

set_option maxHeartbeats 4000000
namespace Law
open PySem PySem.Spec PyProof.Rows L2 Tr
theorem shows_no_str (xs : List Int) (k y : D) (h : Ty k) (hn : ∀ s, k ≠ .str s) : G_shows_sums [.tup (xs.map .int), .tup [k, y]] = .ok (.bl false) [.tup (xs.map .int), .tup [k, y]] := by
  have it := isi_str k h
  have i0 : dIx (.tup [k, y]) (.int 0) = .ok k := by simp [dIx, atI, ixN]
  unfold G_shows_sums b_shows_sums
  cases k <;> simp_all [eq_ints]
end Law

set_option maxHeartbeats 4000000
namespace Law
open PySem PySem.Spec PyProof.Rows L2 Tr
theorem are_no_tuple (xs : List Int) (v : D) (h : Ty v) (hn : ∀ ds, v ≠ .tup ds) : G__law_are_sets [.tup (xs.map .int), v] = .ok (.str "") [.tup (xs.map .int), v] := by
  have it := isi_tuple v h
  have fl := h.2
  unfold G__law_are_sets b__law_are_sets
  cases v <;> simp_all
theorem are_no_two (xs : List Int) (ds : List D) (hl : ds.length ≠ 2) : G__law_are_sets [.tup (xs.map .int), .tup ds] = .ok (.str "") [.tup (xs.map .int), .tup ds] := by
  have hl2 : ¬ (ds.length : Int) = 2 := by omega
  unfold G__law_are_sets b__law_are_sets
  simp [eq_ints, hl2]
theorem are_no_str (xs : List Int) (k y : D) (h : Ty k) (hn : ∀ s, k ≠ .str s) : G__law_are_sets [.tup (xs.map .int), .tup [k, y]] = .ok (.str "") [.tup (xs.map .int), .tup [k, y]] := by
  have it := isi_str k h
  have i0 : dIx (.tup [k, y]) (.int 0) = .ok k := by simp [dIx, atI, ixN]
  unfold G__law_are_sets b__law_are_sets
  cases k <;> simp_all [eq_ints]
theorem are_lack (xs : List Int) (f : Fit xs) (hB : ∀ x ∈ xs, -(10 ^ 12) ≤ x ∧ x ≤ 10 ^ 12) (y : D) (hy : Ty y) : G__law_are_sets [.tup (xs.map .int), .tup [.str "lack", y]] = .ok (.str (if (inR 0 (xs.length - 1) y && ltD (cin xs) y) = true then "lack" else "")) [.tup (xs.map .int), .tup [.str "lack", y]] := by
  obtain ⟨h2, h7, hb, h0, h30⟩ := f
  have i0 : dIx (.tup [.str "lack", y]) (.int 0) = .ok (.str "lack") := by simp [dIx, atI, ixN]
  have i1 : dIx (.tup [.str "lack", y]) (.int 1) = .ok y := by simp [dIx, atI, ixN]
  have hc := law_counts_ok xs (by omega) h7 hB
  have e0 : dEq false (.str "lack") (.str "lack") = .ok (.bl true) := by rw [eq_str sh_lack sh_lack]; simp
  have es : dIsi (.str "lack") (.ty "str") = .ok (.bl true) := rfl
  have hw := law_whole_ok y hy
  unfold G__law_are_sets b__law_are_sets
  cases y with
  | int i =>
    by_cases hr : 0 ≤ i ∧ i < xs.length
    · obtain ⟨k, rfl⟩ : ∃ k : Nat, i = k := ⟨i.toNat, by omega⟩
      have ix : dIx (.tup ((cin xs).map .int)) (.int k) = .ok (.int (gt0 (cin xs) k)) := ix_tup (by rw [cin_len]; omega)
      have r2 : (k : Int) ≤ xs.length - 1 := by omega
      by_cases hq : gt0 (cin xs) k < 0 <;> simp [i0, i1, e0, es, eq_ints, hw, isW, hc, ix, ltD, inR, hr.2, r2, hq]
    · by_cases ha : 0 ≤ i
      · have h3 : ¬ i < xs.length := by omega
        have h4 : ¬ i ≤ xs.length - 1 := by omega
        simp [i0, i1, e0, es, eq_ints, hw, isW, inR, ha, h3, h4]
      · simp [i0, i1, e0, es, eq_ints, hw, isW, inR, ha]
  | _ => simp_all [isW, inR, eq_ints]
end Law

set_option maxHeartbeats 4000000
namespace Law
open PySem PySem.Spec PyProof.Rows L2 Tr
/-! sign_of -/
def F_sign_of (x_number : Int) : Option Int := (((((modM x_number (2))).bind fun (r9 : Int) => (some (decide (r9 = (0)))))).bind fun (r10 : Bool) => if r10 = true then (some (1)) else (some (-(1))))
theorem sp_sign_of (x_number : Int) : Spec G_sign_of [Eq1 (D.int x_number)] (F_sign_of x_number) (fun r => D.int r) (fun r => [Eq1 (D.int x_number)]) := by
  unfold F_sign_of G_sign_of b_sign_of
  exact spec_fn (Γ0 := [Sl (Eq1 (D.int x_number))]) (Γ' := fun r => [Sl (Eq1 (D.int x_number))]) ((ts_ret0 (te_if (tt_e (b := fun (r10 : Bool) => r10) (te_op2m (ta_m (te_op2 (tap_c (px_s rfl) (tap_c (px_o pe_c) tap_n)) (rds_c (rd_s rfl p_id) (rds_c rd_e rds_n)) o_mod) fun (r9 : Int) => (tap_c (px_o pe_c) tap_n)) (fun (r9 : Int) => (rds_c rd_e (rds_c rd_e rds_n))) (fun (r9 : Int) => (op_t (e := D.bl) (v := (decide (r9 = (0)))) (o_eq (e := D.int) (x := r9) (y := (0)) eqd_int (Nat.le_of_ble_eq_true rfl))))) (fun _ => rfl)) (fun (r10 : Bool) => (te_p (e := D.int) (v := (1)) pe_c)) (fun (r10 : Bool) => (te_p (e := D.int) (v := (-(1))) (pe_un (tap_c (px_o pe_c) tap_n) (rds_c rd_e rds_n) o_neg)))) (fun r env' h => by exact ⟨env', rfl, (sub_c w_id sub_n) env' h⟩))) (fun r => (.f rfl .n))
/-! out_of -/
def F_out_of (x_many : Int) (x_size : Int) : Option Int := if (!((decide ((0) ≤ x_size)) && (decide (x_size ≤ x_many)))) = true then some (0) else ((some (1))).bind fun (r24 : Int) => (((rng1 x_size)).bind fun (l25 : List Int) => foldO (fun (s30 : (Int)) (x31 : Int) => ((((mulM s30 (x_many - x31))).bind fun (r33 : Int) => (fdivM r33 (x31 + (1))))).map fun (r34 : Int) => (r34)) l25 (r24)).bind fun (s32 : (Int)) => some s32
theorem sp_out_of (x_many : Int) (x_size : Int) : Spec G_out_of [Eq1 (D.int x_many), Eq1 (D.int x_size)] (F_out_of x_many x_size) (fun r => D.int r) (fun r => [Eq1 (D.int x_many), Eq1 (D.int x_size)]) := by
  unfold F_out_of G_out_of b_out_of
  exact spec_fn (Γ0 := [Sl (Eq1 (D.int x_many)), Sl (Eq1 (D.int x_size)), No, No]) (Γ' := fun r => [Sl (Eq1 (D.int x_many)), Sl (Eq1 (D.int x_size)), An, An]) ((ts_if0p ir_si (pt_n (b := ((decide ((0) ≤ x_size)) && (decide (x_size ≤ x_many)))) (pt_e (b := ((decide ((0) ≤ x_size)) && (decide (x_size ≤ x_many)))) (pe_chain (px_o pe_c) (px_s rfl) (px_s rfl) rd_e (rd_s rfl p_id) (rd_s rfl p_id) o_le o_le))) (ts_retp (d := D.int (0)) pe_c (fun env' h => by exact ⟨env', rfl, (sub_c w_id (sub_c w_id (sub_c w_an (sub_c w_an sub_n)))) env' h⟩)) (ts_c (tb_set (te_p (e := D.int) (v := (1)) pe_c) fun _ => (Nat.le_of_ble_eq_true rfl)) fun (r24 : Int) => (ts_c (tb_form (Inv := fun (s30 : (Int)) => [Sl (Eq1 (D.int x_many)), Sl (Eq1 (D.int x_size)), Sl (Eq1 (D.int s30)), An]) (l := fun (l25 : List Int) => l25) (ei := D.int) (ti_r1 (tap_c (px_s rfl) tap_n) (rds_c (rd_s rfl p_id) rds_n)) (fun (l25 : List Int) => (by exact (sub_c w_id (sub_c w_id (sub_c w_id (sub_c w_an sub_n)))))) (fun (s30 : (Int)) (x31 : Int) => (tg_n (Nat.le_of_ble_eq_true rfl))) (fun (s30 : (Int)) (x31 : Int) => (tb_map (φ := fun (r34 : Int) => (r34)) (tb_set (te_op2m (ta_m (te_op2 (tap_c (px_s rfl) (tap_c (px_o (pe_op2 (tap_c (px_s rfl) (tap_c (px_s rfl) tap_n)) (rds_c (rd_s rfl p_id) (rds_c (rd_s rfl p_id) rds_n)) o_sub)) tap_n)) (rds_c (rd_s rfl p_id) (rds_c rd_e rds_n)) o_mul) fun (r33 : Int) => (tap_c (px_o (pe_op2 (tap_c (px_s rfl) (tap_c (px_o pe_c) tap_n)) (rds_c (rd_s rfl p_id) (rds_c rd_e rds_n)) o_add)) tap_n)) (fun (r33 : Int) => (rds_c rd_e (rds_c rd_e rds_n))) (fun (r33 : Int) => o_fdiv)) fun _ => (Nat.le_of_ble_eq_true rfl)) (fun (r34 : Int) => (by exact (sub_c w_id (sub_c w_id (sub_c w_id (sub_c w_an sub_n))))))))) fun (s32 : (Int)) => (ts_retp (d := D.int s32) (pe_move rfl) (fun env' h => by exact ⟨env', rfl, (sub_c w_id (sub_c w_id (sub_c w_an (sub_c w_an sub_n)))) env' h⟩)))))) (fun r => (.f rfl (.f rfl .n)))
/-! counts_in -/
def F_counts_in (x_sums : (List Int)) : Option (List Int) := ((some (x_sums.length : Int))).bind fun (r72 : Int) => (((rng1 r72)).bind fun (l73 : List Int) => (lcMapM l73 fun (x94 : Int) => (((((rng2 x94 r72)).bind fun (l95 : List Int) => (lcMapM l95 fun (x104 : Int) => (((((((((F_sign_of (x104 - x94))).bind fun (r105 : Int) => ((F_out_of x104 x94)).map fun (r106 : Int) => (r105, r106))).bind fun (p107 : (Int × Int)) => (mulM p107.1 p107.2))).bind fun (r108 : Int) => ((atI x_sums x104)).map fun (r109 : Int) => (r108, r109))).bind fun (p110 : (Int × Int)) => (mulM p110.1 p110.2))))).bind fun (r112 : (List Int)) => (some r112.sum))))
theorem sp_counts_in (x_sums : (List Int)) : Spec G_counts_in [Eq1 ((eTO D.int) x_sums)] (F_counts_in x_sums) (fun r => (eLO D.int) r) (fun r => [Eq1 ((eTO D.int) x_sums)]) := by
  unfold F_counts_in G_counts_in b_counts_in
  exact spec_fn (Γ0 := [Sl (Eq1 ((eTO D.int) x_sums)), No, No, No]) (Γ' := fun r => [Sl (Eq1 ((eTO D.int) x_sums)), An, An, An]) ((ts_c (tb_set (te_p (e := D.int) (v := (x_sums.length : Int)) (pe_blt (tap_c (px_s rfl) tap_n) (rds_c (rd_s rfl p_id) rds_n) o_lenT)) fun _ => (Nat.le_of_ble_eq_true rfl)) fun (r72 : Int) => (ts_ret0 (te_ti (ti_r1 (tap_c (px_s rfl) tap_n) (rds_c (rd_s rfl p_id) rds_n)) (fun (l73 : List Int) => (te_lcMapM (Γw := [Sl (Eq1 ((eTO D.int) x_sums)), Sl (Eq1 (D.int r72)), No, No]) (F := fun (x94 : Int) => (((((rng2 x94 r72)).bind fun (l95 : List Int) => (lcMapM l95 fun (x104 : Int) => (((((((((F_sign_of (x104 - x94))).bind fun (r105 : Int) => ((F_out_of x104 x94)).map fun (r106 : Int) => (r105, r106))).bind fun (p107 : (Int × Int)) => (mulM p107.1 p107.2))).bind fun (r108 : Int) => ((atI x_sums x104)).map fun (r109 : Int) => (r108, r109))).bind fun (p110 : (Int × Int)) => (mulM p110.1 p110.2))))).bind fun (r112 : (List Int)) => (some r112.sum))) (ei := D.int) (eo := D.int) pi_ds (lc_n ((by exact (sub_c w_id (sub_c w_id (sub_c w_id (sub_c w_id sub_n)))))) (by exact ⟨rfl, trivial⟩)) (fun (x94 : Int) => (tg_n (Nat.le_of_ble_eq_true rfl))) (fun (x94 : Int) => (te_bltm (ta_m (te_ti (ti_r2 (tap_c (px_s rfl) (tap_c (px_s rfl) tap_n)) (rds_c (rd_s rfl p_id) (rds_c (rd_s rfl p_id) rds_n))) (fun (l95 : List Int) => (te_lcMapM (Γw := [Sl (Eq1 ((eTO D.int) x_sums)), Sl (Eq1 (D.int r72)), Sl (Eq1 (D.int x94)), No]) (F := fun (x104 : Int) => (((((((((F_sign_of (x104 - x94))).bind fun (r105 : Int) => ((F_out_of x104 x94)).map fun (r106 : Int) => (r105, r106))).bind fun (p107 : (Int × Int)) => (mulM p107.1 p107.2))).bind fun (r108 : Int) => ((atI x_sums x104)).map fun (r109 : Int) => (r108, r109))).bind fun (p110 : (Int × Int)) => (mulM p110.1 p110.2))) (ei := D.int) (eo := D.int) pi_ds (lc_n ((by exact (sub_c w_id (sub_c w_id (sub_c w_id (sub_c w_id sub_n)))))) (by exact ⟨rfl, trivial⟩)) (fun (x104 : Int) => (tg_n (Nat.le_of_ble_eq_true rfl))) (fun (x104 : Int) => (te_op2m (ta_mm (te_op2m (ta_mm (te_call (Ps := [Eq1 (D.int (x104 - x94))]) (Pd := []) (Γ' := fun (r105 : Int) => [Sl (Eq1 ((eTO D.int) x_sums)), Sl (Eq1 (D.int r72)), Sl (Eq1 (D.int x94)), Sl (Eq1 (D.int x104))]) (tap_c (px_o (pe_op2 (tap_c (px_s rfl) (tap_c (px_s rfl) tap_n)) (rds_c (rd_s rfl p_id) (rds_c (rd_s rfl p_id) rds_n)) o_sub)) tap_n) (sp_sign_of (x104 - x94)) (by exact trivial) (fun _ => by exact (cg_v e1r cg_n))) fun (r105 : Int) => (ta_m (te_call (Ps := [Eq1 (D.int x104), Eq1 (D.int x94)]) (Pd := []) (Γ' := fun (r106 : Int) => [Sl (Eq1 ((eTO D.int) x_sums)), Sl (Eq1 (D.int r72)), Sl (Eq1 (D.int x94)), Sl (Eq1 (D.int x104))]) (tap_c (px_s rfl) (tap_c (px_s rfl) tap_n)) (sp_out_of x104 x94) (by exact trivial) (fun _ => by exact (cg_i rfl (nf_eq im_int) p_id (cg_i rfl (nf_eq im_int) p_id cg_n)))) fun (r106 : Int) => tap_n)) (fun (p107 : (Int × Int)) => (rds_c rd_e (rds_c rd_e rds_n))) (fun (p107 : (Int × Int)) => o_mul)) fun (r108 : Int) => (ta_m (te_op2 (tap_c (px_s rfl) (tap_c (px_s rfl) tap_n)) (rds_c (rd_s rfl p_id) (rds_c (rd_s rfl p_id) rds_n)) o_ixT) fun (r109 : Int) => tap_n)) (fun (p110 : (Int × Int)) => (rds_c rd_e (rds_c rd_e rds_n))) (fun (p110 : (Int × Int)) => o_mul))) (fun (x104 : Int) _ => (by exact (sub_c w_id (sub_c w_id (sub_c w_id (sub_c w_id sub_n))))))))) fun (r112 : (List Int)) => tap_n) (fun (r112 : (List Int)) => (rds_c (rd_v p_lue) rds_n)) (fun (r112 : (List Int)) => (op_t (e := D.int) (v := r112.sum) o_sumL)))) (fun (x94 : Int) _ => (by exact (sub_c w_id (sub_c w_id (sub_c w_id (sub_c w_id sub_n))))))))) (fun r env' h => by exact ⟨env', rfl, (sub_c w_id (sub_c w_an (sub_c w_an (sub_c w_an sub_n)))) env' h⟩)))) (fun r => (.f rfl .n))
/-! sets_by -/
def F_sets_by (x_counts : (List Int)) : Option (List (List Int)) := ((some ([] : List Int))).bind fun (r149 : (List Int)) => (foldO (fun (s155 : ((List Int))) (x156 : (Int × Int)) => ((((repM [x156.1] x156.2)).bind fun (r158 : (List Int)) => (catM s155 r158).map fun (l160 : (List Int)) => (l160, r158))).map fun (r159 : ((List Int) × (List Int))) => (r159.1)) (enumL 0 x_counts) (r149)).bind fun (s157 : ((List Int))) => (((((rng1 ((x_counts.length : Int) - (1)))).bind fun (l161 : List Int) => (lcMapM l161 fun (x167 : Int) => (((lcFil (enumL 0 s157) (fun (x169 : (Int × Int)) => (decide (x167 < x169.2))) fun (x169 : (Int × Int)) => x169.1)).bind fun (r170 : (List Int)) => (some r170))))).bind fun (r172 : (List (List Int))) => (some r172))
theorem sp_sets_by (x_counts : (List Int)) : Spec G_sets_by [LiU D.int x_counts] (F_sets_by x_counts) (fun r => (eTO (eTO D.int)) r) (fun r => [LiU D.int x_counts]) := by
  unfold F_sets_by G_sets_by b_sets_by
  exact spec_fn (Γ0 := [Sl (LiU D.int x_counts), No, No, No, No, No]) (Γ' := fun r => [Sl (LiU D.int x_counts), An, An, An, An, An]) ((ts_c (tb_set (te_p (e := (eLO D.int)) (v := ([] : List Int)) (pe_lst tap_n rfl (Nat.le_of_ble_eq_true rfl))) fun _ => (Nat.le_of_ble_eq_true rfl)) fun (r149 : (List Int)) => (ts_c (tb_for (Inv := fun (s155 : ((List Int))) => [Sl (Eq1 (.lst false (List.map D.int x_counts))), Sl (Eq1 (.lst true (List.map D.int s155))), An, An, No, No]) (l := (enumL 0 x_counts)) (ei := (eT2 D.int D.int)) (pi_en_s rfl im_int) ((by exact (sub_c w_id (sub_c w_id (sub_c w_an (sub_c w_an (sub_c w_id (sub_c w_id sub_n)))))))) (fun (s155 : ((List Int))) (x156 : (Int × Int)) => (tg_t rfl (tgs_c (tg_n (Nat.le_of_ble_eq_true rfl)) (tgs_c (tg_n (Nat.le_of_ble_eq_true rfl)) tgs_n)))) (fun (s155 : ((List Int))) (x156 : (Int × Int)) => (tb_map (φ := fun (r159 : ((List Int) × (List Int))) => (r159.1)) (tb_expr (te_extm (e := D.int) (l := s155) (v := fun (r158 : (List Int)) => r158) im_int rfl (te_op2 (tap_c (px_o (pe_lst (tap_c (px_o (pe_use rfl (Imm.nf im_int _))) tap_n) rfl (Nat.le_of_ble_eq_true rfl))) (tap_c (px_s rfl) tap_n)) (rds_c (rd_v p_lue) (rds_c (rd_s rfl p_id) rds_n)) (o_repL (e := D.int) (l := [x156.1]) im_int)) (fun _ => rfl) (fun _ => ⟨_, rfl⟩))) (fun (r159 : ((List Int) × (List Int))) => (by exact (sub_c w_id (sub_c w_id (sub_c w_an (sub_c w_an (sub_c w_id (sub_c w_id sub_n))))))))))) fun (s157 : ((List Int))) => (ts_ret0 (te_bltm (ta_m (te_ti (ti_r1 (tap_c (px_o (pe_op2 (tap_c (px_o (pe_blt (tap_c (px_s rfl) tap_n) (rds_c (rd_s rfl p_lu) rds_n) o_lenL)) (tap_c (px_o pe_c) tap_n)) (rds_c rd_e (rds_c rd_e rds_n)) o_sub)) tap_n) (rds_c rd_e rds_n)) (fun (l161 : List Int) => (te_lcMapM (Γw := [Sl (Eq1 (.lst false (List.map D.int x_counts))), Sl (LiU D.int s157), An, An, No, No]) (F := fun (x167 : Int) => (((lcFil (enumL 0 s157) (fun (x169 : (Int × Int)) => (decide (x167 < x169.2))) fun (x169 : (Int × Int)) => x169.1)).bind fun (r170 : (List Int)) => (some r170))) (ei := D.int) (eo := (eTO D.int)) pi_ds (lc_n ((by exact (sub_c w_id (sub_c w_un (sub_c w_an (sub_c w_an (sub_c w_id (sub_c w_id sub_n)))))))) (by exact ⟨rfl, trivial⟩)) (fun (x167 : Int) => (tg_n (Nat.le_of_ble_eq_true rfl))) (fun (x167 : Int) => (te_bltm (ta_m (te_lcFil (Γw := [Sl (Eq1 (.lst false (List.map D.int x_counts))), Sl (Eq1 (.lst false (List.map D.int s157))), No, An, Sl (Eq1 (D.int x167)), No]) (p := fun (x169 : (Int × Int)) => (decide (x167 < x169.2))) (F := fun (x169 : (Int × Int)) => x169.1) (ei := (eT2 D.int D.int)) (eo := D.int) (pi_en_s rfl im_int) (lc_n ((by exact (sub_c w_id (sub_c w_id (sub_c w_id (sub_c w_an (sub_c w_id (sub_c w_id sub_n)))))))) (by exact ⟨rfl, rfl, trivial⟩)) (fun (x169 : (Int × Int)) => (tg_t rfl (tgs_c (tg_n (Nat.le_of_ble_eq_true rfl)) (tgs_c (tg_n (Nat.le_of_ble_eq_true rfl)) tgs_n)))) (fun (x169 : (Int × Int)) => (pt_e (b := (decide (x167 < x169.2))) (pe_op2 (tap_c (px_s rfl) (tap_c (px_s rfl) tap_n)) (rds_c (rd_s rfl p_id) (rds_c (rd_s rfl p_id) rds_n)) o_gt))) (fun (x169 : (Int × Int)) => (pe_use rfl (Imm.nf im_int _))) (fun (x169 : (Int × Int)) => (by exact (sub_c w_id (sub_c w_id (sub_c w_id (sub_c w_an (sub_c w_id (sub_c w_id sub_n)))))))) (fun (x169 : (Int × Int)) => (by exact (sub_c w_id (sub_c w_id (sub_c w_id (sub_c w_an (sub_c w_id (sub_c w_id sub_n))))))))) fun (r170 : (List Int)) => tap_n) (fun (r170 : (List Int)) => (rds_c (rd_v p_lue) rds_n)) (fun (r170 : (List Int)) => (op_t (e := (eTO D.int)) (v := r170) (o_tupL im_int))))) (fun (x167 : Int) _ => (by exact (sub_c w_id (sub_c w_un (sub_c w_an (sub_c w_an (sub_c w_id (sub_c w_id sub_n))))))))))) fun (r172 : (List (List Int))) => tap_n) (fun (r172 : (List (List Int))) => (rds_c (rd_v p_lue) rds_n)) (fun (r172 : (List (List Int))) => (op_t (e := (eTO (eTO D.int))) (v := r172) (o_tupL im_to)))) (fun r env' h => by exact ⟨env', rfl, (sub_c w_un (sub_c w_an (sub_c w_an (sub_c w_an (sub_c w_an (sub_c w_an sub_n)))))) env' h⟩))))) (fun r => (.f rfl .n))
/-! sums_told -/
def F_sums_told (x_sums : (List Int)) : Option U := ((F_counts_in x_sums)).bind fun (r176 : (List Int)) => ((lcFil (enumL 0 r176) (fun (x178 : (Int × Int)) => (decide (x178.2 < (0)))) fun (x178 : (Int × Int)) => x178.1)).bind fun (r179 : (List Int)) => (if (!decide (r179 = ([] : List Int))) = true then (((atI r179 (0))).map fun (r180 : Int) => (uOf (e := (eT2 D.str D.int)) im_t2 (("lack" : Str), r180))) else (((F_sets_by r176)).map fun (r181 : (List (List Int))) => (uOf (e := (eT2 D.str (eTO (eTO D.int)))) im_t2 (("sets" : Str), r181))))
theorem sp_sums_told (x_sums : (List Int)) : Spec G_sums_told [Eq1 ((eTO D.int) x_sums)] (F_sums_told x_sums) (fun r => eU r) (fun r => [Eq1 ((eTO D.int) x_sums)]) := by
  unfold F_sums_told G_sums_told b_sums_told
  exact spec_fn (Γ0 := [Sl (Eq1 ((eTO D.int) x_sums)), No, No, No, No]) (Γ' := fun r => [Sl (Eq1 ((eTO D.int) x_sums)), An, An, An, An]) ((ts_c (tb_set (te_call (Ps := [Eq1 ((eTO D.int) x_sums)]) (Pd := []) (Γ' := fun (r176 : (List Int)) => [Sl (Eq1 ((eTO D.int) x_sums)), No, No, No, No]) (tap_c (px_s rfl) tap_n) (sp_counts_in x_sums) (by exact trivial) (fun _ => by exact (cg_i rfl (nf_eq im_to) p_id cg_n))) fun _ => (Nat.le_of_ble_eq_true rfl)) fun (r176 : (List Int)) => (ts_c (tb_set (te_lcFil (Γw := [Sl (Eq1 ((eTO D.int) x_sums)), Sl (Eq1 (.lst false (List.map D.int r176))), No, No, No]) (p := fun (x178 : (Int × Int)) => (decide (x178.2 < (0)))) (F := fun (x178 : (Int × Int)) => x178.1) (ei := (eT2 D.int D.int)) (eo := D.int) (pi_en_o rfl im_int) (lc_n ((by exact (sub_c w_id (sub_c w_id (sub_c w_id (sub_c w_id (sub_c w_id sub_n))))))) (by exact ⟨rfl, rfl, trivial⟩)) (fun (x178 : (Int × Int)) => (tg_t rfl (tgs_c (tg_n (Nat.le_of_ble_eq_true rfl)) (tgs_c (tg_n (Nat.le_of_ble_eq_true rfl)) tgs_n)))) (fun (x178 : (Int × Int)) => (pt_e (b := (decide (x178.2 < (0)))) (pe_op2 (tap_c (px_s rfl) (tap_c (px_o pe_c) tap_n)) (rds_c (rd_s rfl p_id) (rds_c rd_e rds_n)) o_lt))) (fun (x178 : (Int × Int)) => (pe_use rfl (Imm.nf im_int _))) (fun (x178 : (Int × Int)) => (by exact (sub_c w_id (sub_c w_id (sub_c w_id (sub_c w_id (sub_c w_id sub_n))))))) (fun (x178 : (Int × Int)) => (by exact (sub_c w_id (sub_c w_id (sub_c w_id (sub_c w_id (sub_c w_id sub_n)))))))) fun _ => (Nat.le_of_ble_eq_true rfl)) fun (r179 : (List Int)) => (ts_ret0 (te_ifp (pt_e (b := (!decide (r179 = ([] : List Int)))) (pe_op2 (tap_c (px_s rfl) (tap_c (px_o (pe_lst tap_n rfl (Nat.le_of_ble_eq_true rfl))) tap_n)) (rds_c (rd_s rfl p_lu) (rds_c (rd_v p_lue) rds_n)) (o_neL (e := D.int) (x := r179) (y := ([] : List Int)) eqd_int (Nat.le_of_ble_eq_true rfl)))) (te_map (φ := fun (r180 : Int) => (uOf (e := (eT2 D.str D.int)) im_t2 (("lack" : Str), r180))) (e' := eU) (Γ2 := fun _ => [Sl (Eq1 ((eTO D.int) x_sums)), Sl (Eq1 (.lst false (List.map D.int r176))), Sl (Eq1 (.lst true (List.map D.int r179))), No, No]) (te_tup (e := fun (r180 : Int) => (eT2 D.str D.int) (("lack" : Str), r180)) (ta_p (px_o pe_c) (ta_m (te_op2 (tap_c (px_s rfl) (tap_c (px_o pe_c) tap_n)) (rds_c (rd_s rfl p_lu) (rds_c rd_e rds_n)) (o_ixL im_int)) fun (r180 : Int) => tap_n)) (fun _ => rfl) (fun (r180 : Int) => (fz_i (Imm.nf (e := D.str) im_str ("lack" : Str)) (fz_i (Imm.nf (e := D.int) im_int r180) fz_n))) (fun _ => (Nat.le_of_ble_eq_true rfl)) (fun _ => rfl)) (fun _ => rfl) (fun _ => rfl)) (te_map (φ := fun (r181 : (List (List Int))) => (uOf (e := (eT2 D.str (eTO (eTO D.int)))) im_t2 (("sets" : Str), r181))) (e' := eU) (Γ2 := fun _ => [Sl (Eq1 ((eTO D.int) x_sums)), Sl (Eq1 (.lst false (List.map D.int r176))), Sl (Eq1 (.lst true (List.map D.int r179))), No, No]) (te_tup (e := fun (r181 : (List (List Int))) => (eT2 D.str (eTO (eTO D.int))) (("sets" : Str), r181)) (ta_p (px_o pe_c) (ta_m (te_call (Ps := [LiU D.int r176]) (Pd := []) (Γ' := fun (r181 : (List (List Int))) => [Sl (Eq1 ((eTO D.int) x_sums)), Sl (Eq1 (.lst false (List.map D.int r176))), Sl (Eq1 (.lst true (List.map D.int r179))), No, No]) (tap_c (px_s rfl) tap_n) (sp_sets_by r176) (by exact trivial) (fun _ => by exact (cg_i rfl nf_lf p_lu cg_n))) fun (r181 : (List (List Int))) => tap_n)) (fun _ => rfl) (fun (r181 : (List (List Int))) => (fz_i (Imm.nf (e := D.str) im_str ("sets" : Str)) (fz_i (Imm.nf (e := (eTO (eTO D.int))) im_to r181) fz_n))) (fun _ => (Nat.le_of_ble_eq_true rfl)) (fun _ => rfl)) (fun _ => rfl) (fun _ => rfl))) (fun r env' h => by exact ⟨env', rfl, (sub_c w_id (sub_c w_an (sub_c w_an (sub_c w_an (sub_c w_an sub_n))))) env' h⟩))))) (fun r => (.f rfl .n))
/-! is_whole -/
def F_is_whole (x_thing : Int) (x_least : Unit) (x_most : Unit) : Option Bool := some true
theorem sp_is_whole (x_thing : Int) (x_least : Unit) (x_most : Unit) : Spec G_is_whole [Eq1 (D.int x_thing), Eq1 (eN x_least), Eq1 (eN x_most)] (F_is_whole x_thing x_least x_most) (fun r => D.bl r) (fun r => [Eq1 (D.int x_thing), Eq1 (eN x_least), Eq1 (eN x_most)]) := by
  unfold F_is_whole G_is_whole b_is_whole
  exact spec_fn (Γ0 := [Sl (Eq1 (D.int x_thing)), Sl (Eq1 (eN x_least)), Sl (Eq1 (eN x_most))]) (Γ' := fun r => [Sl (Eq1 (D.int x_thing)), Sl (Eq1 (eN x_least)), Sl (Eq1 (eN x_most))]) ((ts_cF (pt_orF (pt_n (b := true) (pt_e (b := true) (pe_blt (tap_c (px_s rfl) (tap_c (px_o pe_c) tap_n)) (rds_c (rd_s rfl p_id) (rds_c rd_e rds_n)) (op2_eq (d := .bl true) (by rfl))))) (pt_e (b := false) (pe_blt (tap_c (px_s rfl) (tap_c (px_o pe_c) tap_n)) (rds_c (rd_s rfl p_id) (rds_c rd_e rds_n)) (op2_eq (d := .bl false) (by rfl))))) (ts_cF (pt_andF (pt_e (b := false) (pe_op2 (tap_c (px_s rfl) (tap_c (px_o pe_c) tap_n)) (rds_c (rd_s rfl p_id) (rds_c rd_e rds_n)) (op2_eq (d := .bl false) (by rfl))))) (ts_retp (d := D.bl true) (pe_orT (pe_op2 (tap_c (px_s rfl) (tap_c (px_o pe_c) tap_n)) (rds_c (rd_s rfl p_id) (rds_c rd_e rds_n)) (op2_eq (d := .bl true) (by rfl)))) (fun env' h => by exact ⟨env', rfl, (sub_c w_id (sub_c w_id (sub_c w_id sub_n))) env' h⟩))))) (fun r => (.f rfl (.f rfl (.f rfl .n))))
/-! need_sums -/
def F_need_sums (x_thing : (List Int)) : Option Unit := (if (!((decide ((2) ≤ (x_thing.length : Int))) && (decide ((x_thing.length : Int) ≤ ((6) + (1)))))) = true then none else some ()).bind fun (r192 : (Unit)) => ((((lcMapM x_thing fun (x196 : Int) => (((F_is_whole x196 () ())).bind fun a => if a = true then (some (decide ((x196.natAbs : Int) < (1000000000000000000000000000000)))) else some false))).bind fun (r199 : (List Bool)) => (some (r199.all id)))).bind fun (r200 : Bool) => if (!r200) = true then none else some ()
theorem sp_need_sums (x_thing : (List Int)) : Spec G_need_sums [Eq1 ((eTO D.int) x_thing)] (F_need_sums x_thing) (fun r => eN r) (fun r => [Eq1 ((eTO D.int) x_thing)]) := by
  unfold F_need_sums G_need_sums b_need_sums
  exact spec_fnN (Γ0 := [Sl (Eq1 ((eTO D.int) x_thing)), No]) (Γ' := fun r => [Sl (Eq1 ((eTO D.int) x_thing)), An]) ((tb_c (tb_ifp (Γ' := fun (r192 : (Unit)) => [Sl (Eq1 ((eTO D.int) x_thing)), No]) (pt_orF (pt_n (b := true) (pt_e (b := true) (pe_blt (tap_c (px_s rfl) (tap_c (px_o pe_c) tap_n)) (rds_c (rd_s rfl p_id) (rds_c rd_e rds_n)) (op2_eq (d := .bl true) (by rfl))))) (pt_n (b := ((decide ((2) ≤ (x_thing.length : Int))) && (decide ((x_thing.length : Int) ≤ ((6) + (1)))))) (pt_e (b := ((decide ((2) ≤ (x_thing.length : Int))) && (decide ((x_thing.length : Int) ≤ ((6) + (1)))))) (pe_chain (px_o pe_c) (px_o (pe_blt (tap_c (px_s rfl) tap_n) (rds_c (rd_s rfl p_id) rds_n) o_lenT)) (px_o (pe_op2 (tap_c (px_o pe_c) (tap_c (px_o pe_c) tap_n)) (rds_c rd_e (rds_c rd_e rds_n)) o_add)) rd_e rd_e rd_e o_le o_le)))) tb_nv (tb_0 ((by exact (sub_c w_id (sub_c w_id sub_n)))))) fun (r192 : (Unit)) => (tb_if (tt_n (tt_e (b := fun (r200 : Bool) => r200) (te_bltm (ta_m (te_lcMapM (Γw := [Sl (Eq1 ((eTO D.int) x_thing)), No]) (F := fun (x196 : Int) => (((F_is_whole x196 () ())).bind fun a => if a = true then (some (decide ((x196.natAbs : Int) < (1000000000000000000000000000000)))) else some false)) (ei := D.int) (eo := D.bl) (pi_st rfl) (lc_n ((by exact (sub_c w_id (sub_c w_id sub_n)))) (by exact ⟨rfl, trivial⟩)) (fun (x196 : Int) => (tg_n (Nat.le_of_ble_eq_true rfl))) (fun (x196 : Int) => (te_and (te_call (Ps := [Eq1 (D.int x196)]) (Pd := [Eq1 (eN ()), Eq1 (eN ())]) (Γ' := fun (r197 : Bool) => [Sl (Eq1 ((eTO D.int) x_thing)), Sl (Eq1 (D.int x196))]) (tap_c (px_s rfl) tap_n) (sp_is_whole x196 () ()) (by exact ⟨rfl, rfl, trivial⟩) (fun _ => by exact (cg_i rfl (nf_eq im_int) p_id cg_n))) (te_p (e := D.bl) (v := (decide ((x196.natAbs : Int) < (1000000000000000000000000000000)))) (pe_op2 (tap_c (px_o (pe_blt (tap_c (px_s rfl) tap_n) (rds_c (rd_s rfl p_id) rds_n) o_abs)) (tap_c (px_o pe_c) tap_n)) (rds_c rd_e (rds_c rd_e rds_n)) o_lt)))) (fun (x196 : Int) _ => (by exact (sub_c w_id (sub_c w_id sub_n))))) fun (r199 : (List Bool)) => tap_n) (fun (r199 : (List Bool)) => (rds_c (rd_v p_lue) rds_n)) (fun (r199 : (List Bool)) => (op_t (e := D.bl) (v := (r199.all id)) o_all))) (fun _ => rfl))) (fun (r200 : Bool) => tb_nv) (fun (r200 : Bool) => (tb_0 ((by exact (sub_c w_id (sub_c w_an sub_n))))))))) (fun r => (.f rfl .n))
/-! is_whole_1 -/
def F_is_whole_1 (x_thing : Int) (x_least : Int) (x_most : Int) : Option Bool := if (decide (x_thing < x_least)) = true then some false else some (decide (x_thing ≤ x_most))
theorem sp_is_whole_1 (x_thing : Int) (x_least : Int) (x_most : Int) : Spec G_is_whole [Eq1 (D.int x_thing), Eq1 (D.int x_least), Eq1 (D.int x_most)] (F_is_whole_1 x_thing x_least x_most) (fun r => D.bl r) (fun r => [Eq1 (D.int x_thing), Eq1 (D.int x_least), Eq1 (D.int x_most)]) := by
  unfold F_is_whole_1 G_is_whole b_is_whole
  exact spec_fn (Γ0 := [Sl (Eq1 (D.int x_thing)), Sl (Eq1 (D.int x_least)), Sl (Eq1 (D.int x_most))]) (Γ' := fun r => [Sl (Eq1 (D.int x_thing)), Sl (Eq1 (D.int x_least)), Sl (Eq1 (D.int x_most))]) ((ts_cF (pt_orF (pt_n (b := true) (pt_e (b := true) (pe_blt (tap_c (px_s rfl) (tap_c (px_o pe_c) tap_n)) (rds_c (rd_s rfl p_id) (rds_c rd_e rds_n)) (op2_eq (d := .bl true) (by rfl))))) (pt_e (b := false) (pe_blt (tap_c (px_s rfl) (tap_c (px_o pe_c) tap_n)) (rds_c (rd_s rfl p_id) (rds_c rd_e rds_n)) (op2_eq (d := .bl false) (by rfl))))) (ts_if0p ir_si (pt_andT (pt_e (b := true) (pe_op2 (tap_c (px_s rfl) (tap_c (px_o pe_c) tap_n)) (rds_c (rd_s rfl p_id) (rds_c rd_e rds_n)) (op2_eq (d := .bl true) (by rfl)))) (pt_e (b := (decide (x_thing < x_least))) (pe_op2 (tap_c (px_s rfl) (tap_c (px_s rfl) tap_n)) (rds_c (rd_s rfl p_id) (rds_c (rd_s rfl p_id) rds_n)) o_lt))) (ts_retp (d := D.bl false) pe_c (fun env' h => by exact ⟨env', rfl, (sub_c w_id (sub_c w_id (sub_c w_id sub_n))) env' h⟩)) (ts_retp (d := D.bl (decide (x_thing ≤ x_most))) (pe_orF (pe_op2 (tap_c (px_s rfl) (tap_c (px_o pe_c) tap_n)) (rds_c (rd_s rfl p_id) (rds_c rd_e rds_n)) (op2_eq (d := .bl false) (by rfl))) (pe_op2 (tap_c (px_s rfl) (tap_c (px_s rfl) tap_n)) (rds_c (rd_s rfl p_id) (rds_c (rd_s rfl p_id) rds_n)) o_le)) (fun env' h => by exact ⟨env', rfl, (sub_c w_id (sub_c w_id (sub_c w_id sub_n))) env' h⟩))))) (fun r => (.f rfl (.f rfl (.f rfl .n))))
/-! need_things -/
def F_need_things (x_things : Int) : Option Unit := ((F_is_whole_1 x_things (0) (30))).bind fun (r204 : Bool) => if (!r204) = true then none else some ()
theorem sp_need_things (x_things : Int) : Spec G_need_things [Eq1 (D.int x_things)] (F_need_things x_things) (fun r => eN r) (fun r => [Eq1 (D.int x_things)]) := by
  unfold F_need_things G_need_things b_need_things
  exact spec_fnN (Γ0 := [Sl (Eq1 (D.int x_things))]) (Γ' := fun r => [Sl (Eq1 (D.int x_things))]) ((tb_if (tt_n (tt_e (b := fun (r204 : Bool) => r204) (te_callK (Ps := [Eq1 (D.int x_things)]) (Pd := [Eq1 (D.int (0)), Eq1 (D.int (30))]) (Γ' := fun _ => [Sl (Eq1 (D.int x_things))]) (tap_c (px_s rfl) tap_n) (tap_c (px_o pe_c) (tap_c (px_o pe_c) tap_n)) rfl rfl rfl (sp_is_whole_1 x_things (0) (30)) (by exact ⟨rfl, rfl, trivial⟩) (fun _ => by exact (cg_i rfl (nf_eq im_int) p_id cg_n))) (fun _ => rfl))) (fun (r204 : Bool) => tb_nv) (fun (r204 : Bool) => (tb_0 ((by exact (sub_c w_id sub_n))))))) (fun r => (.f rfl .n))
/-! sums_paper -/
def F_sums_paper (x_sums : (List Int)) : Option U := ((F_need_sums x_sums)).bind fun (r207 : Unit) => ((((atI x_sums (0))).bind fun (r208 : Int) => (F_need_things r208))).bind fun (r209 : Unit) => (F_sums_told x_sums)
theorem sp_sums_paper (x_sums : (List Int)) : Spec G_sums_paper [Eq1 ((eTO D.int) x_sums)] (F_sums_paper x_sums) (fun r => eU r) (fun r => [Eq1 ((eTO D.int) x_sums)]) := by
  unfold F_sums_paper G_sums_paper b_sums_paper
  exact spec_fn (Γ0 := [Sl (Eq1 ((eTO D.int) x_sums))]) (Γ' := fun r => [Sl (Eq1 ((eTO D.int) x_sums))]) ((ts_c (tb_expr (te_call (Ps := [Eq1 ((eTO D.int) x_sums)]) (Pd := []) (Γ' := fun (r207 : Unit) => [Sl (Eq1 ((eTO D.int) x_sums))]) (tap_c (px_s rfl) tap_n) (sp_need_sums x_sums) (by exact trivial) (fun _ => by exact (cg_i rfl (nf_eq im_to) p_id cg_n)))) fun (r207 : Unit) => (ts_c (tb_expr (te_callb (Ps := fun (r208 : Int) => [Eq1 (D.int r208)]) (Pd := []) (Γ' := fun (r209 : Unit) => [Sl (Eq1 ((eTO D.int) x_sums))]) (ta_m (te_op2 (tap_c (px_s rfl) (tap_c (px_o pe_c) tap_n)) (rds_c (rd_s rfl p_id) (rds_c rd_e rds_n)) o_ixT) fun (r208 : Int) => tap_n) (fun (r208 : Int) => (sp_need_things r208)) (by exact trivial) (fun _ _ => by exact (cg_v e1r cg_n)))) fun (r209 : Unit) => (ts_ret0 (te_call (Ps := [Eq1 ((eTO D.int) x_sums)]) (Pd := []) (Γ' := fun (r210 : U) => [Sl (Eq1 ((eTO D.int) x_sums))]) (tap_c (px_s rfl) tap_n) (sp_sums_told x_sums) (by exact trivial) (fun _ => by exact (cg_i rfl (nf_eq im_to) p_id cg_n))) (fun r env' h => by exact ⟨env', rfl, (sub_c w_id sub_n) env' h⟩))))) (fun r => (.f rfl .n))
/-! is_whole_2 -/
def F_is_whole_2 (x_thing : U) (x_least : Int) (x_most : Int) : Option Bool := ((((((opB (dIsi x_thing.1 (.ty "int")))).map fun (r229 : Bool) => (!r229))).bind fun a => if a = true then some true else (opB (dIsi x_thing.1 (.ty "bool"))))).bind fun (r231 : Bool) => if r231 = true then some false else ((opB (dLt x_thing.1 (D.int x_least)))).bind fun (r232 : Bool) => if r232 = true then some false else (opB (dLe x_thing.1 (D.int x_most)))
theorem sp_is_whole_2 (x_thing : U) (x_least : Int) (x_most : Int) : Spec G_is_whole [Eq1 (eU x_thing), Eq1 (D.int x_least), Eq1 (D.int x_most)] (F_is_whole_2 x_thing x_least x_most) (fun r => D.bl r) (fun r => [Eq1 (eU x_thing), Eq1 (D.int x_least), Eq1 (D.int x_most)]) := by
  unfold F_is_whole_2 G_is_whole b_is_whole
  exact spec_fn (Γ0 := [Sl (Eq1 (eU x_thing)), Sl (Eq1 (D.int x_least)), Sl (Eq1 (D.int x_most))]) (Γ' := fun r => [Sl (Eq1 (eU x_thing)), Sl (Eq1 (D.int x_least)), Sl (Eq1 (D.int x_most))]) ((ts_if0 ir_si (tt_or (tt_map (tt_n (tt_e (b := fun (r229 : Bool) => r229) (te_blt (tap_c (px_s rfl) (tap_c (px_o pe_c) tap_n)) (rds_c (rd_s rfl p_id) (rds_c rd_e rds_n)) o_dB) (fun _ => rfl)))) (tt_e (b := fun (r230 : Bool) => r230) (te_blt (tap_c (px_s rfl) (tap_c (px_o pe_c) tap_n)) (rds_c (rd_s rfl p_id) (rds_c rd_e rds_n)) o_dB) (fun _ => rfl))) (fun (r231 : Bool) => (ts_retp (d := D.bl false) pe_c (fun env' h => by exact ⟨env', rfl, (sub_c w_id (sub_c w_id (sub_c w_id sub_n))) env' h⟩))) (fun (r231 : Bool) => (ts_if0 ir_si (tt_andT (pt_e (b := true) (pe_op2 (tap_c (px_s rfl) (tap_c (px_o pe_c) tap_n)) (rds_c (rd_s rfl p_id) (rds_c rd_e rds_n)) (op2_eq (d := .bl true) (by rfl)))) (tt_e (b := fun (r232 : Bool) => r232) (te_op2 (tap_c (px_s rfl) (tap_c (px_s rfl) tap_n)) (rds_c (rd_s rfl p_id) (rds_c (rd_s rfl p_id) rds_n)) o_dB) (fun _ => rfl))) (fun (r232 : Bool) => (ts_retp (d := D.bl false) pe_c (fun env' h => by exact ⟨env', rfl, (sub_c w_id (sub_c w_id (sub_c w_id sub_n))) env' h⟩))) (fun (r232 : Bool) => (ts_ret0 (te_orF (pe_op2 (tap_c (px_s rfl) (tap_c (px_o pe_c) tap_n)) (rds_c (rd_s rfl p_id) (rds_c rd_e rds_n)) (op2_eq (d := .bl false) (by rfl))) (te_op2 (tap_c (px_s rfl) (tap_c (px_s rfl) tap_n)) (rds_c (rd_s rfl p_id) (rds_c (rd_s rfl p_id) rds_n)) o_dB)) (fun r env' h => by exact ⟨env', rfl, (sub_c w_id (sub_c w_id (sub_c w_id sub_n))) env' h⟩))))))) (fun r => (.f rfl (.f rfl (.f rfl .n))))
/-! are_sets -/
def F_are_sets (x_things : Int) (x_thing : U) : Option Bool := ((opB (dIsi x_thing.1 (.ty "tuple")))).bind fun (r288 : Bool) => if (!r288) = true then some false else ((itU x_thing)).bind fun (l289 : List U) => orR (forF (fun (s309 : (Unit)) (x310 : U) => (((((((opB (dIsi x310.1 (.ty "tuple")))).map fun (r312 : Bool) => (!r312))).bind fun a => if a = true then some true else (((((((itU x310)).bind fun (l313 : List U) => (lcMapM l313 fun (x316 : U) => (F_is_whole_2 x316 (0) (x_things - (1)))))).bind fun (r318 : (List Bool)) => (some (r318.all id)))).map fun (r319 : Bool) => (!r319)))).bind fun (r320 : Bool) => if r320 = true then some (Fl.rt false) else ((((((((opU (dSl x310.1 (some (1)) none))).bind fun (r321 : U) => zipU x310 r321)).bind fun (l322 : List (U × U)) => (lcMapM l322 fun (x325 : (U × U)) => (opB (dLt x325.1.1 x325.2.1))))).bind fun (r327 : (List Bool)) => (some (r327.all id)))).bind fun (r328 : Bool) => if (!r328) = true then some (Fl.rt false) else some (Fl.go ()) : Option (Fl (Unit) Bool))) l289 ()) (fun (s311 : (Unit)) => some true) (fun r329 => r329)
theorem sp_are_sets (x_things : Int) (x_thing : U) : Spec G_are_sets [Eq1 (D.int x_things), Eq1 (eU x_thing)] (F_are_sets x_things x_thing) (fun r => D.bl r) (fun r => [Eq1 (D.int x_things), Eq1 (eU x_thing)]) := by
  unfold F_are_sets G_are_sets b_are_sets
  exact spec_fn (Γ0 := [Sl (Eq1 (D.int x_things)), Sl (Eq1 (eU x_thing)), No, No, No, No]) (Γ' := fun r => [Sl (Eq1 (D.int x_things)), Sl (Eq1 (eU x_thing)), An, An, An, An]) ((ts_if0 ir_si (tt_n (tt_e (b := fun (r288 : Bool) => r288) (te_blt (tap_c (px_s rfl) (tap_c (px_o pe_c) tap_n)) (rds_c (rd_s rfl p_id) (rds_c rd_e rds_n)) o_dB) (fun _ => rfl))) (fun (r288 : Bool) => (ts_retp (d := D.bl false) pe_c (fun env' h => by exact ⟨env', rfl, (sub_c w_id (sub_c w_id (sub_c w_an (sub_c w_an (sub_c w_an (sub_c w_an sub_n)))))) env' h⟩))) (fun (r288 : Bool) => (ts_form (ι := fun r329 => r329) (Inv := fun (s309 : (Unit)) => [Sl (Eq1 (D.int x_things)), Sl (Eq1 (eU x_thing)), An, No, No, No]) (l := fun (l289 : List U) => l289) (ei := eU) (e := fun r => D.bl r) (Γr := fun r => [Sl (Eq1 (D.int x_things)), Sl (Eq1 (eU x_thing)), An, An, An, An]) (ti_u (pe_use rfl (Imm.nf im_u _))) (fun (l289 : List U) => (by exact (sub_c w_id (sub_c w_id (sub_c w_an (sub_c w_id (sub_c w_id (sub_c w_id sub_n)))))))) (fun (s309 : (Unit)) (x310 : U) => (tg_n (Nat.le_of_ble_eq_true rfl))) (fun (s309 : (Unit)) (x310 : U) => (ts_if0 si_id (tt_or (tt_map (tt_n (tt_e (b := fun (r312 : Bool) => r312) (te_blt (tap_c (px_s rfl) (tap_c (px_o pe_c) tap_n)) (rds_c (rd_s rfl p_id) (rds_c rd_e rds_n)) o_dB) (fun _ => rfl)))) (tt_map (tt_n (tt_e (b := fun (r319 : Bool) => r319) (te_bltm (ta_m (te_ti (ti_us rfl) (fun (l313 : List U) => (te_lcMapM (Γw := [Sl (Eq1 (D.int x_things)), Sl (Eq1 (eU x_thing)), Sl (Eq1 (eU x310)), No, No, No]) (F := fun (x316 : U) => (F_is_whole_2 x316 (0) (x_things - (1)))) (ei := eU) (eo := D.bl) pi_ds (lc_n ((by exact (sub_c w_id (sub_c w_id (sub_c w_id (sub_c w_id (sub_c w_id (sub_c w_id sub_n)))))))) (by exact ⟨rfl, trivial⟩)) (fun (x316 : U) => (tg_n (Nat.le_of_ble_eq_true rfl))) (fun (x316 : U) => (te_callK (Ps := [Eq1 (eU x316)]) (Pd := [Eq1 (D.int (0)), Eq1 (D.int (x_things - (1)))]) (Γ' := fun _ => [Sl (Eq1 (D.int x_things)), Sl (Eq1 (eU x_thing)), Sl (Eq1 (eU x310)), Sl (Eq1 (eU x316)), No, No]) (tap_c (px_s rfl) tap_n) (tap_c (px_o pe_c) (tap_c (px_o (pe_op2 (tap_c (px_s rfl) (tap_c (px_o pe_c) tap_n)) (rds_c (rd_s rfl p_id) (rds_c rd_e rds_n)) o_sub)) tap_n)) rfl rfl rfl (sp_is_whole_2 x316 (0) (x_things - (1))) (by exact ⟨rfl, rfl, trivial⟩) (fun _ => by exact (cg_i rfl (nf_eq im_u) p_id cg_n)))) (fun (x316 : U) _ => (by exact (sub_c w_id (sub_c w_id (sub_c w_id (sub_c w_id (sub_c w_id (sub_c w_id sub_n))))))))))) fun (r318 : (List Bool)) => tap_n) (fun (r318 : (List Bool)) => (rds_c (rd_v p_lue) rds_n)) (fun (r318 : (List Bool)) => (op_t (e := D.bl) (v := (r318.all id)) o_all))) (fun _ => rfl))))) (fun (r320 : Bool) => (ts_retp (d := D.bl false) pe_c (fun env' h => by exact ⟨⟨env', rfl, (sub_c w_id (sub_c w_id (sub_c w_an (sub_c w_an (sub_c w_an (sub_c w_an sub_n)))))) env' h⟩, trivial⟩))) (fun (r320 : Bool) => (ts_if (tt_n (tt_e (b := fun (r328 : Bool) => r328) (te_bltm (ta_m (te_ti (ti_zipU (Γ' := fun _ => [Sl (Eq1 (D.int x_things)), Sl (Eq1 (eU x_thing)), Sl (Eq1 (eU x310)), No, No, No]) (x := fun (r321 : U) => x310) (y := fun (r321 : U) => r321) (ta_p (px_s rfl) (ta_m (te_slU (px_s rfl) (rd_s rfl p_id) (to_p (px_o pe_c) rd_e) to_n) fun (r321 : U) => tap_n)) (fun _ => rfl) (fun _ => (rd_s rfl p_id)) (fun _ => rd_e)) (fun (l322 : List (U × U)) => (te_lcMapM (Γw := [Sl (Eq1 (D.int x_things)), Sl (Eq1 (eU x_thing)), Sl (Eq1 (eU x310)), No, No, No]) (F := fun (x325 : (U × U)) => (opB (dLt x325.1.1 x325.2.1))) (ei := (eT2 eU eU)) (eo := D.bl) pi_ds (lc_n ((by exact (sub_c w_id (sub_c w_id (sub_c w_id (sub_c w_id (sub_c w_id (sub_c w_id sub_n)))))))) (by exact ⟨rfl, rfl, trivial⟩)) (fun (x325 : (U × U)) => (tg_t rfl (tgs_c (tg_n (Nat.le_of_ble_eq_true rfl)) (tgs_c (tg_n (Nat.le_of_ble_eq_true rfl)) tgs_n)))) (fun (x325 : (U × U)) => (te_op2 (tap_c (px_s rfl) (tap_c (px_s rfl) tap_n)) (rds_c (rd_s rfl p_id) (rds_c (rd_s rfl p_id) rds_n)) o_dB)) (fun (x325 : (U × U)) _ => (by exact (sub_c w_id (sub_c w_id (sub_c w_id (sub_c w_id (sub_c w_id (sub_c w_id sub_n))))))))))) fun (r327 : (List Bool)) => tap_n) (fun (r327 : (List Bool)) => (rds_c (rd_v p_lue) rds_n)) (fun (r327 : (List Bool)) => (op_t (e := D.bl) (v := (r327.all id)) o_all))) (fun _ => rfl))) (fun (r328 : Bool) => (ts_retp (d := D.bl false) pe_c (fun env' h => by exact ⟨env', rfl, (sub_c w_id (sub_c w_id (sub_c w_an (sub_c w_an (sub_c w_an (sub_c w_an sub_n)))))) env' h⟩))) (fun (r328 : Bool) => (ts_0 (fun env' h => by exact ⟨env', .inl rfl, (sub_c w_id (sub_c w_id (sub_c w_an (sub_c w_id (sub_c w_id (sub_c w_id sub_n)))))) env' h⟩))))))) (fun r env' h => by exact ⟨env', rfl, h⟩) (fun (s311 : (Unit)) => (ts_retp (d := D.bl true) pe_c (fun env' h => by exact ⟨env', rfl, (sub_c w_id (sub_c w_id (sub_c w_an (sub_c w_an (sub_c w_an (sub_c w_an sub_n)))))) env' h⟩))))))) (fun r => (.f rfl (.f rfl .n)))
/-! counts_by -/
def F_counts_by (x_things : Int) (x_sets : U) : Option (List Int) := ((((rng1 x_things)).bind fun (l363 : List Int) => (lcMapM l363 fun (x372 : Int) => (((((itU x_sets)).bind fun (l373 : List U) => (lcFilM l373 (fun (x376 : U) => (opB (dIn false (D.int x372) x376.1))) fun (x376 : U) => (some x376)))).bind fun (r378 : (List U)) => (some (r378.length : Int)))))).bind fun (r380 : (List Int)) => (((((((opI (dLen x_sets.1))).bind fun (r381 : Int) => (some (r381 + (1))))).bind fun (r382 : Int) => rng1 r382)).bind fun (l383 : List Int) => (lcMap l383 fun (x385 : Int) => ((r380.count x385 : Nat) : Int)))
theorem sp_counts_by (x_things : Int) (x_sets : U) : Spec G_counts_by [Eq1 (D.int x_things), Eq1 (eU x_sets)] (F_counts_by x_things x_sets) (fun r => (eLO D.int) r) (fun r => [Eq1 (D.int x_things), Eq1 (eU x_sets)]) := by
  unfold F_counts_by G_counts_by b_counts_by
  exact spec_fn (Γ0 := [Sl (Eq1 (D.int x_things)), Sl (Eq1 (eU x_sets)), No, No, No, No]) (Γ' := fun r => [Sl (Eq1 (D.int x_things)), Sl (Eq1 (eU x_sets)), An, An, An, An]) ((ts_c (tb_set (te_ti (ti_r1 (tap_c (px_s rfl) tap_n) (rds_c (rd_s rfl p_id) rds_n)) (fun (l363 : List Int) => (te_lcMapM (Γw := [Sl (Eq1 (D.int x_things)), Sl (Eq1 (eU x_sets)), No, No, No, No]) (F := fun (x372 : Int) => (((((itU x_sets)).bind fun (l373 : List U) => (lcFilM l373 (fun (x376 : U) => (opB (dIn false (D.int x372) x376.1))) fun (x376 : U) => (some x376)))).bind fun (r378 : (List U)) => (some (r378.length : Int)))) (ei := D.int) (eo := D.int) pi_ds (lc_n ((by exact (sub_c w_id (sub_c w_id (sub_c w_id (sub_c w_id (sub_c w_id (sub_c w_id sub_n)))))))) (by exact ⟨rfl, trivial⟩)) (fun (x372 : Int) => (tg_n (Nat.le_of_ble_eq_true rfl))) (fun (x372 : Int) => (te_bltm (ta_m (te_ti (ti_us rfl) (fun (l373 : List U) => (te_lcFilM (Γw := [Sl (Eq1 (D.int x_things)), Sl (Eq1 (eU x_sets)), No, Sl (Eq1 (D.int x372)), No, No]) (p := fun (x376 : U) => (opB (dIn false (D.int x372) x376.1))) (F := fun (x376 : U) => (some x376)) (ei := eU) (eo := eU) pi_ds (lc_n ((by exact (sub_c w_id (sub_c w_id (sub_c w_id (sub_c w_id (sub_c w_id (sub_c w_id sub_n)))))))) (by exact ⟨rfl, trivial⟩)) (fun (x376 : U) => (tg_n (Nat.le_of_ble_eq_true rfl))) (fun (x376 : U) => (tt_e (b := fun (r377 : Bool) => r377) (te_op2 (tap_c (px_s rfl) (tap_c (px_s rfl) tap_n)) (rds_c (rd_s rfl p_id) (rds_c (rd_s rfl p_id) rds_n)) o_dB) (fun _ => rfl))) (fun (x376 : U) => (te_p (e := eU) (v := x376) (pe_use rfl (Imm.nf im_u _)))) (fun (x376 : U) _ => (by exact (sub_c w_id (sub_c w_id (sub_c w_id (sub_c w_id (sub_c w_id (sub_c w_id sub_n)))))))) (fun (x376 : U) => (by exact (sub_c w_id (sub_c w_id (sub_c w_id (sub_c w_id (sub_c w_id (sub_c w_id sub_n))))))))))) fun (r378 : (List U)) => tap_n) (fun (r378 : (List U)) => (rds_c (rd_v p_lue) rds_n)) (fun (r378 : (List U)) => (op_t (e := D.int) (v := (r378.length : Int)) o_lenL)))) (fun (x372 : Int) _ => (by exact (sub_c w_id (sub_c w_id (sub_c w_id (sub_c w_id (sub_c w_id (sub_c w_id sub_n))))))))))) fun _ => (Nat.le_of_ble_eq_true rfl)) fun (r380 : (List Int)) => (ts_ret0 (te_ti (ti_r1m (ta_m (te_op2m (ta_m (te_blt (tap_c (px_s rfl) tap_n) (rds_c (rd_s rfl p_id) rds_n) o_1I) fun (r381 : Int) => (tap_c (px_o pe_c) tap_n)) (fun (r381 : Int) => (rds_c rd_e (rds_c rd_e rds_n))) (fun (r381 : Int) => (op_t (e := D.int) (v := (r381 + (1))) o_add))) fun (r382 : Int) => tap_n) (fun (r382 : Int) => (rds_c rd_e rds_n))) (fun (l383 : List Int) => (te_lcMap (Γw := [Sl (Eq1 (D.int x_things)), Sl (Eq1 (eU x_sets)), Sl (Eq1 (.lst true (List.map D.int r380))), No, No, No]) (F := fun (x385 : Int) => ((r380.count x385 : Nat) : Int)) (ei := D.int) (eo := D.int) pi_ds (lc_n ((by exact (sub_c w_id (sub_c w_id (sub_c w_id (sub_c w_id (sub_c w_id (sub_c w_id sub_n)))))))) (by exact ⟨rfl, trivial⟩)) (fun (x385 : Int) => (tg_n (Nat.le_of_ble_eq_true rfl))) (fun (x385 : Int) => (pe_count (px_s rfl) (rd_s rfl p_lu) (px_s rfl) (rd_s rfl p_id))) (fun (x385 : Int) => (by exact (sub_c w_id (sub_c w_id (sub_c w_id (sub_c w_id (sub_c w_id (sub_c w_id sub_n))))))))))) (fun r env' h => by exact ⟨env', rfl, (sub_c w_id (sub_c w_id (sub_c w_an (sub_c w_an (sub_c w_an (sub_c w_an sub_n)))))) env' h⟩)))) (fun r => (.f rfl (.f rfl .n)))
/-! shows_sums -/
def F_shows_sums (x_sums : (List Int)) (x_thing : U) : Option Bool := ((((((opB (dIsi x_thing.1 (.ty "tuple")))).map fun (r391 : Bool) => (!r391))).bind fun a => if a = true then some true else (((((opI (dLen x_thing.1))).bind fun (r392 : Int) => (some (!decide (r392 = (2)))))).bind fun a => if a = true then some true else (((((opU (dIx x_thing.1 (.int (0))))).bind fun (r394 : U) => (opB (dIsi r394.1 (.ty "str"))))).map fun (r395 : Bool) => (!r395))))).bind fun (r397 : Bool) => if r397 = true then some false else ((((opU (dIx x_thing.1 (.int (0))))).bind fun (r398 : U) => (opB (dEq false r398.1 (D.str ("lack" : Str)))))).bind fun (r399 : Bool) => if r399 = true then (((((opU (dIx x_thing.1 (.int (1))))).bind fun (r400 : U) => (F_is_whole_2 r400 (0) ((x_sums.length : Int) - (1))))).bind fun a => if a = true then (((((((F_counts_in x_sums)).bind fun (r402 : (List Int)) => ((opU (dIx x_thing.1 (.int (1))))).map fun (r403 : U) => (r402, r403))).bind fun (p404 : ((List Int) × U)) => (opI (dIx ((eLO D.int) p404.1) p404.2.1)))).bind fun (r405 : Int) => (some (decide (r405 < (0))))) else some false) else ((((((opU (dIx x_thing.1 (.int (0))))).bind fun (r408 : U) => (opB (dEq true r408.1 (D.str ("sets" : Str)))))).bind fun a => if a = true then some true else (((((((((atI x_sums (0))).bind fun (r410 : Int) => ((opU (dIx x_thing.1 (.int (1))))).map fun (r411 : U) => (r410, r411))).bind fun (p412 : (Int × U)) => (F_are_sets p412.1 p412.2))).map fun (r413 : Bool) => (!r413))).bind fun a => if a = true then some true else (((((opU (dIx x_thing.1 (.int (1))))).bind fun (r414 : U) => (opI (dLen r414.1)))).bind fun (r415 : Int) => (some (!decide (r415 = ((x_sums.length : Int) - (1))))))))).bind fun (r418 : Bool) => if r418 = true then some false else (((((((((atI x_sums (0))).bind fun (r419 : Int) => ((opU (dIx x_thing.1 (.int (1))))).map fun (r420 : U) => (r419, r420))).bind fun (p421 : (Int × U)) => (F_counts_by p421.1 p421.2))).bind fun (r422 : (List Int)) => ((F_counts_in x_sums)).map fun (r423 : (List Int)) => (r422, r423))).bind fun (p424 : ((List Int) × (List Int))) => (some (decide (p424.1 = p424.2))))
theorem sp_shows_sums (x_sums : (List Int)) (x_thing : U) : Spec G_shows_sums [Eq1 ((eTO D.int) x_sums), Eq1 (eU x_thing)] (F_shows_sums x_sums x_thing) (fun r => D.bl r) (fun r => [Eq1 ((eTO D.int) x_sums), Eq1 (eU x_thing)]) := by
  unfold F_shows_sums G_shows_sums b_shows_sums
  exact spec_fn (Γ0 := [Sl (Eq1 ((eTO D.int) x_sums)), Sl (Eq1 (eU x_thing))]) (Γ' := fun r => [Sl (Eq1 ((eTO D.int) x_sums)), Sl (Eq1 (eU x_thing))]) ((ts_if0 ir_si (tt_or (tt_map (tt_n (tt_e (b := fun (r391 : Bool) => r391) (te_blt (tap_c (px_s rfl) (tap_c (px_o pe_c) tap_n)) (rds_c (rd_s rfl p_id) (rds_c rd_e rds_n)) o_dB) (fun _ => rfl)))) (tt_or (tt_e (b := fun (r393 : Bool) => r393) (te_op2m (ta_m (te_blt (tap_c (px_s rfl) tap_n) (rds_c (rd_s rfl p_id) rds_n) o_1I) fun (r392 : Int) => (tap_c (px_o pe_c) tap_n)) (fun (r392 : Int) => (rds_c rd_e (rds_c rd_e rds_n))) (fun (r392 : Int) => (op_t (e := D.bl) (v := (!decide (r392 = (2)))) (o_ne (e := D.int) (x := r392) (y := (2)) eqd_int (Nat.le_of_ble_eq_true rfl))))) (fun _ => rfl)) (tt_map (tt_n (tt_e (b := fun (r395 : Bool) => r395) (te_bltm (ta_m (te_op2 (tap_c (px_s rfl) (tap_c (px_o pe_c) tap_n)) (rds_c (rd_s rfl p_id) (rds_c rd_e rds_n)) o_dU) fun (r394 : U) => (tap_c (px_o pe_c) tap_n)) (fun (r394 : U) => (rds_c rd_e (rds_c rd_e rds_n))) (fun (r394 : U) => o_dB)) (fun _ => rfl)))))) (fun (r397 : Bool) => (ts_retp (d := D.bl false) pe_c (fun env' h => by exact ⟨env', rfl, (sub_c w_id (sub_c w_id sub_n)) env' h⟩))) (fun (r397 : Bool) => (ts_if0 ir_si (tt_e (b := fun (r399 : Bool) => r399) (te_op2m (ta_m (te_op2 (tap_c (px_s rfl) (tap_c (px_o pe_c) tap_n)) (rds_c (rd_s rfl p_id) (rds_c rd_e rds_n)) o_dU) fun (r398 : U) => (tap_c (px_o pe_c) tap_n)) (fun (r398 : U) => (rds_c rd_e (rds_c rd_e rds_n))) (fun (r398 : U) => o_dB)) (fun _ => rfl)) (fun (r399 : Bool) => (ts_ret0 (te_and (te_callKp (Ps := fun (r400 : U) => [Eq1 (eU r400)]) (Pd := [Eq1 (D.int (0)), Eq1 (D.int ((x_sums.length : Int) - (1)))]) (Γ' := fun _ => [Sl (Eq1 ((eTO D.int) x_sums)), Sl (Eq1 (eU x_thing))]) (ta_m (te_op2 (tap_c (px_s rfl) (tap_c (px_o pe_c) tap_n)) (rds_c (rd_s rfl p_id) (rds_c rd_e rds_n)) o_dU) fun (r400 : U) => tap_n) (fun _ => (tap_c (px_o pe_c) (tap_c (px_o (pe_op2 (tap_c (px_o (pe_blt (tap_c (px_s rfl) tap_n) (rds_c (rd_s rfl p_id) rds_n) o_lenT)) (tap_c (px_o pe_c) tap_n)) (rds_c rd_e (rds_c rd_e rds_n)) o_sub)) tap_n))) rfl rfl rfl (fun (r400 : U) => (sp_is_whole_2 r400 (0) ((x_sums.length : Int) - (1)))) (by exact ⟨rfl, rfl, trivial⟩) (fun _ _ => by exact (cg_v e1r cg_n))) (te_op2m (ta_m (te_op2m (ta_mm (te_call (Ps := [Eq1 ((eTO D.int) x_sums)]) (Pd := []) (Γ' := fun (r402 : (List Int)) => [Sl (Eq1 ((eTO D.int) x_sums)), Sl (Eq1 (eU x_thing))]) (tap_c (px_s rfl) tap_n) (sp_counts_in x_sums) (by exact trivial) (fun _ => by exact (cg_i rfl (nf_eq im_to) p_id cg_n))) fun (r402 : (List Int)) => (ta_m (te_op2 (tap_c (px_s rfl) (tap_c (px_o pe_c) tap_n)) (rds_c (rd_s rfl p_id) (rds_c rd_e rds_n)) o_dU) fun (r403 : U) => tap_n)) (fun (p404 : ((List Int) × U)) => (rds_c rd_e (rds_c rd_e rds_n))) (fun (p404 : ((List Int) × U)) => o_dI)) fun (r405 : Int) => (tap_c (px_o pe_c) tap_n)) (fun (r405 : Int) => (rds_c rd_e (rds_c rd_e rds_n))) (fun (r405 : Int) => (op_t (e := D.bl) (v := (decide (r405 < (0)))) o_lt)))) (fun r env' h => by exact ⟨env', rfl, (sub_c w_id (sub_c w_id sub_n)) env' h⟩))) (fun (r399 : Bool) => (ts_if0 ir_si (tt_or (tt_e (b := fun (r409 : Bool) => r409) (te_op2m (ta_m (te_op2 (tap_c (px_s rfl) (tap_c (px_o pe_c) tap_n)) (rds_c (rd_s rfl p_id) (rds_c rd_e rds_n)) o_dU) fun (r408 : U) => (tap_c (px_o pe_c) tap_n)) (fun (r408 : U) => (rds_c rd_e (rds_c rd_e rds_n))) (fun (r408 : U) => o_dB)) (fun _ => rfl)) (tt_or (tt_map (tt_n (tt_e (b := fun (r413 : Bool) => r413) (te_callb (Ps := fun (p412 : (Int × U)) => [Eq1 (D.int p412.1), Eq1 (eU p412.2)]) (Pd := []) (Γ' := fun (r413 : Bool) => [Sl (Eq1 ((eTO D.int) x_sums)), Sl (Eq1 (eU x_thing))]) (ta_mm (te_op2 (tap_c (px_s rfl) (tap_c (px_o pe_c) tap_n)) (rds_c (rd_s rfl p_id) (rds_c rd_e rds_n)) o_ixT) fun (r410 : Int) => (ta_m (te_op2 (tap_c (px_s rfl) (tap_c (px_o pe_c) tap_n)) (rds_c (rd_s rfl p_id) (rds_c rd_e rds_n)) o_dU) fun (r411 : U) => tap_n)) (fun (p412 : (Int × U)) => (sp_are_sets p412.1 p412.2)) (by exact trivial) (fun _ _ => by exact (cg_v e1r (cg_v e1r cg_n)))) (fun _ => rfl)))) (tt_e (b := fun (r416 : Bool) => r416) (te_op2m (ta_m (te_bltm (ta_m (te_op2 (tap_c (px_s rfl) (tap_c (px_o pe_c) tap_n)) (rds_c (rd_s rfl p_id) (rds_c rd_e rds_n)) o_dU) fun (r414 : U) => tap_n) (fun (r414 : U) => (rds_c rd_e rds_n)) (fun (r414 : U) => o_1I)) fun (r415 : Int) => (tap_c (px_o (pe_op2 (tap_c (px_o (pe_blt (tap_c (px_s rfl) tap_n) (rds_c (rd_s rfl p_id) rds_n) o_lenT)) (tap_c (px_o pe_c) tap_n)) (rds_c rd_e (rds_c rd_e rds_n)) o_sub)) tap_n)) (fun (r415 : Int) => (rds_c rd_e (rds_c rd_e rds_n))) (fun (r415 : Int) => (op_t (e := D.bl) (v := (!decide (r415 = ((x_sums.length : Int) - (1))))) (o_ne (e := D.int) (x := r415) (y := ((x_sums.length : Int) - (1))) eqd_int (Nat.le_of_ble_eq_true rfl))))) (fun _ => rfl)))) (fun (r418 : Bool) => (ts_retp (d := D.bl false) pe_c (fun env' h => by exact ⟨env', rfl, (sub_c w_id (sub_c w_id sub_n)) env' h⟩))) (fun (r418 : Bool) => (ts_ret0 (te_op2m (ta_mm (te_callb (Ps := fun (p421 : (Int × U)) => [Eq1 (D.int p421.1), Eq1 (eU p421.2)]) (Pd := []) (Γ' := fun (r422 : (List Int)) => [Sl (Eq1 ((eTO D.int) x_sums)), Sl (Eq1 (eU x_thing))]) (ta_mm (te_op2 (tap_c (px_s rfl) (tap_c (px_o pe_c) tap_n)) (rds_c (rd_s rfl p_id) (rds_c rd_e rds_n)) o_ixT) fun (r419 : Int) => (ta_m (te_op2 (tap_c (px_s rfl) (tap_c (px_o pe_c) tap_n)) (rds_c (rd_s rfl p_id) (rds_c rd_e rds_n)) o_dU) fun (r420 : U) => tap_n)) (fun (p421 : (Int × U)) => (sp_counts_by p421.1 p421.2)) (by exact trivial) (fun _ _ => by exact (cg_v e1r (cg_v e1r cg_n)))) fun (r422 : (List Int)) => (ta_m (te_call (Ps := [Eq1 ((eTO D.int) x_sums)]) (Pd := []) (Γ' := fun (r423 : (List Int)) => [Sl (Eq1 ((eTO D.int) x_sums)), Sl (Eq1 (eU x_thing))]) (tap_c (px_s rfl) tap_n) (sp_counts_in x_sums) (by exact trivial) (fun _ => by exact (cg_i rfl (nf_eq im_to) p_id cg_n))) fun (r423 : (List Int)) => tap_n)) (fun (p424 : ((List Int) × (List Int))) => (rds_c (rd_v p_lue) (rds_c (rd_v p_lue) rds_n))) (fun (p424 : ((List Int) × (List Int))) => (op_t (e := D.bl) (v := (decide (p424.1 = p424.2))) (o_eqL (e := D.int) (x := p424.1) (y := p424.2) eqd_int (Nat.le_of_ble_eq_true rfl))))) (fun r env' h => by exact ⟨env', rfl, (sub_c w_id (sub_c w_id sub_n)) env' h⟩))))))))) (fun r => (.f rfl (.f rfl .n)))
/-! is_sums_paper -/
def F_is_sums_paper (x_sums : (List Int)) (x_value : U) : Option Bool := ((F_need_sums x_sums)).bind fun (r427 : Unit) => ((((atI x_sums (0))).bind fun (r428 : Int) => (F_need_things r428))).bind fun (r429 : Unit) => (F_shows_sums x_sums x_value)
theorem sp_is_sums_paper (x_sums : (List Int)) (x_value : U) : Spec G_is_sums_paper [Eq1 ((eTO D.int) x_sums), Eq1 (eU x_value)] (F_is_sums_paper x_sums x_value) (fun r => D.bl r) (fun r => [Eq1 ((eTO D.int) x_sums), Eq1 (eU x_value)]) := by
  unfold F_is_sums_paper G_is_sums_paper b_is_sums_paper
  exact spec_fn (Γ0 := [Sl (Eq1 ((eTO D.int) x_sums)), Sl (Eq1 (eU x_value))]) (Γ' := fun r => [Sl (Eq1 ((eTO D.int) x_sums)), Sl (Eq1 (eU x_value))]) ((ts_c (tb_expr (te_call (Ps := [Eq1 ((eTO D.int) x_sums)]) (Pd := []) (Γ' := fun (r427 : Unit) => [Sl (Eq1 ((eTO D.int) x_sums)), Sl (Eq1 (eU x_value))]) (tap_c (px_s rfl) tap_n) (sp_need_sums x_sums) (by exact trivial) (fun _ => by exact (cg_i rfl (nf_eq im_to) p_id cg_n)))) fun (r427 : Unit) => (ts_c (tb_expr (te_callb (Ps := fun (r428 : Int) => [Eq1 (D.int r428)]) (Pd := []) (Γ' := fun (r429 : Unit) => [Sl (Eq1 ((eTO D.int) x_sums)), Sl (Eq1 (eU x_value))]) (ta_m (te_op2 (tap_c (px_s rfl) (tap_c (px_o pe_c) tap_n)) (rds_c (rd_s rfl p_id) (rds_c rd_e rds_n)) o_ixT) fun (r428 : Int) => tap_n) (fun (r428 : Int) => (sp_need_things r428)) (by exact trivial) (fun _ _ => by exact (cg_v e1r cg_n)))) fun (r429 : Unit) => (ts_ret0 (te_call (Ps := [Eq1 ((eTO D.int) x_sums), Eq1 (eU x_value)]) (Pd := []) (Γ' := fun (r430 : Bool) => [Sl (Eq1 ((eTO D.int) x_sums)), Sl (Eq1 (eU x_value))]) (tap_c (px_s rfl) (tap_c (px_s rfl) tap_n)) (sp_shows_sums x_sums x_value) (by exact trivial) (fun _ => by exact (cg_i rfl (nf_eq im_to) p_id (cg_i rfl (nf_eq im_u) p_id cg_n)))) (fun r env' h => by exact ⟨env', rfl, (sub_c w_id (sub_c w_id sub_n)) env' h⟩))))) (fun r => (.f rfl (.f rfl .n)))
/-! _law_crock -/
def F__law_crock (x_script : List Int) (x_spot : Int) : Option (List Int) := ((if (decide (x_spot < (x_script.length : Int))) = true then (((atI x_script x_spot)).bind fun (r452 : Int) => (some r452)) else (((mulM (967) x_spot)).bind fun (r454 : Int) => (some (r454 + (83)))))).bind fun (r456 : Int) => ((((((powM (10) (58))).bind fun (r457 : Int) => (powM r457 (5)))).bind fun (r458 : Int) => (modM (r456.natAbs : Int) r458))).bind fun (r459 : Int) => ((((((((powM (10) (17))).bind fun (r460 : Int) => (some (r459 - r460)))).bind fun (r461 : Int) => (some (max (0) r461)))).bind fun (r462 : Int) => ((((((((((((((modM r459 (2305843009213693907))).bind fun (r463 : Int) => (mulM r463 (101)))).bind fun (r464 : Int) => ((mulM (1171) x_spot)).map fun (r465 : Int) => (r464, r465))).bind fun (p466 : (Int × Int)) => (some (p466.1 + p466.2)))).bind fun (r467 : Int) => ((mulM (43) (if (decide (r456 < (0))) then 1 else 0))).map fun (r468 : Int) => (r467, r468))).bind fun (p469 : (Int × Int)) => (some (p469.1 + p469.2)))).bind fun (r470 : Int) => (some (r470 + (19))))).map fun (r471 : Int) => (r462, r471))).map fun (p472 : (Int × Int)) => [p472.1, p472.2, (0)]
theorem sp__law_crock (x_script : List Int) (x_spot : Int) : Spec G__law_crock [Eq1 (D.scr x_script), Eq1 (D.int x_spot)] (F__law_crock x_script x_spot) (fun r => (eLO D.int) r) (fun r => [Eq1 (D.scr x_script), Eq1 (D.int x_spot)]) := by
  unfold F__law_crock G__law_crock b__law_crock
  exact spec_fn (Γ0 := [Sl (Eq1 (D.scr x_script)), Sl (Eq1 (D.int x_spot)), No, No]) (Γ' := fun r => [Sl (Eq1 (D.scr x_script)), Sl (Eq1 (D.int x_spot)), An, An]) ((ts_c (tb_set (te_ifp (pt_e (b := (decide (x_spot < (x_script.length : Int)))) (pe_op2 (tap_c (px_s rfl) (tap_c (px_o (pe_blt (tap_c (px_s rfl) tap_n) (rds_c (rd_s rfl p_id) rds_n) o_lenS)) tap_n)) (rds_c (rd_s rfl p_id) (rds_c rd_e rds_n)) o_lt)) (te_bltm (ta_m (te_op2 (tap_c (px_s rfl) (tap_c (px_s rfl) tap_n)) (rds_c (rd_s rfl p_id) (rds_c (rd_s rfl p_id) rds_n)) o_ixS) fun (r452 : Int) => tap_n) (fun (r452 : Int) => (rds_c rd_e rds_n)) (fun (r452 : Int) => (op_t (e := D.int) (v := r452) o_int))) (te_op2m (ta_m (te_op2 (tap_c (px_o pe_c) (tap_c (px_s rfl) tap_n)) (rds_c rd_e (rds_c (rd_s rfl p_id) rds_n)) o_mul) fun (r454 : Int) => (tap_c (px_o pe_c) tap_n)) (fun (r454 : Int) => (rds_c rd_e (rds_c rd_e rds_n))) (fun (r454 : Int) => (op_t (e := D.int) (v := (r454 + (83))) o_add)))) fun _ => (Nat.le_of_ble_eq_true rfl)) fun (r456 : Int) => (ts_c (tb_set (te_op2m (ta_p (px_o (pe_blt (tap_c (px_o (pe_blt (tap_c (px_s rfl) tap_n) (rds_c (rd_s rfl p_id) rds_n) o_abs)) tap_n) (rds_c rd_e rds_n) o_int)) (ta_m (te_op2m (ta_m (te_op2 (tap_c (px_o pe_c) (tap_c (px_o pe_c) tap_n)) (rds_c rd_e (rds_c rd_e rds_n)) o_pow) fun (r457 : Int) => (tap_c (px_o pe_c) tap_n)) (fun (r457 : Int) => (rds_c rd_e (rds_c rd_e rds_n))) (fun (r457 : Int) => o_pow)) fun (r458 : Int) => tap_n)) (fun (r458 : Int) => (rds_c rd_e (rds_c rd_e rds_n))) (fun (r458 : Int) => o_mod)) fun _ => (Nat.le_of_ble_eq_true rfl)) fun (r459 : Int) => (ts_ret (e := fun (p472 : (Int × Int)) => (eLO D.int) [p472.1, p472.2, (0)]) (φ := fun (p472 : (Int × Int)) => [p472.1, p472.2, (0)]) (te_lst (e := fun (p472 : (Int × Int)) => (eLO D.int) [p472.1, p472.2, (0)]) (ta_mm (te_bltm (ta_p (px_o pe_c) (ta_m (te_op2m (ta_p (px_s rfl) (ta_m (te_op2 (tap_c (px_o pe_c) (tap_c (px_o pe_c) tap_n)) (rds_c rd_e (rds_c rd_e rds_n)) o_pow) fun (r460 : Int) => tap_n)) (fun (r460 : Int) => (rds_c (rd_s rfl p_id) (rds_c rd_e rds_n))) (fun (r460 : Int) => (op_t (e := D.int) (v := (r459 - r460)) o_sub))) fun (r461 : Int) => tap_n)) (fun (r461 : Int) => (rds_c rd_e (rds_c rd_e rds_n))) (fun (r461 : Int) => (op_t (e := D.int) (v := (max (0) r461)) o_max2))) fun (r462 : Int) => (ta_m (te_op2m (ta_m (te_op2m (ta_mm (te_op2m (ta_mm (te_op2m (ta_m (te_op2 (tap_c (px_o (pe_blt (tap_c (px_s rfl) tap_n) (rds_c (rd_s rfl p_id) rds_n) o_int)) (tap_c (px_o pe_c) tap_n)) (rds_c rd_e (rds_c rd_e rds_n)) o_mod) fun (r463 : Int) => (tap_c (px_o pe_c) tap_n)) (fun (r463 : Int) => (rds_c rd_e (rds_c rd_e rds_n))) (fun (r463 : Int) => o_mul)) fun (r464 : Int) => (ta_m (te_op2 (tap_c (px_o pe_c) (tap_c (px_s rfl) tap_n)) (rds_c rd_e (rds_c (rd_s rfl p_id) rds_n)) o_mul) fun (r465 : Int) => tap_n)) (fun (p466 : (Int × Int)) => (rds_c rd_e (rds_c rd_e rds_n))) (fun (p466 : (Int × Int)) => (op_t (e := D.int) (v := (p466.1 + p466.2)) o_add))) fun (r467 : Int) => (ta_m (te_op2 (tap_c (px_o pe_c) (tap_c (px_o (pe_blt (tap_c (px_o (pe_op2 (tap_c (px_s rfl) (tap_c (px_o pe_c) tap_n)) (rds_c (rd_s rfl p_id) (rds_c rd_e rds_n)) o_lt)) tap_n) (rds_c rd_e rds_n) o_intb)) tap_n)) (rds_c rd_e (rds_c rd_e rds_n)) o_mul) fun (r468 : Int) => tap_n)) (fun (p469 : (Int × Int)) => (rds_c rd_e (rds_c rd_e rds_n))) (fun (p469 : (Int × Int)) => (op_t (e := D.int) (v := (p469.1 + p469.2)) o_add))) fun (r470 : Int) => (tap_c (px_o pe_c) tap_n)) (fun (r470 : Int) => (rds_c rd_e (rds_c rd_e rds_n))) (fun (r470 : Int) => (op_t (e := D.int) (v := (r470 + (19))) o_add))) fun (r471 : Int) => (tap_c (px_o pe_c) tap_n))) (fun _ => rfl) (fun _ => (Nat.le_of_ble_eq_true rfl)) (fun _ => rfl)) (fun (p472 : (Int × Int)) env' h => by exact ⟨env', rfl, (sub_c w_id (sub_c w_id (sub_c w_an (sub_c w_an sub_n)))) env' h⟩))))) (fun r => (.f rfl (.f rfl .n)))
/-! _law_ladle -/
def F__law_ladle (x_crock : (List Int)) (x_total : Int) : Option (Int × (List Int)) := ((((atI x_crock (0))).bind fun (r506 : Int) => (some (decide ((0) < r506))))).bind fun (r507 : Bool) => if r507 = true then ((((((atI x_crock (0))).bind fun (r508 : Int) => (some r508))).bind fun (r509 : Int) => (modM r509 x_total))).bind fun (r510 : Int) => ((((((atI x_crock (0))).bind fun (r511 : Int) => (fdivM r511 x_total))).bind fun (r512 : Int) => (setM x_crock (0) r512).map fun (l514 : (List Int)) => (l514, r512))).bind fun (r513 : ((List Int) × Int)) => some (r510, r513.1) else ((((((atI x_crock (2))).bind fun (r515 : Int) => (some (r515 + (1))))).bind fun (r516 : Int) => (setM x_crock (2) r516).map fun (l518 : (List Int)) => (l518, r516))).bind fun (r517 : ((List Int) × Int)) => ((((((((((atI r517.1 (1))).bind fun (r519 : Int) => ((((atI r517.1 (2))).bind fun (r520 : Int) => (mulM (86028121) r520))).map fun (r521 : Int) => (r519, r521))).bind fun (p522 : (Int × Int)) => (some (p522.1 + p522.2)))).bind fun (r523 : Int) => (some r523))).bind fun (r524 : Int) => (modM r524 (2305843009213693951)))).bind fun (r525 : Int) => ((((((((((((((mulM r525 r525)).bind fun (r526 : Int) => ((((atI r517.1 (2))).bind fun (r527 : Int) => (mulM (271) r527))).map fun (r528 : Int) => (r526, r528))).bind fun (p529 : (Int × Int)) => (some (p529.1 + p529.2)))).bind fun (r530 : Int) => (some r530))).bind fun (r531 : Int) => (modM r531 (2305843009213693921)))).bind fun (r532 : Int) => (mulM r532 (5915587277)))).bind fun (r533 : Int) => (some (r533 + r525)))).bind fun (r534 : Int) => ((((((fdivM r534 (65543))).bind fun (r535 : Int) => (some r535))).bind fun (r536 : Int) => (modM r536 x_total))).map fun (r537 : Int) => (r537, r517.1)
theorem sp__law_ladle (x_crock : (List Int)) (x_total : Int) : Spec G__law_ladle [Eq1 (.lst true (List.map D.int x_crock)), Eq1 (D.int x_total)] (F__law_ladle x_crock x_total) (fun r => D.int r.1) (fun r => [Eq1 (.lst true (List.map D.int r.2)), Eq1 (D.int x_total)]) := by
  unfold F__law_ladle G__law_ladle b__law_ladle
  exact spec_fn (Γ0 := [Sl (Eq1 (.lst true (List.map D.int x_crock))), Sl (Eq1 (D.int x_total)), No, No, No]) (Γ' := fun r => [Sl (Eq1 (.lst true (List.map D.int r.2))), Sl (Eq1 (D.int x_total)), An, An, An]) ((ts_if0 ir_si (tt_e (b := fun (r507 : Bool) => r507) (te_op2m (ta_m (te_op2 (tap_c (px_s rfl) (tap_c (px_o pe_c) tap_n)) (rds_c (rd_s rfl p_lu) (rds_c rd_e rds_n)) (o_ixL im_int)) fun (r506 : Int) => (tap_c (px_o pe_c) tap_n)) (fun (r506 : Int) => (rds_c rd_e (rds_c rd_e rds_n))) (fun (r506 : Int) => (op_t (e := D.bl) (v := (decide ((0) < r506))) o_gt))) (fun _ => rfl)) (fun (r507 : Bool) => (ts_c (tb_set (te_op2m (ta_m (te_bltm (ta_m (te_op2 (tap_c (px_s rfl) (tap_c (px_o pe_c) tap_n)) (rds_c (rd_s rfl p_lu) (rds_c rd_e rds_n)) (o_ixL im_int)) fun (r508 : Int) => tap_n) (fun (r508 : Int) => (rds_c rd_e rds_n)) (fun (r508 : Int) => (op_t (e := D.int) (v := r508) o_int))) fun (r509 : Int) => (tap_c (px_s rfl) tap_n)) (fun (r509 : Int) => (rds_c rd_e (rds_c (rd_s rfl p_id) rds_n))) (fun (r509 : Int) => o_mod)) fun _ => (Nat.le_of_ble_eq_true rfl)) fun (r510 : Int) => (ts_c (tb_setix (e := D.int) (v := fun (r512 : Int) => r512) (l := fun (r512 : Int) => x_crock) (k := fun (r512 : Int) => (0)) (te_op2m (ta_m (te_op2 (tap_c (px_s rfl) (tap_c (px_o pe_c) tap_n)) (rds_c (rd_s rfl p_lu) (rds_c rd_e rds_n)) (o_ixL im_int)) fun (r511 : Int) => (tap_c (px_s rfl) tap_n)) (fun (r511 : Int) => (rds_c rd_e (rds_c (rd_s rfl p_id) rds_n))) (fun (r511 : Int) => o_fdiv)) (fun _ => rfl) (fun _ => rfl) (fun (r512 : Int) => (px_o pe_c)) (fun _ => rd_e)) fun (r513 : ((List Int) × Int)) => (ts_retp (d := D.int r510) (pe_move rfl) (fun env' h => by exact ⟨env', rfl, (sub_c w_id (sub_c w_id (sub_c w_an (sub_c w_an (sub_c w_an sub_n))))) env' h⟩))))) (fun (r507 : Bool) => (ts_c (tb_setix (e := D.int) (v := fun (r516 : Int) => r516) (l := fun (r516 : Int) => x_crock) (k := fun (r516 : Int) => (2)) (te_op2m (ta_m (te_op2 (tap_c (px_s rfl) (tap_c (px_o pe_c) tap_n)) (rds_c (rd_s rfl p_lu) (rds_c rd_e rds_n)) (o_ixL im_int)) fun (r515 : Int) => (tap_c (px_o pe_c) tap_n)) (fun (r515 : Int) => (rds_c rd_e (rds_c rd_e rds_n))) (fun (r515 : Int) => (op_t (e := D.int) (v := (r515 + (1))) o_add))) (fun _ => rfl) (fun _ => rfl) (fun (r516 : Int) => (px_o pe_c)) (fun _ => rd_e)) fun (r517 : ((List Int) × Int)) => (ts_c (tb_set (te_op2m (ta_m (te_bltm (ta_m (te_op2m (ta_mm (te_op2 (tap_c (px_s rfl) (tap_c (px_o pe_c) tap_n)) (rds_c (rd_s rfl p_lu) (rds_c rd_e rds_n)) (o_ixL im_int)) fun (r519 : Int) => (ta_m (te_op2m (ta_p (px_o pe_c) (ta_m (te_op2 (tap_c (px_s rfl) (tap_c (px_o pe_c) tap_n)) (rds_c (rd_s rfl p_lu) (rds_c rd_e rds_n)) (o_ixL im_int)) fun (r520 : Int) => tap_n)) (fun (r520 : Int) => (rds_c rd_e (rds_c rd_e rds_n))) (fun (r520 : Int) => o_mul)) fun (r521 : Int) => tap_n)) (fun (p522 : (Int × Int)) => (rds_c rd_e (rds_c rd_e rds_n))) (fun (p522 : (Int × Int)) => (op_t (e := D.int) (v := (p522.1 + p522.2)) o_add))) fun (r523 : Int) => tap_n) (fun (r523 : Int) => (rds_c rd_e rds_n)) (fun (r523 : Int) => (op_t (e := D.int) (v := r523) o_int))) fun (r524 : Int) => (tap_c (px_o pe_c) tap_n)) (fun (r524 : Int) => (rds_c rd_e (rds_c rd_e rds_n))) (fun (r524 : Int) => o_mod)) fun _ => (Nat.le_of_ble_eq_true rfl)) fun (r525 : Int) => (ts_c (tb_set (te_op2m (ta_m (te_op2m (ta_m (te_op2m (ta_m (te_bltm (ta_m (te_op2m (ta_mm (te_op2 (tap_c (px_s rfl) (tap_c (px_s rfl) tap_n)) (rds_c (rd_s rfl p_id) (rds_c (rd_s rfl p_id) rds_n)) o_mul) fun (r526 : Int) => (ta_m (te_op2m (ta_p (px_o pe_c) (ta_m (te_op2 (tap_c (px_s rfl) (tap_c (px_o pe_c) tap_n)) (rds_c (rd_s rfl p_lu) (rds_c rd_e rds_n)) (o_ixL im_int)) fun (r527 : Int) => tap_n)) (fun (r527 : Int) => (rds_c rd_e (rds_c rd_e rds_n))) (fun (r527 : Int) => o_mul)) fun (r528 : Int) => tap_n)) (fun (p529 : (Int × Int)) => (rds_c rd_e (rds_c rd_e rds_n))) (fun (p529 : (Int × Int)) => (op_t (e := D.int) (v := (p529.1 + p529.2)) o_add))) fun (r530 : Int) => tap_n) (fun (r530 : Int) => (rds_c rd_e rds_n)) (fun (r530 : Int) => (op_t (e := D.int) (v := r530) o_int))) fun (r531 : Int) => (tap_c (px_o pe_c) tap_n)) (fun (r531 : Int) => (rds_c rd_e (rds_c rd_e rds_n))) (fun (r531 : Int) => o_mod)) fun (r532 : Int) => (tap_c (px_o pe_c) tap_n)) (fun (r532 : Int) => (rds_c rd_e (rds_c rd_e rds_n))) (fun (r532 : Int) => o_mul)) fun (r533 : Int) => (tap_c (px_s rfl) tap_n)) (fun (r533 : Int) => (rds_c rd_e (rds_c (rd_s rfl p_id) rds_n))) (fun (r533 : Int) => (op_t (e := D.int) (v := (r533 + r525)) o_add))) fun _ => (Nat.le_of_ble_eq_true rfl)) fun (r534 : Int) => (ts_ret (e := fun (r537 : Int) => D.int r537) (φ := fun (r537 : Int) => (r537, r517.1)) (te_op2m (ta_m (te_bltm (ta_m (te_op2 (tap_c (px_s rfl) (tap_c (px_o pe_c) tap_n)) (rds_c (rd_s rfl p_id) (rds_c rd_e rds_n)) o_fdiv) fun (r535 : Int) => tap_n) (fun (r535 : Int) => (rds_c rd_e rds_n)) (fun (r535 : Int) => (op_t (e := D.int) (v := r535) o_int))) fun (r536 : Int) => (tap_c (px_s rfl) tap_n)) (fun (r536 : Int) => (rds_c rd_e (rds_c (rd_s rfl p_id) rds_n))) (fun (r536 : Int) => o_mod)) (fun (r537 : Int) env' h => by exact ⟨env', rfl, (sub_c w_id (sub_c w_id (sub_c w_an (sub_c w_an (sub_c w_an sub_n))))) env' h⟩)))))))) (fun r => (.f rfl (.f rfl .n)))
/-! _law_sets -/
def F__law_sets (x_crock : (List Int)) (x_things : Int) (x_many : Int) : Option ((List (List Int)) × (List Int)) := ((some ([] : List (List Int)))).bind fun (r610 : (List (List Int))) => (((((((F__law_ladle x_crock x_many)).bind fun (r611 : (Int × (List Int))) => ((some ((1) + r611.1))).map fun (v612 : Int) => (v612, r611.2))).bind fun (q613 : (Int × (List Int))) => (rng1 q613.1).map fun (l615 : List Int) => (l615, q613.2))).bind fun (q616 : (List Int × (List Int))) => foldO (fun (s637 : ((List Int) × (List (List Int)))) (x638 : Int) => ((((F__law_ladle s637.1 (3))).bind fun (r640 : (Int × (List Int))) => ((some ((2) + r640.1))).map fun (v641 : Int) => (v641, r640.2))).bind fun (q642 : (Int × (List Int))) => ((((((((rng1 x_things)).bind fun (l643 : List Int) => lcS (fun (s648 : ((List Int))) (x644 : Int) => (((((F__law_ladle s648 q642.1)).bind fun (r649 : (Int × (List Int))) => ((some (decide (r649.1 = (0))))).map fun (v650 : Bool) => (v650, r649.2))).bind fun (q651 : (Bool × (List Int))) => if q651.1 = true then ((some x644)).map fun (r652 : Int) => (some r652, (q651.2)) else some (none, (q651.2)))) l643 (q642.2))).bind fun (q653 : ((List Int) × (List Int))) => ((some q653.1)).map fun (v654 : (List Int)) => (v654, q653.2))).bind fun (q655 : ((List Int) × (List Int))) => (appM s637.2 q655.1).map fun (l657 : (List (List Int))) => (l657, q655))).map fun (r656 : ((List (List Int)) × ((List Int) × (List Int)))) => (r656.2.2, r656.1)) q616.1 (q616.2, r610)).bind fun (s639 : ((List Int) × (List (List Int)))) => some (s639.2, s639.1)
theorem sp__law_sets (x_crock : (List Int)) (x_things : Int) (x_many : Int) : Spec G__law_sets [Eq1 (.lst true (List.map D.int x_crock)), Eq1 (D.int x_things), Eq1 (D.int x_many)] (F__law_sets x_crock x_things x_many) (fun r => (eTO (eTO D.int)) r.1) (fun r => [Eq1 (.lst true (List.map D.int r.2)), Eq1 (D.int x_things), Eq1 (D.int x_many)]) := by
  unfold F__law_sets G__law_sets b__law_sets
  exact spec_fn (Γ0 := [Sl (Eq1 (.lst true (List.map D.int x_crock))), Sl (Eq1 (D.int x_things)), Sl (Eq1 (D.int x_many)), No, No, No, No]) (Γ' := fun r => [Sl (Eq1 (.lst true (List.map D.int r.2))), Sl (Eq1 (D.int x_things)), Sl (Eq1 (D.int x_many)), An, An, An, An]) ((ts_c (tb_set (te_p (e := (eLO (eTO D.int))) (v := ([] : List (List Int))) (pe_lst tap_n rfl (Nat.le_of_ble_eq_true rfl))) fun _ => (Nat.le_of_ble_eq_true rfl)) fun (r610 : (List (List Int))) => (ts_c (tb_form (Inv := fun (s637 : ((List Int) × (List (List Int)))) => [Sl (Eq1 (.lst true (List.map D.int s637.1))), Sl (Eq1 (D.int x_things)), Sl (Eq1 (D.int x_many)), Sl (Eq1 (.lst true (List.map (eTO D.int) s637.2))), An, An, No]) (l := fun (q616 : (List Int × (List Int))) => q616.1) (ei := D.int) (ti_r1e (ds := fun (q616 : (List Int × (List Int))) => List.map D.int q616.1) (Γ2 := fun (q616 : (List Int × (List Int))) => [Sl (Eq1 (.lst true (List.map D.int q616.2))), Sl (Eq1 (D.int x_things)), Sl (Eq1 (D.int x_many)), Sl (Eq1 (.lst true (List.map (eTO D.int) r610))), No, No, No]) (ta_m (te_op2e (e' := fun (q613 : (Int × (List Int))) => D.int q613.1) (Γ2 := fun (q613 : (Int × (List Int))) => [Sl (Eq1 (.lst true (List.map D.int q613.2))), Sl (Eq1 (D.int x_things)), Sl (Eq1 (D.int x_many)), Sl (Eq1 (.lst true (List.map (eTO D.int) r610))), No, No, No]) (ta_p (px_o pe_c) (ta_m (te_call (Ps := [Eq1 (.lst true (List.map D.int x_crock)), Eq1 (D.int x_many)]) (Pd := []) (Γ' := fun (r611 : (Int × (List Int))) => [Sl (Eq1 (.lst true (List.map D.int r611.2))), Sl (Eq1 (D.int x_things)), Sl (Eq1 (D.int x_many)), Sl (Eq1 (.lst true (List.map (eTO D.int) r610))), No, No, No]) (tap_c (px_s rfl) (tap_c (px_s rfl) tap_n)) (sp__law_ladle x_crock x_many) (by exact trivial) (fun _ => by exact (cg_o rfl ow_lo p_id (cg_i rfl (nf_eq im_int) p_id cg_n)))) fun (r611 : (Int × (List Int))) => tap_n)) (fun (r611 : (Int × (List Int))) => (rds_c rd_e (rds_c rd_e rds_n))) (fun (r611 : (Int × (List Int))) => (op_t (e := D.int) (v := ((1) + r611.1)) o_add)) (fun _ _ => rfl) (fun _ _ => rfl)) fun (q613 : (Int × (List Int))) => tap_n) (fun (q613 : (Int × (List Int))) => (rds_c rd_e rds_n)) (fun _ _ => rfl) (fun _ _ => rfl)) (fun (q616 : (List Int × (List Int))) => (by exact (sub_c w_id (sub_c w_id (sub_c w_id (sub_c w_id (sub_c w_an (sub_c w_an (sub_c w_id sub_n))))))))) (fun (s637 : ((List Int) × (List (List Int)))) (x638 : Int) => (tg_n (Nat.le_of_ble_eq_true rfl))) (fun (s637 : ((List Int) × (List (List Int)))) (x638 : Int) => (tb_c (tb_set (te_op2e (e' := fun (q642 : (Int × (List Int))) => D.int q642.1) (Γ2 := fun (q642 : (Int × (List Int))) => [Sl (Eq1 (.lst true (List.map D.int q642.2))), Sl (Eq1 (D.int x_things)), Sl (Eq1 (D.int x_many)), Sl (Eq1 (.lst true (List.map (eTO D.int) s637.2))), Sl (Eq1 (D.int x638)), An, No]) (ta_p (px_o pe_c) (ta_m (te_call (Ps := [Eq1 (.lst true (List.map D.int s637.1)), Eq1 (D.int (3))]) (Pd := []) (Γ' := fun (r640 : (Int × (List Int))) => [Sl (Eq1 (.lst true (List.map D.int r640.2))), Sl (Eq1 (D.int x_things)), Sl (Eq1 (D.int x_many)), Sl (Eq1 (.lst true (List.map (eTO D.int) s637.2))), Sl (Eq1 (D.int x638)), An, No]) (tap_c (px_s rfl) (tap_c (px_o pe_c) tap_n)) (sp__law_ladle s637.1 (3)) (by exact trivial) (fun _ => by exact (cg_o rfl ow_lo p_id (cg_v e1r cg_n)))) fun (r640 : (Int × (List Int))) => tap_n)) (fun (r640 : (Int × (List Int))) => (rds_c rd_e (rds_c rd_e rds_n))) (fun (r640 : (Int × (List Int))) => (op_t (e := D.int) (v := ((2) + r640.1)) o_add)) (fun _ _ => rfl) (fun _ _ => rfl)) fun _ => (Nat.le_of_ble_eq_true rfl)) fun (q642 : (Int × (List Int))) => (tb_map (φ := fun (r656 : ((List (List Int)) × ((List Int) × (List Int)))) => (r656.2.2, r656.1)) (tb_expr (te_appm (e := (eTO D.int)) (l := s637.2) (v := fun (q655 : ((List Int) × (List Int))) => q655.1) rfl (te_blte (e' := fun (q655 : ((List Int) × (List Int))) => (eTO D.int) q655.1) (Γ2 := fun (q655 : ((List Int) × (List Int))) => [Sl (Eq1 (.lst true (List.map D.int q655.2))), Sl (Eq1 (D.int x_things)), Sl (Eq1 (D.int x_many)), Sl (Eq1 (.lst true (List.map (eTO D.int) s637.2))), Sl (Eq1 (D.int x638)), Sl (Eq1 (D.int q642.1)), No]) (ta_m (te_ti (ti_r1 (tap_c (px_s rfl) tap_n) (rds_c (rd_s rfl p_id) rds_n)) (fun (l643 : List Int) => (te_lcS (Inv := fun (s648 : ((List Int))) => [Sl (Eq1 (.lst true (List.map D.int s648))), Sl (Eq1 (D.int x_things)), Sl (Eq1 (D.int x_many)), Sl (Eq1 (.lst true (List.map (eTO D.int) s637.2))), Sl (Eq1 (D.int x638)), Sl (Eq1 (D.int q642.1)), No]) (f := fun (s648 : ((List Int))) (x644 : Int) => (((((F__law_ladle s648 q642.1)).bind fun (r649 : (Int × (List Int))) => ((some (decide (r649.1 = (0))))).map fun (v650 : Bool) => (v650, r649.2))).bind fun (q651 : (Bool × (List Int))) => if q651.1 = true then ((some x644)).map fun (r652 : Int) => (some r652, (q651.2)) else some (none, (q651.2)))) (eo := D.int) (s0 := (q642.2)) (e' := fun (q653 : ((List Int) × (List Int))) => (eLO D.int) q653.1) (Γ3 := fun (q653 : ((List Int) × (List Int))) => [Sl (Eq1 (.lst true (List.map D.int q653.2))), Sl (Eq1 (D.int x_things)), Sl (Eq1 (D.int x_many)), Sl (Eq1 (.lst true (List.map (eTO D.int) s637.2))), Sl (Eq1 (D.int x638)), Sl (Eq1 (D.int q642.1)), No]) pi_ds (fun _ h => by cases h) (fun _ _ _ => trivial) ((by exact (sub_c w_id (sub_c w_id (sub_c w_id (sub_c w_id (sub_c w_id (sub_c w_id (sub_c w_id sub_n))))))))) (fun _ => (by exact ⟨rfl, trivial⟩)) (fun (s648 : ((List Int))) (x644 : Int) => (ls_e (v := fun (q651 : (Bool × (List Int))) (r652 : Int) => r652) (s1 := fun (q651 : (Bool × (List Int))) (r652 : Int) => (q651.2)) (s2 := fun (q651 : (Bool × (List Int))) => (q651.2)) (eo := D.int) (Inv := fun (s648 : ((List Int))) => [Sl (Eq1 (.lst true (List.map D.int s648))), Sl (Eq1 (D.int x_things)), Sl (Eq1 (D.int x_many)), Sl (Eq1 (.lst true (List.map (eTO D.int) s637.2))), Sl (Eq1 (D.int x638)), Sl (Eq1 (D.int q642.1)), No]) (tg_n (Nat.le_of_ble_eq_true rfl)) (tt_e (b := fun (q651 : (Bool × (List Int))) => q651.1) (te_op2e (e' := fun (q651 : (Bool × (List Int))) => D.bl q651.1) (Γ2 := fun (q651 : (Bool × (List Int))) => [Sl (Eq1 (.lst true (List.map D.int q651.2))), Sl (Eq1 (D.int x_things)), Sl (Eq1 (D.int x_many)), Sl (Eq1 (.lst true (List.map (eTO D.int) s637.2))), Sl (Eq1 (D.int x638)), Sl (Eq1 (D.int q642.1)), Sl (Eq1 (D.int x644))]) (ta_m (te_call (Ps := [Eq1 (.lst true (List.map D.int s648)), Eq1 (D.int q642.1)]) (Pd := []) (Γ' := fun (r649 : (Int × (List Int))) => [Sl (Eq1 (.lst true (List.map D.int r649.2))), Sl (Eq1 (D.int x_things)), Sl (Eq1 (D.int x_many)), Sl (Eq1 (.lst true (List.map (eTO D.int) s637.2))), Sl (Eq1 (D.int x638)), Sl (Eq1 (D.int q642.1)), Sl (Eq1 (D.int x644))]) (tap_c (px_s rfl) (tap_c (px_s rfl) tap_n)) (sp__law_ladle s648 q642.1) (by exact trivial) (fun _ => by exact (cg_o rfl ow_lo p_id (cg_i rfl (nf_eq im_int) p_id cg_n)))) fun (r649 : (Int × (List Int))) => (tap_c (px_o pe_c) tap_n)) (fun (r649 : (Int × (List Int))) => (rds_c rd_e (rds_c rd_e rds_n))) (fun (r649 : (Int × (List Int))) => (op_t (e := D.bl) (v := (decide (r649.1 = (0)))) (o_eq (e := D.int) (x := r649.1) (y := (0)) eqd_int (Nat.le_of_ble_eq_true rfl)))) (fun _ _ => rfl) (fun _ _ => rfl)) (fun _ => rfl)) (fun (q651 : (Bool × (List Int))) => (te_p (e := D.int) (v := x644) (pe_use rfl (Imm.nf im_int _)))) (fun _ _ => rfl) (fun (q651 : (Bool × (List Int))) (r652 : Int) => (by exact (sub_c w_id (sub_c w_id (sub_c w_id (sub_c w_id (sub_c w_id (sub_c w_id (sub_c w_id sub_n))))))))) (fun (q651 : (Bool × (List Int))) => (by exact (sub_c w_id (sub_c w_id (sub_c w_id (sub_c w_id (sub_c w_id (sub_c w_id (sub_c w_id sub_n))))))))))) (fun _ => rfl) (fun _ => rfl)))) fun (q653 : ((List Int) × (List Int))) => tap_n) (fun (q653 : ((List Int) × (List Int))) => (rds_c (rd_v p_lue) rds_n)) (fun (q653 : ((List Int) × (List Int))) => (op_t (e := (eTO D.int)) (v := q653.1) (o_tupL im_int))) (fun _ _ => rfl) (fun _ _ => rfl)) (fun _ => rfl) (fun _ => rfl))) (fun (r656 : ((List (List Int)) × ((List Int) × (List Int)))) => (by exact (sub_c w_id (sub_c w_id (sub_c w_id (sub_c w_id (sub_c w_an (sub_c w_an (sub_c w_id sub_n))))))))))))) fun (s639 : ((List Int) × (List (List Int)))) => (ts_retp (d := (eTO (eTO D.int)) s639.2) (pe_blt (tap_c (px_s rfl) tap_n) (rds_c (rd_s rfl p_lu) rds_n) (o_tupL im_to)) (fun env' h => by exact ⟨env', rfl, (sub_c w_id (sub_c w_id (sub_c w_id (sub_c w_an (sub_c w_an (sub_c w_an (sub_c w_an sub_n))))))) env' h⟩))))) (fun r => (.f rfl (.f rfl (.f rfl .n))))
/-! _law_out_of -/
def F__law_out_of (x_many : Int) (x_few : Int) : Option Int := ((some (1))).bind fun (r675 : Int) => (((rng1 x_few)).bind fun (l676 : List Int) => foldO (fun (s681 : (Int)) (x682 : Int) => ((((mulM s681 (x_many - x682))).bind fun (r684 : Int) => (fdivM r684 (x682 + (1))))).map fun (r685 : Int) => (r685)) l676 (r675)).bind fun (s683 : (Int)) => some (if (decide (x_few ≤ x_many)) = true then s683 else (0))
theorem sp__law_out_of (x_many : Int) (x_few : Int) : Spec G__law_out_of [Eq1 (D.int x_many), Eq1 (D.int x_few)] (F__law_out_of x_many x_few) (fun r => D.int r) (fun r => [Eq1 (D.int x_many), Eq1 (D.int x_few)]) := by
  unfold F__law_out_of G__law_out_of b__law_out_of
  exact spec_fn (Γ0 := [Sl (Eq1 (D.int x_many)), Sl (Eq1 (D.int x_few)), No, No]) (Γ' := fun r => [Sl (Eq1 (D.int x_many)), Sl (Eq1 (D.int x_few)), An, An]) ((ts_c (tb_set (te_p (e := D.int) (v := (1)) pe_c) fun _ => (Nat.le_of_ble_eq_true rfl)) fun (r675 : Int) => (ts_c (tb_form (Inv := fun (s681 : (Int)) => [Sl (Eq1 (D.int x_many)), Sl (Eq1 (D.int x_few)), Sl (Eq1 (D.int s681)), An]) (l := fun (l676 : List Int) => l676) (ei := D.int) (ti_r1 (tap_c (px_s rfl) tap_n) (rds_c (rd_s rfl p_id) rds_n)) (fun (l676 : List Int) => (by exact (sub_c w_id (sub_c w_id (sub_c w_id (sub_c w_an sub_n)))))) (fun (s681 : (Int)) (x682 : Int) => (tg_n (Nat.le_of_ble_eq_true rfl))) (fun (s681 : (Int)) (x682 : Int) => (tb_map (φ := fun (r685 : Int) => (r685)) (tb_set (te_op2m (ta_m (te_op2 (tap_c (px_s rfl) (tap_c (px_o (pe_op2 (tap_c (px_s rfl) (tap_c (px_s rfl) tap_n)) (rds_c (rd_s rfl p_id) (rds_c (rd_s rfl p_id) rds_n)) o_sub)) tap_n)) (rds_c (rd_s rfl p_id) (rds_c rd_e rds_n)) o_mul) fun (r684 : Int) => (tap_c (px_o (pe_op2 (tap_c (px_s rfl) (tap_c (px_o pe_c) tap_n)) (rds_c (rd_s rfl p_id) (rds_c rd_e rds_n)) o_add)) tap_n)) (fun (r684 : Int) => (rds_c rd_e (rds_c rd_e rds_n))) (fun (r684 : Int) => o_fdiv)) fun _ => (Nat.le_of_ble_eq_true rfl)) (fun (r685 : Int) => (by exact (sub_c w_id (sub_c w_id (sub_c w_id (sub_c w_an sub_n))))))))) fun (s683 : (Int)) => (ts_retp (d := D.int (if (decide (x_few ≤ x_many)) = true then s683 else (0))) (pe_if (e := D.int) (x := s683) (y := (0)) (pt_e (b := (decide (x_few ≤ x_many))) (pe_op2 (tap_c (px_s rfl) (tap_c (px_s rfl) tap_n)) (rds_c (rd_s rfl p_id) (rds_c (rd_s rfl p_id) rds_n)) o_le)) (pe_use rfl (Imm.nf im_int _)) pe_c) (fun env' h => by exact ⟨env', rfl, (sub_c w_id (sub_c w_id (sub_c w_an (sub_c w_an sub_n)))) env' h⟩))))) (fun r => (.f rfl (.f rfl .n)))
/-! _law_counts -/
def F__law_counts (x_sums : (List Int)) : Option (List Int) := ((repM [(0)] (x_sums.length : Int))).bind fun (r721 : (List Int)) => (((rng3 ((x_sums.length : Int) - (1)) (-(1)) (-(1)))).bind fun (l722 : List Int) => foldO (fun (s742 : ((List Int))) (x743 : Int) => ((((((rng2 (x743 + (1)) (((x_sums.length : Int) - (1)) + (1)))).bind fun (l745 : List Int) => (lcMapM l745 fun (x751 : Int) => (((((F__law_out_of x751 x743)).bind fun (r752 : Int) => ((atI s742 x751)).map fun (r753 : Int) => (r752, r753))).bind fun (p754 : (Int × Int)) => (mulM p754.1 p754.2))))).bind fun (r756 : (List Int)) => (some r756.sum))).bind fun (r757 : Int) => ((((((atI x_sums x743)).bind fun (r758 : Int) => (some (r758 - r757)))).bind fun (r759 : Int) => (setM s742 x743 r759).map fun (l761 : (List Int)) => (l761, r759))).map fun (r760 : ((List Int) × Int)) => (r760.1)) l722 (r721)).bind fun (s744 : ((List Int))) => some s744
theorem sp__law_counts (x_sums : (List Int)) : Spec G__law_counts [Eq1 ((eTO D.int) x_sums)] (F__law_counts x_sums) (fun r => (eTO D.int) r) (fun r => [Eq1 ((eTO D.int) x_sums)]) := by
  unfold F__law_counts G__law_counts b__law_counts
  exact spec_fn (Γ0 := [Sl (Eq1 ((eTO D.int) x_sums)), No, No, No, No, No]) (Γ' := fun r => [Sl (Eq1 ((eTO D.int) x_sums)), An, An, An, An, An]) ((ts_c (tb_parm (ds := fun (r721 : (List Int)) => [(eLO D.int) r721, D.int ((x_sums.length : Int) - (1))]) (ta_m (te_op2 (tap_c (px_o (pe_lst (tap_c (px_o pe_c) tap_n) rfl (Nat.le_of_ble_eq_true rfl))) (tap_c (px_o (pe_blt (tap_c (px_s rfl) tap_n) (rds_c (rd_s rfl p_id) rds_n) o_lenT)) tap_n)) (rds_c (rd_v p_lue) (rds_c rd_e rds_n)) (o_repL (e := D.int) (l := [(0)]) im_int)) fun (r721 : (List Int)) => (tap_c (px_o (pe_op2 (tap_c (px_o (pe_blt (tap_c (px_s rfl) tap_n) (rds_c (rd_s rfl p_id) rds_n) o_lenT)) (tap_c (px_o pe_c) tap_n)) (rds_c rd_e (rds_c rd_e rds_n)) o_sub)) tap_n)) (fun _ => rfl) (fun _ => (Nat.le_of_ble_eq_true rfl)) (fun (r721 : (List Int)) => (tgs_c (tg_n (Nat.le_of_ble_eq_true rfl)) (tgs_c (tg_n (Nat.le_of_ble_eq_true rfl)) tgs_n)))) fun (r721 : (List Int)) => (ts_c (tb_form (Inv := fun (s742 : ((List Int))) => [Sl (Eq1 ((eTO D.int) x_sums)), Sl (Eq1 (.lst true (List.map D.int s742))), Sl (Eq1 (D.int ((x_sums.length : Int) - (1)))), An, An, No]) (l := fun (l722 : List Int) => l722) (ei := D.int) (ti_r3 (tap_c (px_s rfl) (tap_c (px_o (pe_un (tap_c (px_o pe_c) tap_n) (rds_c rd_e rds_n) o_neg)) (tap_c (px_o (pe_un (tap_c (px_o pe_c) tap_n) (rds_c rd_e rds_n) o_neg)) tap_n))) (rds_c (rd_s rfl p_id) (rds_c rd_e (rds_c rd_e rds_n)))) (fun (l722 : List Int) => (by exact (sub_c w_id (sub_c w_id (sub_c w_id (sub_c w_an (sub_c w_an (sub_c w_id sub_n)))))))) (fun (s742 : ((List Int))) (x743 : Int) => (tg_n (Nat.le_of_ble_eq_true rfl))) (fun (s742 : ((List Int))) (x743 : Int) => (tb_c (tb_set (te_bltm (ta_m (te_ti (ti_r2 (tap_c (px_o (pe_op2 (tap_c (px_s rfl) (tap_c (px_o pe_c) tap_n)) (rds_c (rd_s rfl p_id) (rds_c rd_e rds_n)) o_add)) (tap_c (px_o (pe_op2 (tap_c (px_s rfl) (tap_c (px_o pe_c) tap_n)) (rds_c (rd_s rfl p_id) (rds_c rd_e rds_n)) o_add)) tap_n)) (rds_c rd_e (rds_c rd_e rds_n))) (fun (l745 : List Int) => (te_lcMapM (Γw := [Sl (Eq1 ((eTO D.int) x_sums)), Sl (Eq1 (.lst true (List.map D.int s742))), Sl (Eq1 (D.int ((x_sums.length : Int) - (1)))), Sl (Eq1 (D.int x743)), An, No]) (F := fun (x751 : Int) => (((((F__law_out_of x751 x743)).bind fun (r752 : Int) => ((atI s742 x751)).map fun (r753 : Int) => (r752, r753))).bind fun (p754 : (Int × Int)) => (mulM p754.1 p754.2))) (ei := D.int) (eo := D.int) pi_ds (lc_n ((by exact (sub_c w_id (sub_c w_id (sub_c w_id (sub_c w_id (sub_c w_an (sub_c w_id sub_n)))))))) (by exact ⟨rfl, trivial⟩)) (fun (x751 : Int) => (tg_n (Nat.le_of_ble_eq_true rfl))) (fun (x751 : Int) => (te_op2m (ta_mm (te_call (Ps := [Eq1 (D.int x751), Eq1 (D.int x743)]) (Pd := []) (Γ' := fun (r752 : Int) => [Sl (Eq1 ((eTO D.int) x_sums)), Sl (Eq1 (.lst true (List.map D.int s742))), Sl (Eq1 (D.int ((x_sums.length : Int) - (1)))), Sl (Eq1 (D.int x743)), An, Sl (Eq1 (D.int x751))]) (tap_c (px_s rfl) (tap_c (px_s rfl) tap_n)) (sp__law_out_of x751 x743) (by exact trivial) (fun _ => by exact (cg_i rfl (nf_eq im_int) p_id (cg_i rfl (nf_eq im_int) p_id cg_n)))) fun (r752 : Int) => (ta_m (te_op2 (tap_c (px_s rfl) (tap_c (px_s rfl) tap_n)) (rds_c (rd_s rfl p_lu) (rds_c (rd_s rfl p_id) rds_n)) (o_ixL im_int)) fun (r753 : Int) => tap_n)) (fun (p754 : (Int × Int)) => (rds_c rd_e (rds_c rd_e rds_n))) (fun (p754 : (Int × Int)) => o_mul))) (fun (x751 : Int) _ => (by exact (sub_c w_id (sub_c w_id (sub_c w_id (sub_c w_id (sub_c w_an (sub_c w_id sub_n))))))))))) fun (r756 : (List Int)) => tap_n) (fun (r756 : (List Int)) => (rds_c (rd_v p_lue) rds_n)) (fun (r756 : (List Int)) => (op_t (e := D.int) (v := r756.sum) o_sumL))) fun _ => (Nat.le_of_ble_eq_true rfl)) fun (r757 : Int) => (tb_map (φ := fun (r760 : ((List Int) × Int)) => (r760.1)) (tb_setix (e := D.int) (v := fun (r759 : Int) => r759) (l := fun (r759 : Int) => s742) (k := fun (r759 : Int) => x743) (te_op2m (ta_m (te_op2 (tap_c (px_s rfl) (tap_c (px_s rfl) tap_n)) (rds_c (rd_s rfl p_id) (rds_c (rd_s rfl p_id) rds_n)) o_ixT) fun (r758 : Int) => (tap_c (px_s rfl) tap_n)) (fun (r758 : Int) => (rds_c rd_e (rds_c (rd_s rfl p_id) rds_n))) (fun (r758 : Int) => (op_t (e := D.int) (v := (r758 - r757)) o_sub))) (fun _ => rfl) (fun _ => rfl) (fun (r759 : Int) => (px_s rfl)) (fun _ => (rd_s rfl p_id))) (fun (r760 : ((List Int) × Int)) => (by exact (sub_c w_id (sub_c w_id (sub_c w_id (sub_c w_an (sub_c w_an (sub_c w_id sub_n)))))))))))) fun (s744 : ((List Int))) => (ts_retp (d := (eTO D.int) s744) (pe_blt (tap_c (px_s rfl) tap_n) (rds_c (rd_s rfl p_lu) rds_n) (o_tupL im_int)) (fun env' h => by exact ⟨env', rfl, (sub_c w_id (sub_c w_an (sub_c w_an (sub_c w_an (sub_c w_an (sub_c w_an sub_n)))))) env' h⟩))))) (fun r => (.f rfl .n))
/-! _law_lots -/
def F__law_lots (x_many : Int) : Option (List (List Int)) := ((some ([[]], [[]]))).bind fun (r841 : ((List (List Int)) × (List (List Int)))) => (whO (fun (s873 : ((List (List Int)) × (List (List Int)))) => (some (!decide (s873.2 = ([] : List (List Int)))))) (fun (s873 : ((List (List Int)) × (List (List Int)))) => ((some ([] : List (List Int)))).bind fun (r876 : (List (List Int))) => (foldO (fun (s890 : ((List (List Int)))) (x891 : (List Int)) => ((((((((if (!decide (x891 = [])) = true then (((atI x891 (-(1)))).bind fun (r893 : Int) => (some (r893 + (1)))) else (some (0)))).bind fun (r895 : Int) => rng2 r895 x_many)).bind fun (l896 : List Int) => (lcMapM l896 fun (x899 : Int) => (catM x891 [(x899)])))).bind fun (r901 : (List (List Int))) => (catM s890 r901).map fun (l903 : (List (List Int))) => (l903, r901))).map fun (r902 : ((List (List Int)) × (List (List Int)))) => (r902.1)) s873.2 (r876)).bind fun (s892 : ((List (List Int)))) => ((catM s873.1 s892)).map fun (r904 : (List (List Int))) => (r904, s892)) 4611686018427387904 (r841.1, r841.2)).bind fun (s875 : ((List (List Int)) × (List (List Int)))) => some s875.1
theorem sp__law_lots (x_many : Int) : Spec G__law_lots [Eq1 (D.int x_many)] (F__law_lots x_many) (fun r => (eLO (eTO D.int)) r) (fun r => [Eq1 (D.int x_many)]) := by
  unfold F__law_lots G__law_lots b__law_lots
  exact spec_fn (Γ0 := [Sl (Eq1 (D.int x_many)), No, No, No, No, No]) (Γ' := fun r => [Sl (Eq1 (D.int x_many)), An, An, An, An, An]) ((ts_c (tb_pv (φ := ([[]], [[]])) (Γ' := fun (r841 : ((List (List Int)) × (List (List Int)))) => [Sl (Eq1 (D.int x_many)), Sl (Eq1 (.lst true (List.map (eTO D.int) r841.1))), Sl (Eq1 (.lst true (List.map (eTO D.int) r841.2))), No, No, No]) (tb_par2 (d := (eLO (eTO D.int)) [[]]) (d' := (eLO (eTO D.int)) [[]]) (tap_c (px_o (pe_lst (tap_c (px_o (pe_tup tap_n rfl fz_n (Nat.le_of_ble_eq_true rfl))) tap_n) rfl (Nat.le_of_ble_eq_true rfl))) (tap_c (px_o (pe_lst (tap_c (px_o (pe_tup tap_n rfl fz_n (Nat.le_of_ble_eq_true rfl))) tap_n) rfl (Nat.le_of_ble_eq_true rfl))) tap_n)) (Nat.le_of_ble_eq_true rfl) (Nat.le_of_ble_eq_true rfl)) (fun _ h => h)) fun (r841 : ((List (List Int)) × (List (List Int)))) => (ts_c (tb_while (Inv := fun (s873 : ((List (List Int)) × (List (List Int)))) => [Sl (Eq1 (D.int x_many)), Sl (Eq1 (.lst true (List.map (eTO D.int) s873.1))), Sl (Eq1 (.lst true (List.map (eTO D.int) s873.2))), An, An, No]) ((by exact (sub_c w_id (sub_c w_id (sub_c w_id (sub_c w_an (sub_c w_an (sub_c w_id sub_n)))))))) (fun (s873 : ((List (List Int)) × (List (List Int)))) => (tt_p (pt_e (b := (!decide (s873.2 = ([] : List (List Int))))) (pe_op2 (tap_c (px_s rfl) (tap_c (px_o (pe_lst tap_n rfl (Nat.le_of_ble_eq_true rfl))) tap_n)) (rds_c (rd_s rfl p_lu) (rds_c (rd_v p_lue) rds_n)) (o_neL (e := (eTO D.int)) (x := s873.2) (y := ([] : List (List Int))) (eqd_to eqd_int) (Nat.le_of_ble_eq_true rfl)))))) (fun (s873 : ((List (List Int)) × (List (List Int)))) => (tb_c (tb_set (te_p (e := (eLO (eTO D.int))) (v := ([] : List (List Int))) (pe_lst tap_n rfl (Nat.le_of_ble_eq_true rfl))) fun _ => (Nat.le_of_ble_eq_true rfl)) fun (r876 : (List (List Int))) => (tb_c (tb_for (Inv := fun (s890 : ((List (List Int)))) => [Sl (Eq1 (D.int x_many)), Sl (Eq1 (.lst true (List.map (eTO D.int) s873.1))), Sl (Eq1 (.lst false (List.map (eTO D.int) s873.2))), Sl (Eq1 (.lst true (List.map (eTO D.int) s890))), An, No]) (l := s873.2) (ei := (eTO D.int)) (pi_v (d := (eLF (eTO D.int)) s873.2) (pe_useO rfl im_to) (it_lf im_to)) ((by exact (sub_c w_id (sub_c w_id (sub_c w_id (sub_c w_id (sub_c w_an (sub_c w_id sub_n)))))))) (fun (s890 : ((List (List Int)))) (x891 : (List Int)) => (tg_n (Nat.le_of_ble_eq_true rfl))) (fun (s890 : ((List (List Int)))) (x891 : (List Int)) => (tb_map (φ := fun (r902 : ((List (List Int)) × (List (List Int)))) => (r902.1)) (tb_expr (te_extm (e := (eTO D.int)) (l := s890) (v := fun (r901 : (List (List Int))) => r901) im_to rfl (te_ti (ti_r2m (ta_m (te_ifp (pt_e (b := (!decide (x891 = []))) (pe_op2 (tap_c (px_s rfl) (tap_c (px_o (pe_tup tap_n rfl fz_n (Nat.le_of_ble_eq_true rfl))) tap_n)) (rds_c (rd_s rfl p_id) (rds_c rd_e rds_n)) (o_ne (e := (eTO D.int)) (x := x891) (y := []) (eqd_to eqd_int) (Nat.le_of_ble_eq_true rfl)))) (te_op2m (ta_m (te_op2 (tap_c (px_s rfl) (tap_c (px_o (pe_un (tap_c (px_o pe_c) tap_n) (rds_c rd_e rds_n) o_neg)) tap_n)) (rds_c (rd_s rfl p_id) (rds_c rd_e rds_n)) o_ixT) fun (r893 : Int) => (tap_c (px_o pe_c) tap_n)) (fun (r893 : Int) => (rds_c rd_e (rds_c rd_e rds_n))) (fun (r893 : Int) => (op_t (e := D.int) (v := (r893 + (1))) o_add))) (te_p (e := D.int) (v := (0)) pe_c)) fun (r895 : Int) => (tap_c (px_s rfl) tap_n)) (fun (r895 : Int) => (rds_c rd_e (rds_c (rd_s rfl p_id) rds_n)))) (fun (l896 : List Int) => (te_lcMapM (Γw := [Sl (Eq1 (D.int x_many)), Sl (Eq1 (.lst true (List.map (eTO D.int) s873.1))), Sl (Eq1 (.lst false (List.map (eTO D.int) s873.2))), Sl (Eq1 (.lst true (List.map (eTO D.int) s890))), Sl (Eq1 ((eTO D.int) x891)), No]) (F := fun (x899 : Int) => (catM x891 [(x899)])) (ei := D.int) (eo := (eTO D.int)) pi_ds (lc_n ((by exact (sub_c w_id (sub_c w_id (sub_c w_id (sub_c w_id (sub_c w_id (sub_c w_id sub_n)))))))) (by exact ⟨rfl, trivial⟩)) (fun (x899 : Int) => (tg_n (Nat.le_of_ble_eq_true rfl))) (fun (x899 : Int) => (te_op2 (tap_c (px_s rfl) (tap_c (px_o (pe_tup (tap_c (px_o (pe_use rfl (Imm.nf im_int _))) tap_n) rfl (fz_i (Imm.nf (e := D.int) im_int x899) fz_n) (Nat.le_of_ble_eq_true rfl))) tap_n)) (rds_c (rd_s rfl p_id) (rds_c rd_e rds_n)) (o_catT (e := D.int) (l := x891) (m := [(x899)])))) (fun (x899 : Int) _ => (by exact (sub_c w_id (sub_c w_id (sub_c w_id (sub_c w_id (sub_c w_id (sub_c w_id sub_n))))))))))) (fun _ => rfl) (fun _ => ⟨_, rfl⟩))) (fun (r902 : ((List (List Int)) × (List (List Int)))) => (by exact (sub_c w_id (sub_c w_id (sub_c w_id (sub_c w_id (sub_c w_an (sub_c w_id sub_n))))))))))) fun (s892 : ((List (List Int)))) => (tb_map (φ := fun (r904 : (List (List Int))) => (r904, s892)) (tb_par2m (d := fun (r904 : (List (List Int))) => (eLO (eTO D.int)) r904) (d' := fun (r904 : (List (List Int))) => (eLO (eTO D.int)) s892) (ta_m (te_op2 (tap_c (px_s rfl) (tap_c (px_s rfl) tap_n)) (rds_c (rd_s rfl p_lu) (rds_c (rd_s rfl p_lu) rds_n)) (o_catL (e := (eTO D.int)) (l := s873.1) (m := s892) im_to)) fun (r904 : (List (List Int))) => (tap_c (px_o (pe_blt (tap_c (px_s rfl) tap_n) (rds_c (rd_s rfl p_lu) rds_n) (o_listL im_to))) tap_n)) (fun _ => rfl) (fun _ => (Nat.le_of_ble_eq_true rfl)) (fun _ => (Nat.le_of_ble_eq_true rfl))) (fun (r904 : (List (List Int))) => (by exact (sub_c w_id (sub_c w_id (sub_c w_id (sub_c w_an (sub_c w_an (sub_c w_id sub_n))))))))))))) fun (s875 : ((List (List Int)) × (List (List Int)))) => (ts_retp (d := (eLO (eTO D.int)) s875.1) (pe_move rfl) (fun env' h => by exact ⟨env', rfl, (sub_c w_id (sub_c w_an (sub_c w_an (sub_c w_an (sub_c w_an (sub_c w_an sub_n)))))) env' h⟩))))) (fun r => (.f rfl .n))
/-! _law_meets -/
def F__law_meets (x_things : Int) (x_sets : (List (List Int))) : Option (List Int) := ((repM [(0)] ((x_sets.length : Int) + (1)))).bind fun (r960 : (List Int)) => (((F__law_lots (x_sets.length : Int))).bind fun (r961 : (List (List Int))) => foldO (fun (s988 : ((List Int))) (x989 : (List Int)) => ((((rng1 x_things)).bind fun (l991 : List Int) => (lcFilM l991 (fun (x1001 : Int) => (((lcFilM x989 (fun (x1005 : Int) => (((atI x_sets x1005)).bind fun (r1006 : (List Int)) => (some (!decide (x1001 ∈ r1006))))) fun (x1005 : Int) => (some (1)))).bind fun (r1008 : (List Int)) => (some (decide (r1008 = ([] : List Int)))))) fun (x1001 : Int) => (some x1001)))).bind fun (r1010 : (List Int)) => ((((((atI s988 (x989.length : Int))).bind fun (r1011 : Int) => (some (r1011 + (r1010.length : Int))))).bind fun (r1012 : Int) => (setM s988 (x989.length : Int) r1012).map fun (l1014 : (List Int)) => (l1014, r1012))).map fun (r1013 : ((List Int) × Int)) => (r1013.1)) r961 (r960)).bind fun (s990 : ((List Int))) => some s990
theorem sp__law_meets (x_things : Int) (x_sets : (List (List Int))) : Spec G__law_meets [Eq1 (D.int x_things), Eq1 ((eTO (eTO D.int)) x_sets)] (F__law_meets x_things x_sets) (fun r => (eTO D.int) r) (fun r => [Eq1 (D.int x_things), Eq1 ((eTO (eTO D.int)) x_sets)]) := by
  unfold F__law_meets G__law_meets b__law_meets
  exact spec_fn (Γ0 := [Sl (Eq1 (D.int x_things)), Sl (Eq1 ((eTO (eTO D.int)) x_sets)), No, No, No, No, No]) (Γ' := fun r => [Sl (Eq1 (D.int x_things)), Sl (Eq1 ((eTO (eTO D.int)) x_sets)), An, An, An, An, An]) ((ts_c (tb_set (te_op2 (tap_c (px_o (pe_lst (tap_c (px_o pe_c) tap_n) rfl (Nat.le_of_ble_eq_true rfl))) (tap_c (px_o (pe_op2 (tap_c (px_o (pe_blt (tap_c (px_s rfl) tap_n) (rds_c (rd_s rfl p_id) rds_n) o_lenT)) (tap_c (px_o pe_c) tap_n)) (rds_c rd_e (rds_c rd_e rds_n)) o_add)) tap_n)) (rds_c (rd_v p_lue) (rds_c rd_e rds_n)) (o_repL (e := D.int) (l := [(0)]) im_int)) fun _ => (Nat.le_of_ble_eq_true rfl)) fun (r960 : (List Int)) => (ts_c (tb_form (Inv := fun (s988 : ((List Int))) => [Sl (Eq1 (D.int x_things)), Sl (Eq1 ((eTO (eTO D.int)) x_sets)), Sl (Eq1 (.lst true (List.map D.int s988))), An, An, No, No]) (l := fun (r961 : (List (List Int))) => r961) (ei := (eTO D.int)) (ti_v (e := fun (r961 : (List (List Int))) => (eLO (eTO D.int)) r961) (te_call (Ps := [Eq1 (D.int (x_sets.length : Int))]) (Pd := []) (Γ' := fun (r961 : (List (List Int))) => [Sl (Eq1 (D.int x_things)), Sl (Eq1 ((eTO (eTO D.int)) x_sets)), Sl (Eq1 (.lst true (List.map D.int r960))), No, No, No, No]) (tap_c (px_o (pe_blt (tap_c (px_s rfl) tap_n) (rds_c (rd_s rfl p_id) rds_n) o_lenT)) tap_n) (sp__law_lots (x_sets.length : Int)) (by exact trivial) (fun _ => by exact (cg_v e1r cg_n))) (fun _ => (it_lo im_to))) (fun (r961 : (List (List Int))) => (by exact (sub_c w_id (sub_c w_id (sub_c w_id (sub_c w_an (sub_c w_an (sub_c w_id (sub_c w_id sub_n))))))))) (fun (s988 : ((List Int))) (x989 : (List Int)) => (tg_n (Nat.le_of_ble_eq_true rfl))) (fun (s988 : ((List Int))) (x989 : (List Int)) => (tb_c (tb_set (te_ti (ti_r1 (tap_c (px_s rfl) tap_n) (rds_c (rd_s rfl p_id) rds_n)) (fun (l991 : List Int) => (te_lcFilM (Γw := [Sl (Eq1 (D.int x_things)), Sl (Eq1 ((eTO (eTO D.int)) x_sets)), Sl (Eq1 (.lst true (List.map D.int s988))), Sl (Eq1 ((eTO D.int) x989)), An, No, No]) (p := fun (x1001 : Int) => (((lcFilM x989 (fun (x1005 : Int) => (((atI x_sets x1005)).bind fun (r1006 : (List Int)) => (some (!decide (x1001 ∈ r1006))))) fun (x1005 : Int) => (some (1)))).bind fun (r1008 : (List Int)) => (some (decide (r1008 = ([] : List Int)))))) (F := fun (x1001 : Int) => (some x1001)) (ei := D.int) (eo := D.int) pi_ds (lc_n ((by exact (sub_c w_id (sub_c w_id (sub_c w_id (sub_c w_id (sub_c w_an (sub_c w_id (sub_c w_id sub_n))))))))) (by exact ⟨rfl, trivial⟩)) (fun (x1001 : Int) => (tg_n (Nat.le_of_ble_eq_true rfl))) (fun (x1001 : Int) => (tt_e (b := fun (r1009 : Bool) => r1009) (te_op2m (ta_m (te_lcFilM (Γw := [Sl (Eq1 (D.int x_things)), Sl (Eq1 ((eTO (eTO D.int)) x_sets)), Sl (Eq1 (.lst true (List.map D.int s988))), Sl (Eq1 ((eTO D.int) x989)), An, Sl (Eq1 (D.int x1001)), No]) (p := fun (x1005 : Int) => (((atI x_sets x1005)).bind fun (r1006 : (List Int)) => (some (!decide (x1001 ∈ r1006))))) (F := fun (x1005 : Int) => (some (1))) (ei := D.int) (eo := D.int) (pi_st rfl) (lc_n ((by exact (sub_c w_id (sub_c w_id (sub_c w_id (sub_c w_id (sub_c w_an (sub_c w_id (sub_c w_id sub_n))))))))) (by exact ⟨rfl, trivial⟩)) (fun (x1005 : Int) => (tg_n (Nat.le_of_ble_eq_true rfl))) (fun (x1005 : Int) => (tt_e (b := fun (r1007 : Bool) => r1007) (te_op2m (ta_p (px_s rfl) (ta_m (te_op2 (tap_c (px_s rfl) (tap_c (px_s rfl) tap_n)) (rds_c (rd_s rfl p_id) (rds_c (rd_s rfl p_id) rds_n)) o_ixT) fun (r1006 : (List Int)) => tap_n)) (fun (r1006 : (List Int)) => (rds_c (rd_s rfl p_id) (rds_c rd_e rds_n))) (fun (r1006 : (List Int)) => (op_t (e := D.bl) (v := (!decide (x1001 ∈ r1006))) o_ninT))) (fun _ => rfl))) (fun (x1005 : Int) => (te_p (e := D.int) (v := (1)) pe_c)) (fun (x1005 : Int) _ => (by exact (sub_c w_id (sub_c w_id (sub_c w_id (sub_c w_id (sub_c w_an (sub_c w_id (sub_c w_id sub_n))))))))) (fun (x1005 : Int) => (by exact (sub_c w_id (sub_c w_id (sub_c w_id (sub_c w_id (sub_c w_an (sub_c w_id (sub_c w_id sub_n)))))))))) fun (r1008 : (List Int)) => (tap_c (px_o (pe_lst tap_n rfl (Nat.le_of_ble_eq_true rfl))) tap_n)) (fun (r1008 : (List Int)) => (rds_c (rd_v p_lue) (rds_c (rd_v p_lue) rds_n))) (fun (r1008 : (List Int)) => (op_t (e := D.bl) (v := (decide (r1008 = ([] : List Int)))) (o_eqL (e := D.int) (x := r1008) (y := ([] : List Int)) eqd_int (Nat.le_of_ble_eq_true rfl))))) (fun _ => rfl))) (fun (x1001 : Int) => (te_p (e := D.int) (v := x1001) (pe_use rfl (Imm.nf im_int _)))) (fun (x1001 : Int) _ => (by exact (sub_c w_id (sub_c w_id (sub_c w_id (sub_c w_id (sub_c w_an (sub_c w_id (sub_c w_id sub_n))))))))) (fun (x1001 : Int) => (by exact (sub_c w_id (sub_c w_id (sub_c w_id (sub_c w_id (sub_c w_an (sub_c w_id (sub_c w_id sub_n)))))))))))) fun _ => (Nat.le_of_ble_eq_true rfl)) fun (r1010 : (List Int)) => (tb_map (φ := fun (r1013 : ((List Int) × Int)) => (r1013.1)) (tb_setix (e := D.int) (v := fun (r1012 : Int) => r1012) (l := fun (r1012 : Int) => s988) (k := fun (r1012 : Int) => (x989.length : Int)) (te_op2m (ta_m (te_op2 (tap_c (px_s rfl) (tap_c (px_o (pe_blt (tap_c (px_s rfl) tap_n) (rds_c (rd_s rfl p_id) rds_n) o_lenT)) tap_n)) (rds_c (rd_s rfl p_lu) (rds_c rd_e rds_n)) (o_ixL im_int)) fun (r1011 : Int) => (tap_c (px_o (pe_blt (tap_c (px_s rfl) tap_n) (rds_c (rd_s rfl p_lu) rds_n) o_lenL)) tap_n)) (fun (r1011 : Int) => (rds_c rd_e (rds_c rd_e rds_n))) (fun (r1011 : Int) => (op_t (e := D.int) (v := (r1011 + (r1010.length : Int))) o_add))) (fun _ => rfl) (fun _ => rfl) (fun (r1012 : Int) => (px_o (pe_blt (tap_c (px_s rfl) tap_n) (rds_c (rd_s rfl p_id) rds_n) o_lenT))) (fun _ => rd_e)) (fun (r1013 : ((List Int) × Int)) => (by exact (sub_c w_id (sub_c w_id (sub_c w_id (sub_c w_an (sub_c w_an (sub_c w_id (sub_c w_id sub_n))))))))))))) fun (s990 : ((List Int))) => (ts_retp (d := (eTO D.int) s990) (pe_blt (tap_c (px_s rfl) tap_n) (rds_c (rd_s rfl p_lu) rds_n) (o_tupL im_int)) (fun env' h => by exact ⟨env', rfl, (sub_c w_id (sub_c w_id (sub_c w_an (sub_c w_an (sub_c w_an (sub_c w_an (sub_c w_an sub_n))))))) env' h⟩))))) (fun r => (.f rfl (.f rfl .n)))
/-! _law_is_whole -/
def F__law_is_whole (x_value : U) : Option Bool := (((opB (dIsi x_value.1 (.ty "int")))).bind fun a => if a = true then (((opB (dIsi x_value.1 (.ty "bool")))).map fun (r1029 : Bool) => (!r1029)) else some false)
theorem sp__law_is_whole (x_value : U) : Spec G__law_is_whole [Eq1 (eU x_value)] (F__law_is_whole x_value) (fun r => D.bl r) (fun r => [Eq1 (eU x_value)]) := by
  unfold F__law_is_whole G__law_is_whole b__law_is_whole
  exact spec_fn (Γ0 := [Sl (Eq1 (eU x_value))]) (Γ' := fun r => [Sl (Eq1 (eU x_value))]) ((ts_ret0 (te_and (te_blt (tap_c (px_s rfl) (tap_c (px_o pe_c) tap_n)) (rds_c (rd_s rfl p_id) (rds_c rd_e rds_n)) o_dB) (te_map (φ := fun (r1029 : Bool) => (!r1029)) (e' := D.bl) (Γ2 := fun _ => [Sl (Eq1 (eU x_value))]) (te_not (e' := fun (r1029 : Bool) => .bl (!r1029)) (te_blt (tap_c (px_s rfl) (tap_c (px_o pe_c) tap_n)) (rds_c (rd_s rfl p_id) (rds_c rd_e rds_n)) o_dB) (fun _ => rfl) (fun _ => rfl)) (fun _ => rfl) (fun _ => rfl))) (fun r env' h => by exact ⟨env', rfl, (sub_c w_id sub_n) env' h⟩))) (fun r => (.f rfl .n))
/-! _law_meets_1 -/
def F__law_meets_1 (x_things : Int) (x_sets : U) : Option (List Int) := ((((((opI (dLen x_sets.1))).bind fun (r1164 : Int) => (some (r1164 + (1))))).bind fun (r1165 : Int) => (repM [(0)] r1165))).bind fun (r1166 : (List Int)) => (((((opI (dLen x_sets.1))).bind fun (r1167 : Int) => (F__law_lots r1167))).bind fun (r1168 : (List (List Int))) => foldO (fun (s1195 : ((List Int))) (x1196 : (List Int)) => ((((rng1 x_things)).bind fun (l1198 : List Int) => (lcFilM l1198 (fun (x1208 : Int) => (((lcFilM x1196 (fun (x1212 : Int) => (((opU (dIx x_sets.1 (.int x1212)))).bind fun (r1213 : U) => (opB (dIn true (D.int x1208) r1213.1)))) fun (x1212 : Int) => (some (1)))).bind fun (r1215 : (List Int)) => (some (decide (r1215 = ([] : List Int)))))) fun (x1208 : Int) => (some x1208)))).bind fun (r1217 : (List Int)) => ((((((atI s1195 (x1196.length : Int))).bind fun (r1218 : Int) => (some (r1218 + (r1217.length : Int))))).bind fun (r1219 : Int) => (setM s1195 (x1196.length : Int) r1219).map fun (l1221 : (List Int)) => (l1221, r1219))).map fun (r1220 : ((List Int) × Int)) => (r1220.1)) r1168 (r1166)).bind fun (s1197 : ((List Int))) => some s1197
theorem sp__law_meets_1 (x_things : Int) (x_sets : U) : Spec G__law_meets [Eq1 (D.int x_things), Eq1 (eU x_sets)] (F__law_meets_1 x_things x_sets) (fun r => (eTO D.int) r) (fun r => [Eq1 (D.int x_things), Eq1 (eU x_sets)]) := by
  unfold F__law_meets_1 G__law_meets b__law_meets
  exact spec_fn (Γ0 := [Sl (Eq1 (D.int x_things)), Sl (Eq1 (eU x_sets)), No, No, No, No, No]) (Γ' := fun r => [Sl (Eq1 (D.int x_things)), Sl (Eq1 (eU x_sets)), An, An, An, An, An]) ((ts_c (tb_set (te_op2m (ta_p (px_o (pe_lst (tap_c (px_o pe_c) tap_n) rfl (Nat.le_of_ble_eq_true rfl))) (ta_m (te_op2m (ta_m (te_blt (tap_c (px_s rfl) tap_n) (rds_c (rd_s rfl p_id) rds_n) o_1I) fun (r1164 : Int) => (tap_c (px_o pe_c) tap_n)) (fun (r1164 : Int) => (rds_c rd_e (rds_c rd_e rds_n))) (fun (r1164 : Int) => (op_t (e := D.int) (v := (r1164 + (1))) o_add))) fun (r1165 : Int) => tap_n)) (fun (r1165 : Int) => (rds_c (rd_v p_lue) (rds_c rd_e rds_n))) (fun (r1165 : Int) => (o_repL (e := D.int) (l := [(0)]) im_int))) fun _ => (Nat.le_of_ble_eq_true rfl)) fun (r1166 : (List Int)) => (ts_c (tb_form (Inv := fun (s1195 : ((List Int))) => [Sl (Eq1 (D.int x_things)), Sl (Eq1 (eU x_sets)), Sl (Eq1 (.lst true (List.map D.int s1195))), An, An, No, No]) (l := fun (r1168 : (List (List Int))) => r1168) (ei := (eTO D.int)) (ti_v (e := fun (r1168 : (List (List Int))) => (eLO (eTO D.int)) r1168) (te_callb (Ps := fun (r1167 : Int) => [Eq1 (D.int r1167)]) (Pd := []) (Γ' := fun (r1168 : (List (List Int))) => [Sl (Eq1 (D.int x_things)), Sl (Eq1 (eU x_sets)), Sl (Eq1 (.lst true (List.map D.int r1166))), No, No, No, No]) (ta_m (te_blt (tap_c (px_s rfl) tap_n) (rds_c (rd_s rfl p_id) rds_n) o_1I) fun (r1167 : Int) => tap_n) (fun (r1167 : Int) => (sp__law_lots r1167)) (by exact trivial) (fun _ _ => by exact (cg_v e1r cg_n))) (fun _ => (it_lo im_to))) (fun (r1168 : (List (List Int))) => (by exact (sub_c w_id (sub_c w_id (sub_c w_id (sub_c w_an (sub_c w_an (sub_c w_id (sub_c w_id sub_n))))))))) (fun (s1195 : ((List Int))) (x1196 : (List Int)) => (tg_n (Nat.le_of_ble_eq_true rfl))) (fun (s1195 : ((List Int))) (x1196 : (List Int)) => (tb_c (tb_set (te_ti (ti_r1 (tap_c (px_s rfl) tap_n) (rds_c (rd_s rfl p_id) rds_n)) (fun (l1198 : List Int) => (te_lcFilM (Γw := [Sl (Eq1 (D.int x_things)), Sl (Eq1 (eU x_sets)), Sl (Eq1 (.lst true (List.map D.int s1195))), Sl (Eq1 ((eTO D.int) x1196)), An, No, No]) (p := fun (x1208 : Int) => (((lcFilM x1196 (fun (x1212 : Int) => (((opU (dIx x_sets.1 (.int x1212)))).bind fun (r1213 : U) => (opB (dIn true (D.int x1208) r1213.1)))) fun (x1212 : Int) => (some (1)))).bind fun (r1215 : (List Int)) => (some (decide (r1215 = ([] : List Int)))))) (F := fun (x1208 : Int) => (some x1208)) (ei := D.int) (eo := D.int) pi_ds (lc_n ((by exact (sub_c w_id (sub_c w_id (sub_c w_id (sub_c w_id (sub_c w_an (sub_c w_id (sub_c w_id sub_n))))))))) (by exact ⟨rfl, trivial⟩)) (fun (x1208 : Int) => (tg_n (Nat.le_of_ble_eq_true rfl))) (fun (x1208 : Int) => (tt_e (b := fun (r1216 : Bool) => r1216) (te_op2m (ta_m (te_lcFilM (Γw := [Sl (Eq1 (D.int x_things)), Sl (Eq1 (eU x_sets)), Sl (Eq1 (.lst true (List.map D.int s1195))), Sl (Eq1 ((eTO D.int) x1196)), An, Sl (Eq1 (D.int x1208)), No]) (p := fun (x1212 : Int) => (((opU (dIx x_sets.1 (.int x1212)))).bind fun (r1213 : U) => (opB (dIn true (D.int x1208) r1213.1)))) (F := fun (x1212 : Int) => (some (1))) (ei := D.int) (eo := D.int) (pi_st rfl) (lc_n ((by exact (sub_c w_id (sub_c w_id (sub_c w_id (sub_c w_id (sub_c w_an (sub_c w_id (sub_c w_id sub_n))))))))) (by exact ⟨rfl, trivial⟩)) (fun (x1212 : Int) => (tg_n (Nat.le_of_ble_eq_true rfl))) (fun (x1212 : Int) => (tt_e (b := fun (r1214 : Bool) => r1214) (te_op2m (ta_p (px_s rfl) (ta_m (te_op2 (tap_c (px_s rfl) (tap_c (px_s rfl) tap_n)) (rds_c (rd_s rfl p_id) (rds_c (rd_s rfl p_id) rds_n)) o_dU) fun (r1213 : U) => tap_n)) (fun (r1213 : U) => (rds_c (rd_s rfl p_id) (rds_c rd_e rds_n))) (fun (r1213 : U) => o_dB)) (fun _ => rfl))) (fun (x1212 : Int) => (te_p (e := D.int) (v := (1)) pe_c)) (fun (x1212 : Int) _ => (by exact (sub_c w_id (sub_c w_id (sub_c w_id (sub_c w_id (sub_c w_an (sub_c w_id (sub_c w_id sub_n))))))))) (fun (x1212 : Int) => (by exact (sub_c w_id (sub_c w_id (sub_c w_id (sub_c w_id (sub_c w_an (sub_c w_id (sub_c w_id sub_n)))))))))) fun (r1215 : (List Int)) => (tap_c (px_o (pe_lst tap_n rfl (Nat.le_of_ble_eq_true rfl))) tap_n)) (fun (r1215 : (List Int)) => (rds_c (rd_v p_lue) (rds_c (rd_v p_lue) rds_n))) (fun (r1215 : (List Int)) => (op_t (e := D.bl) (v := (decide (r1215 = ([] : List Int)))) (o_eqL (e := D.int) (x := r1215) (y := ([] : List Int)) eqd_int (Nat.le_of_ble_eq_true rfl))))) (fun _ => rfl))) (fun (x1208 : Int) => (te_p (e := D.int) (v := x1208) (pe_use rfl (Imm.nf im_int _)))) (fun (x1208 : Int) _ => (by exact (sub_c w_id (sub_c w_id (sub_c w_id (sub_c w_id (sub_c w_an (sub_c w_id (sub_c w_id sub_n))))))))) (fun (x1208 : Int) => (by exact (sub_c w_id (sub_c w_id (sub_c w_id (sub_c w_id (sub_c w_an (sub_c w_id (sub_c w_id sub_n)))))))))))) fun _ => (Nat.le_of_ble_eq_true rfl)) fun (r1217 : (List Int)) => (tb_map (φ := fun (r1220 : ((List Int) × Int)) => (r1220.1)) (tb_setix (e := D.int) (v := fun (r1219 : Int) => r1219) (l := fun (r1219 : Int) => s1195) (k := fun (r1219 : Int) => (x1196.length : Int)) (te_op2m (ta_m (te_op2 (tap_c (px_s rfl) (tap_c (px_o (pe_blt (tap_c (px_s rfl) tap_n) (rds_c (rd_s rfl p_id) rds_n) o_lenT)) tap_n)) (rds_c (rd_s rfl p_lu) (rds_c rd_e rds_n)) (o_ixL im_int)) fun (r1218 : Int) => (tap_c (px_o (pe_blt (tap_c (px_s rfl) tap_n) (rds_c (rd_s rfl p_lu) rds_n) o_lenL)) tap_n)) (fun (r1218 : Int) => (rds_c rd_e (rds_c rd_e rds_n))) (fun (r1218 : Int) => (op_t (e := D.int) (v := (r1218 + (r1217.length : Int))) o_add))) (fun _ => rfl) (fun _ => rfl) (fun (r1219 : Int) => (px_o (pe_blt (tap_c (px_s rfl) tap_n) (rds_c (rd_s rfl p_id) rds_n) o_lenT))) (fun _ => rd_e)) (fun (r1220 : ((List Int) × Int)) => (by exact (sub_c w_id (sub_c w_id (sub_c w_id (sub_c w_an (sub_c w_an (sub_c w_id (sub_c w_id sub_n))))))))))))) fun (s1197 : ((List Int))) => (ts_retp (d := (eTO D.int) s1197) (pe_blt (tap_c (px_s rfl) tap_n) (rds_c (rd_s rfl p_lu) rds_n) (o_tupL im_int)) (fun env' h => by exact ⟨env', rfl, (sub_c w_id (sub_c w_id (sub_c w_an (sub_c w_an (sub_c w_an (sub_c w_an (sub_c w_an sub_n))))))) env' h⟩))))) (fun r => (.f rfl (.f rfl .n)))
/-! _law_are_sets -/
def F__law_are_sets (x_sums : (List Int)) (x_value : U) : Option Str := ((((((opB (dIsi x_value.1 (.ty "tuple")))).map fun (r1226 : Bool) => (!r1226))).bind fun a => if a = true then some true else (((((opI (dLen x_value.1))).bind fun (r1227 : Int) => (some (!decide (r1227 = (2)))))).bind fun a => if a = true then some true else (((((opU (dIx x_value.1 (.int (0))))).bind fun (r1229 : U) => (opB (dIsi r1229.1 (.ty "str"))))).map fun (r1230 : Bool) => (!r1230))))).bind fun (r1232 : Bool) => if r1232 = true then some ("" : Str) else ((((opU (dIx x_value.1 (.int (0))))).bind fun (r1233 : U) => (opB (dEq false r1233.1 (D.str ("lack" : Str)))))).bind fun (r1234 : Bool) => if r1234 = true then ((((((((opU (dIx x_value.1 (.int (1))))).bind fun (r1235 : U) => (F__law_is_whole r1235))).map fun (r1236 : Bool) => (!r1236))).bind fun a => if a = true then some true else (((((opU (dIx x_value.1 (.int (1))))).bind fun (r1237 : U) => ((opB (dLe (D.int (0)) r1237.1))).bind fun b => if b = true then (opB (dLt r1237.1 (D.int (x_sums.length : Int)))) else some false)).map fun (r1238 : Bool) => (!r1238)))).bind fun (r1239 : Bool) => if r1239 = true then some ("" : Str) else (((((((((F__law_counts x_sums)).bind fun (r1240 : (List Int)) => ((opU (dIx x_value.1 (.int (1))))).map fun (r1241 : U) => (r1240, r1241))).bind fun (p1242 : ((List Int) × U)) => (opI (dIx ((eTO D.int) p1242.1) p1242.2.1)))).bind fun (r1243 : Int) => (some (decide (r1243 < (0)))))).bind fun (r1244 : Bool) => if r1244 = true then (some ("lack" : Str)) else (some ("" : Str))) else ((((((opU (dIx x_value.1 (.int (0))))).bind fun (r1246 : U) => (opB (dEq true r1246.1 (D.str ("sets" : Str)))))).bind fun a => if a = true then some true else (((((((opU (dIx x_value.1 (.int (1))))).bind fun (r1248 : U) => (opB (dIsi r1248.1 (.ty "tuple"))))).map fun (r1249 : Bool) => (!r1249))).bind fun a => if a = true then some true else (((((opU (dIx x_value.1 (.int (1))))).bind fun (r1250 : U) => (opI (dLen r1250.1)))).bind fun (r1251 : Int) => (some (!decide (r1251 = ((x_sums.length : Int) - (1))))))))).bind fun (r1254 : Bool) => if r1254 = true then some ("" : Str) else ((((opU (dIx x_value.1 (.int (1))))).bind fun (r1255 : U) => itU r1255)).bind fun (l1256 : List U) => orR (forF (fun (s1282 : (Unit)) (x1283 : U) => (((((((opB (dIsi x1283.1 (.ty "tuple")))).map fun (r1285 : Bool) => (!r1285))).bind fun a => if a = true then some true else (((((itU x1283)).bind fun (l1286 : List U) => (lcFilM l1286 (fun (x1289 : U) => (((F__law_is_whole x1289)).map fun (r1290 : Bool) => (!r1290))) fun (x1289 : U) => (some (1))))).bind fun (r1291 : (List Int)) => (some (!decide (r1291 = ([] : List Int))))))).bind fun (r1293 : Bool) => if r1293 = true then some (Fl.rt ("" : Str)) else ((((((((listU x1283.1)).bind fun (r1294 : (List U)) => ((sortU x1283.1)).map fun (r1295 : (List Int)) => (r1294, r1295))).bind fun (p1296 : ((List U) × (List Int))) => (opB (dEq true ((eLO eU) p1296.1) ((eLO D.int) p1296.2))))).bind fun a => if a = true then some true else (((((itU x1283)).bind fun (l1298 : List U) => (lcFilM l1298 (fun (x1302 : U) => (((((opB (dLe (D.int (0)) x1302.1))).bind fun b => if b = true then ((atI x_sums (0))).bind fun (r1303 : Int) => (opB (dLt x1302.1 (D.int r1303))) else some false)).map fun (r1304 : Bool) => (!r1304))) fun (x1302 : U) => (some (1))))).bind fun (r1305 : (List Int)) => (some (!decide (r1305 = ([] : List Int))))))).bind fun (r1307 : Bool) => if r1307 = true then some (Fl.rt ("" : Str)) else some (Fl.go ()) : Option (Fl (Unit) Str))) l1256 ()) (fun (s1284 : (Unit)) => (((((((((atI x_sums (0))).bind fun (r1308 : Int) => ((opU (dIx x_value.1 (.int (1))))).map fun (r1309 : U) => (r1308, r1309))).bind fun (p1310 : (Int × U)) => (F__law_meets_1 p1310.1 p1310.2))).bind fun (r1311 : (List Int)) => (some (decide (r1311 = x_sums))))).bind fun (r1312 : Bool) => if r1312 = true then (some ("sets" : Str)) else (some ("" : Str)))) (fun r1314 => r1314)
theorem sp__law_are_sets (x_sums : (List Int)) (x_value : U) : Spec G__law_are_sets [Eq1 ((eTO D.int) x_sums), Eq1 (eU x_value)] (F__law_are_sets x_sums x_value) (fun r => D.str r) (fun r => [Eq1 ((eTO D.int) x_sums), Eq1 (eU x_value)]) := by
  unfold F__law_are_sets G__law_are_sets b__law_are_sets
  exact spec_fn (Γ0 := [Sl (Eq1 ((eTO D.int) x_sums)), Sl (Eq1 (eU x_value)), No, No]) (Γ' := fun r => [Sl (Eq1 ((eTO D.int) x_sums)), Sl (Eq1 (eU x_value)), An, An]) ((ts_if0 ir_si (tt_or (tt_map (tt_n (tt_e (b := fun (r1226 : Bool) => r1226) (te_blt (tap_c (px_s rfl) (tap_c (px_o pe_c) tap_n)) (rds_c (rd_s rfl p_id) (rds_c rd_e rds_n)) o_dB) (fun _ => rfl)))) (tt_or (tt_e (b := fun (r1228 : Bool) => r1228) (te_op2m (ta_m (te_blt (tap_c (px_s rfl) tap_n) (rds_c (rd_s rfl p_id) rds_n) o_1I) fun (r1227 : Int) => (tap_c (px_o pe_c) tap_n)) (fun (r1227 : Int) => (rds_c rd_e (rds_c rd_e rds_n))) (fun (r1227 : Int) => (op_t (e := D.bl) (v := (!decide (r1227 = (2)))) (o_ne (e := D.int) (x := r1227) (y := (2)) eqd_int (Nat.le_of_ble_eq_true rfl))))) (fun _ => rfl)) (tt_map (tt_n (tt_e (b := fun (r1230 : Bool) => r1230) (te_bltm (ta_m (te_op2 (tap_c (px_s rfl) (tap_c (px_o pe_c) tap_n)) (rds_c (rd_s rfl p_id) (rds_c rd_e rds_n)) o_dU) fun (r1229 : U) => (tap_c (px_o pe_c) tap_n)) (fun (r1229 : U) => (rds_c rd_e (rds_c rd_e rds_n))) (fun (r1229 : U) => o_dB)) (fun _ => rfl)))))) (fun (r1232 : Bool) => (ts_retp (d := D.str ("" : Str)) pe_c (fun env' h => by exact ⟨env', rfl, (sub_c w_id (sub_c w_id (sub_c w_an (sub_c w_an sub_n)))) env' h⟩))) (fun (r1232 : Bool) => (ts_if0 ir_si (tt_e (b := fun (r1234 : Bool) => r1234) (te_op2m (ta_m (te_op2 (tap_c (px_s rfl) (tap_c (px_o pe_c) tap_n)) (rds_c (rd_s rfl p_id) (rds_c rd_e rds_n)) o_dU) fun (r1233 : U) => (tap_c (px_o pe_c) tap_n)) (fun (r1233 : U) => (rds_c rd_e (rds_c rd_e rds_n))) (fun (r1233 : U) => o_dB)) (fun _ => rfl)) (fun (r1234 : Bool) => (ts_if0 ir_si (tt_or (tt_map (tt_n (tt_e (b := fun (r1236 : Bool) => r1236) (te_callb (Ps := fun (r1235 : U) => [Eq1 (eU r1235)]) (Pd := []) (Γ' := fun (r1236 : Bool) => [Sl (Eq1 ((eTO D.int) x_sums)), Sl (Eq1 (eU x_value)), No, No]) (ta_m (te_op2 (tap_c (px_s rfl) (tap_c (px_o pe_c) tap_n)) (rds_c (rd_s rfl p_id) (rds_c rd_e rds_n)) o_dU) fun (r1235 : U) => tap_n) (fun (r1235 : U) => (sp__law_is_whole r1235)) (by exact trivial) (fun _ _ => by exact (cg_v e1r cg_n))) (fun _ => rfl)))) (tt_map (tt_n (tt_e (b := fun (r1238 : Bool) => r1238) (te_chainm (px_o pe_c) (te_op2 (tap_c (px_s rfl) (tap_c (px_o pe_c) tap_n)) (rds_c (rd_s rfl p_id) (rds_c rd_e rds_n)) o_dU) (px_o (pe_blt (tap_c (px_s rfl) tap_n) (rds_c (rd_s rfl p_id) rds_n) o_lenT)) rd_e rd_e (fun (r1237 : U) => o_dB) (fun (r1237 : U) => o_dB)) (fun _ => rfl))))) (fun (r1239 : Bool) => (ts_retp (d := D.str ("" : Str)) pe_c (fun env' h => by exact ⟨env', rfl, (sub_c w_id (sub_c w_id (sub_c w_an (sub_c w_an sub_n)))) env' h⟩))) (fun (r1239 : Bool) => (ts_ret0 (te_if (tt_e (b := fun (r1244 : Bool) => r1244) (te_op2m (ta_m (te_op2m (ta_mm (te_call (Ps := [Eq1 ((eTO D.int) x_sums)]) (Pd := []) (Γ' := fun (r1240 : (List Int)) => [Sl (Eq1 ((eTO D.int) x_sums)), Sl (Eq1 (eU x_value)), No, No]) (tap_c (px_s rfl) tap_n) (sp__law_counts x_sums) (by exact trivial) (fun _ => by exact (cg_i rfl (nf_eq im_to) p_id cg_n))) fun (r1240 : (List Int)) => (ta_m (te_op2 (tap_c (px_s rfl) (tap_c (px_o pe_c) tap_n)) (rds_c (rd_s rfl p_id) (rds_c rd_e rds_n)) o_dU) fun (r1241 : U) => tap_n)) (fun (p1242 : ((List Int) × U)) => (rds_c rd_e (rds_c rd_e rds_n))) (fun (p1242 : ((List Int) × U)) => o_dI)) fun (r1243 : Int) => (tap_c (px_o pe_c) tap_n)) (fun (r1243 : Int) => (rds_c rd_e (rds_c rd_e rds_n))) (fun (r1243 : Int) => (op_t (e := D.bl) (v := (decide (r1243 < (0)))) o_lt))) (fun _ => rfl)) (fun (r1244 : Bool) => (te_p (e := D.str) (v := ("lack" : Str)) pe_c)) (fun (r1244 : Bool) => (te_p (e := D.str) (v := ("" : Str)) pe_c))) (fun r env' h => by exact ⟨env', rfl, (sub_c w_id (sub_c w_id (sub_c w_an (sub_c w_an sub_n)))) env' h⟩))))) (fun (r1234 : Bool) => (ts_if0 ir_si (tt_or (tt_e (b := fun (r1247 : Bool) => r1247) (te_op2m (ta_m (te_op2 (tap_c (px_s rfl) (tap_c (px_o pe_c) tap_n)) (rds_c (rd_s rfl p_id) (rds_c rd_e rds_n)) o_dU) fun (r1246 : U) => (tap_c (px_o pe_c) tap_n)) (fun (r1246 : U) => (rds_c rd_e (rds_c rd_e rds_n))) (fun (r1246 : U) => o_dB)) (fun _ => rfl)) (tt_or (tt_map (tt_n (tt_e (b := fun (r1249 : Bool) => r1249) (te_bltm (ta_m (te_op2 (tap_c (px_s rfl) (tap_c (px_o pe_c) tap_n)) (rds_c (rd_s rfl p_id) (rds_c rd_e rds_n)) o_dU) fun (r1248 : U) => (tap_c (px_o pe_c) tap_n)) (fun (r1248 : U) => (rds_c rd_e (rds_c rd_e rds_n))) (fun (r1248 : U) => o_dB)) (fun _ => rfl)))) (tt_e (b := fun (r1252 : Bool) => r1252) (te_op2m (ta_m (te_bltm (ta_m (te_op2 (tap_c (px_s rfl) (tap_c (px_o pe_c) tap_n)) (rds_c (rd_s rfl p_id) (rds_c rd_e rds_n)) o_dU) fun (r1250 : U) => tap_n) (fun (r1250 : U) => (rds_c rd_e rds_n)) (fun (r1250 : U) => o_1I)) fun (r1251 : Int) => (tap_c (px_o (pe_op2 (tap_c (px_o (pe_blt (tap_c (px_s rfl) tap_n) (rds_c (rd_s rfl p_id) rds_n) o_lenT)) (tap_c (px_o pe_c) tap_n)) (rds_c rd_e (rds_c rd_e rds_n)) o_sub)) tap_n)) (fun (r1251 : Int) => (rds_c rd_e (rds_c rd_e rds_n))) (fun (r1251 : Int) => (op_t (e := D.bl) (v := (!decide (r1251 = ((x_sums.length : Int) - (1))))) (o_ne (e := D.int) (x := r1251) (y := ((x_sums.length : Int) - (1))) eqd_int (Nat.le_of_ble_eq_true rfl))))) (fun _ => rfl)))) (fun (r1254 : Bool) => (ts_retp (d := D.str ("" : Str)) pe_c (fun env' h => by exact ⟨env', rfl, (sub_c w_id (sub_c w_id (sub_c w_an (sub_c w_an sub_n)))) env' h⟩))) (fun (r1254 : Bool) => (ts_form (ι := fun r1314 => r1314) (Inv := fun (s1282 : (Unit)) => [Sl (Eq1 ((eTO D.int) x_sums)), Sl (Eq1 (eU x_value)), An, No]) (l := fun (l1256 : List U) => l1256) (ei := eU) (e := fun r => D.str r) (Γr := fun r => [Sl (Eq1 ((eTO D.int) x_sums)), Sl (Eq1 (eU x_value)), An, An]) (ti_um (u := fun (r1255 : U) => r1255) (te_op2 (tap_c (px_s rfl) (tap_c (px_o pe_c) tap_n)) (rds_c (rd_s rfl p_id) (rds_c rd_e rds_n)) o_dU) (fun _ => rfl)) (fun (l1256 : List U) => (by exact (sub_c w_id (sub_c w_id (sub_c w_an (sub_c w_id sub_n)))))) (fun (s1282 : (Unit)) (x1283 : U) => (tg_n (Nat.le_of_ble_eq_true rfl))) (fun (s1282 : (Unit)) (x1283 : U) => (ts_if0 si_id (tt_or (tt_map (tt_n (tt_e (b := fun (r1285 : Bool) => r1285) (te_blt (tap_c (px_s rfl) (tap_c (px_o pe_c) tap_n)) (rds_c (rd_s rfl p_id) (rds_c rd_e rds_n)) o_dB) (fun _ => rfl)))) (tt_e (b := fun (r1292 : Bool) => r1292) (te_op2m (ta_m (te_ti (ti_us rfl) (fun (l1286 : List U) => (te_lcFilM (Γw := [Sl (Eq1 ((eTO D.int) x_sums)), Sl (Eq1 (eU x_value)), Sl (Eq1 (eU x1283)), No]) (p := fun (x1289 : U) => (((F__law_is_whole x1289)).map fun (r1290 : Bool) => (!r1290))) (F := fun (x1289 : U) => (some (1))) (ei := eU) (eo := D.int) pi_ds (lc_n ((by exact (sub_c w_id (sub_c w_id (sub_c w_id (sub_c w_id sub_n)))))) (by exact ⟨rfl, trivial⟩)) (fun (x1289 : U) => (tg_n (Nat.le_of_ble_eq_true rfl))) (fun (x1289 : U) => (tt_map (tt_n (tt_e (b := fun (r1290 : Bool) => r1290) (te_call (Ps := [Eq1 (eU x1289)]) (Pd := []) (Γ' := fun (r1290 : Bool) => [Sl (Eq1 ((eTO D.int) x_sums)), Sl (Eq1 (eU x_value)), Sl (Eq1 (eU x1283)), Sl (Eq1 (eU x1289))]) (tap_c (px_s rfl) tap_n) (sp__law_is_whole x1289) (by exact trivial) (fun _ => by exact (cg_i rfl (nf_eq im_u) p_id cg_n))) (fun _ => rfl))))) (fun (x1289 : U) => (te_p (e := D.int) (v := (1)) pe_c)) (fun (x1289 : U) _ => (by exact (sub_c w_id (sub_c w_id (sub_c w_id (sub_c w_id sub_n)))))) (fun (x1289 : U) => (by exact (sub_c w_id (sub_c w_id (sub_c w_id (sub_c w_id sub_n))))))))) fun (r1291 : (List Int)) => (tap_c (px_o (pe_lst tap_n rfl (Nat.le_of_ble_eq_true rfl))) tap_n)) (fun (r1291 : (List Int)) => (rds_c (rd_v p_lue) (rds_c (rd_v p_lue) rds_n))) (fun (r1291 : (List Int)) => (op_t (e := D.bl) (v := (!decide (r1291 = ([] : List Int)))) (o_neL (e := D.int) (x := r1291) (y := ([] : List Int)) eqd_int (Nat.le_of_ble_eq_true rfl))))) (fun _ => rfl))) (fun (r1293 : Bool) => (ts_retp (d := D.str ("" : Str)) pe_c (fun env' h => by exact ⟨⟨env', rfl, (sub_c w_id (sub_c w_id (sub_c w_an (sub_c w_an sub_n)))) env' h⟩, trivial⟩))) (fun (r1293 : Bool) => (ts_if (tt_or (tt_e (b := fun (r1297 : Bool) => r1297) (te_op2m (ta_mm (te_blt (tap_c (px_s rfl) tap_n) (rds_c (rd_s rfl p_id) rds_n) o_listU) fun (r1294 : (List U)) => (ta_m (te_un (tap_c (px_s rfl) tap_n) (rds_c (rd_s rfl p_id) rds_n) o_sortU) fun (r1295 : (List Int)) => tap_n)) (fun (p1296 : ((List U) × (List Int))) => (rds_c rd_e (rds_c rd_e rds_n))) (fun (p1296 : ((List U) × (List Int))) => o_dB)) (fun _ => rfl)) (tt_e (b := fun (r1306 : Bool) => r1306) (te_op2m (ta_m (te_ti (ti_us rfl) (fun (l1298 : List U) => (te_lcFilM (Γw := [Sl (Eq1 ((eTO D.int) x_sums)), Sl (Eq1 (eU x_value)), Sl (Eq1 (eU x1283)), No]) (p := fun (x1302 : U) => (((((opB (dLe (D.int (0)) x1302.1))).bind fun b => if b = true then ((atI x_sums (0))).bind fun (r1303 : Int) => (opB (dLt x1302.1 (D.int r1303))) else some false)).map fun (r1304 : Bool) => (!r1304))) (F := fun (x1302 : U) => (some (1))) (ei := eU) (eo := D.int) pi_ds (lc_n ((by exact (sub_c w_id (sub_c w_id (sub_c w_id (sub_c w_id sub_n)))))) (by exact ⟨rfl, trivial⟩)) (fun (x1302 : U) => (tg_n (Nat.le_of_ble_eq_true rfl))) (fun (x1302 : U) => (tt_map (tt_n (tt_e (b := fun (r1304 : Bool) => r1304) (te_chainc (px_o pe_c) (px_s rfl) (te_op2 (tap_c (px_s rfl) (tap_c (px_o pe_c) tap_n)) (rds_c (rd_s rfl p_id) (rds_c rd_e rds_n)) o_ixT) rd_e (rd_s rfl p_id) o_dB (fun (r1303 : Int) => o_dB)) (fun _ => rfl))))) (fun (x1302 : U) => (te_p (e := D.int) (v := (1)) pe_c)) (fun (x1302 : U) _ => (by exact (sub_c w_id (sub_c w_id (sub_c w_id (sub_c w_id sub_n)))))) (fun (x1302 : U) => (by exact (sub_c w_id (sub_c w_id (sub_c w_id (sub_c w_id sub_n))))))))) fun (r1305 : (List Int)) => (tap_c (px_o (pe_lst tap_n rfl (Nat.le_of_ble_eq_true rfl))) tap_n)) (fun (r1305 : (List Int)) => (rds_c (rd_v p_lue) (rds_c (rd_v p_lue) rds_n))) (fun (r1305 : (List Int)) => (op_t (e := D.bl) (v := (!decide (r1305 = ([] : List Int)))) (o_neL (e := D.int) (x := r1305) (y := ([] : List Int)) eqd_int (Nat.le_of_ble_eq_true rfl))))) (fun _ => rfl))) (fun (r1307 : Bool) => (ts_retp (d := D.str ("" : Str)) pe_c (fun env' h => by exact ⟨env', rfl, (sub_c w_id (sub_c w_id (sub_c w_an (sub_c w_an sub_n)))) env' h⟩))) (fun (r1307 : Bool) => (ts_0 (fun env' h => by exact ⟨env', .inl rfl, (sub_c w_id (sub_c w_id (sub_c w_an (sub_c w_id sub_n)))) env' h⟩))))))) (fun r env' h => by exact ⟨env', rfl, h⟩) (fun (s1284 : (Unit)) => (ts_ret0 (te_if (tt_e (b := fun (r1312 : Bool) => r1312) (te_op2m (ta_m (te_callb (Ps := fun (p1310 : (Int × U)) => [Eq1 (D.int p1310.1), Eq1 (eU p1310.2)]) (Pd := []) (Γ' := fun (r1311 : (List Int)) => [Sl (Eq1 ((eTO D.int) x_sums)), Sl (Eq1 (eU x_value)), An, No]) (ta_mm (te_op2 (tap_c (px_s rfl) (tap_c (px_o pe_c) tap_n)) (rds_c (rd_s rfl p_id) (rds_c rd_e rds_n)) o_ixT) fun (r1308 : Int) => (ta_m (te_op2 (tap_c (px_s rfl) (tap_c (px_o pe_c) tap_n)) (rds_c (rd_s rfl p_id) (rds_c rd_e rds_n)) o_dU) fun (r1309 : U) => tap_n)) (fun (p1310 : (Int × U)) => (sp__law_meets_1 p1310.1 p1310.2)) (by exact trivial) (fun _ _ => by exact (cg_v e1r (cg_v e1r cg_n)))) fun (r1311 : (List Int)) => (tap_c (px_o (pe_blt (tap_c (px_s rfl) tap_n) (rds_c (rd_s rfl p_id) rds_n) o_tupT)) tap_n)) (fun (r1311 : (List Int)) => (rds_c rd_e (rds_c rd_e rds_n))) (fun (r1311 : (List Int)) => (op_t (e := D.bl) (v := (decide (r1311 = x_sums))) (o_eq (e := (eTO D.int)) (x := r1311) (y := x_sums) (eqd_to eqd_int) (Nat.le_of_ble_eq_true rfl))))) (fun _ => rfl)) (fun (r1312 : Bool) => (te_p (e := D.str) (v := ("sets" : Str)) pe_c)) (fun (r1312 : Bool) => (te_p (e := D.str) (v := ("" : Str)) pe_c))) (fun r env' h => by exact ⟨env', rfl, (sub_c w_id (sub_c w_id (sub_c w_an (sub_c w_an sub_n)))) env' h⟩))))))))))) (fun r => (.f rfl (.f rfl .n)))
/-! _law_near -/
def F__law_near (x_crock : (List Int)) (x_sums : (List Int)) (x_paper : U) : Option ((List U) × (List Int)) := ((((listU x_paper.1)).bind fun (r1729 : (List U)) => ((((opU (dSl x_paper.1 none (some (1))))).bind fun (r1730 : U) => ((((opU (dRev x_paper.1))).bind fun (r1731 : U) => ((opU (dAdd x_paper.1 ((eT1 D.int) ((0)))))).map fun (r1732 : U) => (r1731, r1732))).map fun (p1733 : (U × U)) => (r1730, p1733))).map fun (p1734 : (U × (U × U))) => (r1729, p1734))).bind fun (p1735 : ((List U) × (U × (U × U)))) => ((catM [x_paper, (uOf (e := (eLF eU)) im_lf p1735.1), p1735.2.1, p1735.2.2.1, p1735.2.2.2, (uOf (e := eN) im_non ()), (uOf (e := eT0) im_t0 ()), (uOf (e := D.int) im_int (0)), dE, (uOf (e := D.str) im_str ("sets" : Str)), (uOf (e := (eT2 D.str eT0)) im_t2 (("sets" : Str), ()))] [(uOf (e := (eT2 D.str eN)) im_t2 (("sets" : Str), ()))])).bind fun (r1736 : (List U)) => ((((((rng2 (-(1)) ((x_sums.length : Int) + (1)))).bind fun (l1741 : List Int) => (lcMap l1741 fun (x1743 : Int) => (uOf (e := (eT2 D.str D.int)) im_t2 (("lack" : Str), x1743))))).bind fun (r1744 : (List U)) => (catM r1736 r1744))).bind fun (r1745 : (List U)) => ((((opU (dIx x_paper.1 (.int (1))))).bind fun (r1747 : U) => (catM r1745 [(uOf (e := (eT2 D.str D.bl)) im_t2 (("lack" : Str), true)), (uOf (e := (eT2 D.str eN)) im_t2 (("lack" : Str), ())), (uOf (e := (eT2 D.str eU)) im_t2 (("lack" : Str), r1747))]))).bind fun (r1748 : (List U)) => ((((opU (dIx x_paper.1 (.int (1))))).bind fun (r1749 : U) => (appM r1748 (uOf (e := (eT2 D.str eU)) im_t2 (("sets" : Str), r1749))).map fun (l1751 : (List U)) => (l1751, r1749))).bind fun (r1750 : ((List U) × U)) => (((((opU (dIx x_paper.1 (.int (0))))).bind fun (r1752 : U) => (opB (dEq false r1752.1 (D.str ("sets" : Str)))))).bind fun (r1753 : Bool) => if r1753 = true then ((opU (dIx x_paper.1 (.int (1))))).bind fun (r1941 : U) => ((((((opU (dRev r1941.1))).bind fun (r1949 : U) => ((((opU (dSl r1941.1 (some (1)) none))).bind fun (r1950 : U) => ((((opU (dAdd r1941.1 ((eT1 eT0) (()))))).bind fun (r1951 : U) => ((listU r1941.1)).map fun (r1952 : (List U)) => (r1951, r1952))).map fun (p1953 : (U × (List U))) => (r1950, p1953))).map fun (p1954 : (U × (U × (List U)))) => (r1949, p1954))).bind fun (p1955 : (U × (U × (U × (List U))))) => (catM r1750.1 [(uOf (e := (eT2 D.str eU)) im_t2 (("sets" : Str), p1955.1)), (uOf (e := (eT2 D.str eU)) im_t2 (("sets" : Str), p1955.2.1)), (uOf (e := (eT2 D.str eU)) im_t2 (("sets" : Str), p1955.2.2.1)), (uOf (e := (eT2 D.str (eLF eU))) im_t2 (("sets" : Str), p1955.2.2.2))]))).bind fun (r1956 : (List U)) => (((((opI (dLen r1941.1))).bind fun (r1957 : Int) => rng1 r1957)).bind fun (l1958 : List Int) => foldO (fun (s2027 : ((List Int) × (List U))) (x2028 : Int) => ((opU (dIx r1941.1 (.int x2028)))).bind fun (r2030 : U) => ((((opU (dRev r2030.1))).bind fun (r2031 : U) => ((((listU r2030.1)).bind fun (r2032 : (List U)) => ((((opU (dSl r2030.1 (some (1)) none))).bind fun (r2033 : U) => ((((((opU (dSl r2030.1 (some (-(1))) none))).bind fun (r2034 : U) => (opU (dAdd r2030.1 r2034.1)))).bind fun (r2035 : U) => ((((((atI x_sums (0))).bind fun (r2036 : Int) => (opU (dAdd r2030.1 ((eT1 D.int) (r2036)))))).bind fun (r2037 : U) => ((opU (dAdd ((eT1 D.int) ((-(1)))) r2030.1))).map fun (r2038 : U) => (r2037, r2038))).map fun (p2039 : (U × U)) => (r2035, p2039))).map fun (p2040 : (U × (U × U))) => (r2033, p2040))).map fun (p2041 : (U × (U × (U × U)))) => (r2032, p2041))).map fun (p2042 : ((List U) × (U × (U × (U × U))))) => (r2031, p2042))).bind fun (p2043 : (U × ((List U) × (U × (U × (U × U)))))) => ((((((opU (dSl r2030.1 (some (1)) none))).bind fun (r2044 : U) => (opU (dAdd ((eT1 D.bl) (true)) r2044.1)))).bind fun (r2045 : U) => (catM [p2043.1, (uOf (e := (eLF eU)) im_lf p2043.2.1), p2043.2.2.1, p2043.2.2.2.1, p2043.2.2.2.2.1, p2043.2.2.2.2.2] [r2045, (uOf (e := eN) im_non ())]))).bind fun (r2046 : (List U)) => ((((((((((((((atI x_sums (0))).bind fun (r2047 : Int) => (some (max (1) r2047)))).bind fun (r2048 : Int) => (F__law_ladle s2027.1 r2048))).bind fun (r2049 : (Int × (List Int))) => ((opU (dAdd r2030.1 ((eT1 D.int) (r2049.1))))).map fun (v2050 : U) => (v2050, r2049.2))).bind fun (q2051 : (U × (List Int))) => ((sortU q2051.1.1)).map fun (v2052 : (List Int)) => (v2052, q2051.2))).bind fun (q2053 : ((List Int) × (List Int))) => ((some q2053.1)).map fun (v2054 : (List Int)) => (v2054, q2053.2))).bind fun (q2055 : ((List Int) × (List Int))) => (appM r2046 (uOf (e := (eTO D.int)) im_to q2055.1)).map fun (l2057 : (List U)) => (l2057, q2055))).bind fun (r2056 : ((List U) × ((List Int) × (List Int)))) => (foldO (fun (s2067 : ((List U))) (x2068 : U) => ((((((((((opU (dSl r1941.1 none (some x2028)))).bind fun (r2070 : U) => (opU (dAdd r2070.1 ((eT1 eU) (x2068)))))).bind fun (r2071 : U) => ((opU (dSl r1941.1 (some (x2028 + (1))) none))).map fun (r2072 : U) => (r2071, r2072))).bind fun (p2073 : (U × U)) => (opU (dAdd p2073.1.1 p2073.2.1)))).bind fun (r2074 : U) => (appM s2067 (uOf (e := (eT2 D.str eU)) im_t2 (("sets" : Str), r2074))).map fun (l2076 : (List U)) => (l2076, r2074))).map fun (r2075 : ((List U) × U)) => (r2075.1)) r2056.1 (s2027.2)).bind fun (s2069 : ((List U))) => ((((((((itU r2030)).bind fun (l2077 : List U) => (lcMapM l2077 fun (x2082 : U) => (((((atI x_sums (0))).bind fun (r2083 : Int) => (some (r2083 - (1))))).bind fun (r2084 : Int) => (opI (dSub (D.int r2084) x2082.1)))))).bind fun (r2086 : (List Int)) => (some (isort r2086)))).bind fun (r2087 : (List Int)) => (some r2087))).bind fun (r2088 : (List Int)) => ((((((((((opU (dSl r1941.1 none (some x2028)))).bind fun (r2089 : U) => (opU (dAdd r2089.1 ((eT1 (eTO D.int)) (r2088)))))).bind fun (r2090 : U) => ((opU (dSl r1941.1 (some (x2028 + (1))) none))).map fun (r2091 : U) => (r2090, r2091))).bind fun (p2092 : (U × U)) => (opU (dAdd p2092.1.1 p2092.2.1)))).bind fun (r2093 : U) => (appM s2069 (uOf (e := (eT2 D.str eU)) im_t2 (("sets" : Str), r2093))).map fun (l2095 : (List U)) => (l2095, r2093))).map fun (r2094 : ((List U) × U)) => (r2056.2.2, r2094.1)) l1958 (x_crock, r1956)).bind fun (s2029 : ((List Int) × (List U))) => ((((((((itU r1941)).bind fun (l2096 : List U) => (lcMapM l2096 fun (x2110 : U) => (((((((itU x2110)).bind fun (l2111 : List U) => (lcMapM l2111 fun (x2116 : U) => (((((atI x_sums (0))).bind fun (r2117 : Int) => (some (r2117 - (1))))).bind fun (r2118 : Int) => (opI (dSub (D.int r2118) x2116.1)))))).bind fun (r2120 : (List Int)) => (some (isort r2120)))).bind fun (r2121 : (List Int)) => (some r2121))))).bind fun (r2123 : (List (List Int))) => (some r2123))).bind fun (r2124 : (List (List Int))) => (appM s2029.2 (uOf (e := (eT2 D.str (eTO (eTO D.int)))) im_t2 (("sets" : Str), r2124))).map fun (l2126 : (List U)) => (l2126, r2124))).map fun (r2125 : ((List U) × (List (List Int)))) => (s2029.1, r2125.1) else some (x_crock, r1750.1)).bind fun (r1940 : ((List Int) × (List U))) => (((rng1 (6))).bind fun (l2127 : List Int) => foldO (fun (s2135 : ((List Int) × (List U))) (x2136 : Int) => ((((((((atI x_sums (0))).bind fun (r2138 : Int) => (some (min (30) r2138)))).bind fun (r2139 : Int) => (some (max (0) r2139)))).bind fun (r2140 : Int) => (F__law_sets s2135.1 r2140 ((x_sums.length : Int) - (1))))).bind fun (r2141 : ((List (List Int)) × (List Int))) => ((appM s2135.2 (uOf (e := (eT2 D.str (eTO (eTO D.int)))) im_t2 (("sets" : Str), r2141.1)))).map fun (r2142 : (List U)) => (r2141.2, r2142)) l2127 (r1940.1, r1940.2)).bind fun (s2137 : ((List Int) × (List U))) => some (s2137.2, s2137.1)
theorem sp__law_near (x_crock : (List Int)) (x_sums : (List Int)) (x_paper : U) : Spec G__law_near [Eq1 (.lst true (List.map D.int x_crock)), Eq1 ((eTO D.int) x_sums), Eq1 (eU x_paper)] (F__law_near x_crock x_sums x_paper) (fun r => (eLO eU) r.1) (fun r => [Eq1 (.lst true (List.map D.int r.2)), Eq1 ((eTO D.int) x_sums), Eq1 (eU x_paper)]) := by
  unfold F__law_near G__law_near b__law_near
  exact spec_fn (Γ0 := [Sl (Eq1 (.lst true (List.map D.int x_crock))), Sl (Eq1 ((eTO D.int) x_sums)), Sl (Eq1 (eU x_paper)), No, No, No, No, No, No, No, No, No, No]) (Γ' := fun r => [Sl (Eq1 (.lst true (List.map D.int r.2))), Sl (Eq1 ((eTO D.int) x_sums)), Sl (Eq1 (eU x_paper)), An, An, An, An, An, An, An, An, An, An]) ((ts_c (tb_set (te_lst (e := fun (p1735 : ((List U) × (U × (U × U)))) => (eLO eU) [x_paper, (uOf (e := (eLF eU)) im_lf p1735.1), p1735.2.1, p1735.2.2.1, p1735.2.2.2, (uOf (e := eN) im_non ()), (uOf (e := eT0) im_t0 ()), (uOf (e := D.int) im_int (0)), dE, (uOf (e := D.str) im_str ("sets" : Str)), (uOf (e := (eT2 D.str eT0)) im_t2 (("sets" : Str), ()))]) (ta_p (px_o (pe_use rfl (Imm.nf im_u _))) (ta_mm (te_fz (e' := fun (r1729 : (List U)) => (eLF eU) r1729) (te_blt (tap_c (px_s rfl) tap_n) (rds_c (rd_s rfl p_id) rds_n) o_listU) (fun _ => (frz_lo im_u))) fun (r1729 : (List U)) => (ta_mm (te_slU (px_s rfl) (rd_s rfl p_id) to_n (to_p (px_o pe_c) rd_e)) fun (r1730 : U) => (ta_mm (te_un (tap_c (px_s rfl) tap_n) (rds_c (rd_s rfl p_id) rds_n) o_1U) fun (r1731 : U) => (ta_m (te_op2 (tap_c (px_s rfl) (tap_c (px_o (pe_tup (tap_c (px_o pe_c) tap_n) rfl (fz_i (Imm.nf (e := D.int) im_int (0)) fz_n) (Nat.le_of_ble_eq_true rfl))) tap_n)) (rds_c (rd_s rfl p_id) (rds_c rd_e rds_n)) o_dU) fun (r1732 : U) => (tap_c (px_o pe_c) (tap_c (px_o (pe_tup tap_n rfl fz_n (Nat.le_of_ble_eq_true rfl))) (tap_c (px_o pe_c) (tap_c (px_o (pe_fz pe_c frz_dE)) (tap_c (px_o pe_c) (tap_c (px_o (pe_tup (tap_c (px_o pe_c) (tap_c (px_o (pe_tup tap_n rfl fz_n (Nat.le_of_ble_eq_true rfl))) tap_n)) rfl (fz_i (Imm.nf (e := D.str) im_str ("sets" : Str)) (fz_i (Imm.nf (e := eT0) im_t0 ()) fz_n)) (Nat.le_of_ble_eq_true rfl))) tap_n))))))))))) (fun _ => rfl) (fun _ => (Nat.le_of_ble_eq_true rfl)) (fun _ => rfl)) fun _ => (Nat.le_of_ble_eq_true rfl)) fun (p1735 : ((List U) × (U × (U × U)))) => (ts_c (tb_set (te_op2 (tap_c (px_s rfl) (tap_c (px_o (pe_lst (tap_c (px_o (pe_tup (tap_c (px_o pe_c) (tap_c (px_o pe_c) tap_n)) rfl (fz_i (Imm.nf (e := D.str) im_str ("sets" : Str)) (fz_i (Imm.nf (e := eN) im_non ()) fz_n)) (Nat.le_of_ble_eq_true rfl))) tap_n) rfl (Nat.le_of_ble_eq_true rfl))) tap_n)) (rds_c (rd_s rfl p_lu) (rds_c (rd_v p_lue) rds_n)) (o_catL (e := eU) (l := [x_paper, (uOf (e := (eLF eU)) im_lf p1735.1), p1735.2.1, p1735.2.2.1, p1735.2.2.2, (uOf (e := eN) im_non ()), (uOf (e := eT0) im_t0 ()), (uOf (e := D.int) im_int (0)), dE, (uOf (e := D.str) im_str ("sets" : Str)), (uOf (e := (eT2 D.str eT0)) im_t2 (("sets" : Str), ()))]) (m := [(uOf (e := (eT2 D.str eN)) im_t2 (("sets" : Str), ()))]) im_u)) fun _ => (Nat.le_of_ble_eq_true rfl)) fun (r1736 : (List U)) => (ts_c (tb_set (te_op2m (ta_p (px_s rfl) (ta_m (te_ti (ti_r2 (tap_c (px_o (pe_un (tap_c (px_o pe_c) tap_n) (rds_c rd_e rds_n) o_neg)) (tap_c (px_o (pe_op2 (tap_c (px_o (pe_blt (tap_c (px_s rfl) tap_n) (rds_c (rd_s rfl p_id) rds_n) o_lenT)) (tap_c (px_o pe_c) tap_n)) (rds_c rd_e (rds_c rd_e rds_n)) o_add)) tap_n)) (rds_c rd_e (rds_c rd_e rds_n))) (fun (l1741 : List Int) => (te_lcMap (Γw := [Sl (Eq1 (.lst true (List.map D.int x_crock))), Sl (Eq1 ((eTO D.int) x_sums)), Sl (Eq1 (eU x_paper)), Sl (Eq1 (.lst true (List.map eU r1736))), No, No, No, No, No, No, No, No, No]) (F := fun (x1743 : Int) => (uOf (e := (eT2 D.str D.int)) im_t2 (("lack" : Str), x1743))) (ei := D.int) (eo := eU) pi_ds (lc_n ((by exact (sub_c w_id (sub_c w_id (sub_c w_id (sub_c w_id (sub_c w_id (sub_c w_id (sub_c w_id (sub_c w_id (sub_c w_id (sub_c w_id (sub_c w_id (sub_c w_id (sub_c w_id sub_n))))))))))))))) (by exact ⟨rfl, trivial⟩)) (fun (x1743 : Int) => (tg_n (Nat.le_of_ble_eq_true rfl))) (fun (x1743 : Int) => (pe_tup (tap_c (px_o pe_c) (tap_c (px_o (pe_use rfl (Imm.nf im_int _))) tap_n)) rfl (fz_i (Imm.nf (e := D.str) im_str ("lack" : Str)) (fz_i (Imm.nf (e := D.int) im_int x1743) fz_n)) (Nat.le_of_ble_eq_true rfl))) (fun (x1743 : Int) => (by exact (sub_c w_id (sub_c w_id (sub_c w_id (sub_c w_id (sub_c w_id (sub_c w_id (sub_c w_id (sub_c w_id (sub_c w_id (sub_c w_id (sub_c w_id (sub_c w_id (sub_c w_id sub_n)))))))))))))))))) fun (r1744 : (List U)) => tap_n)) (fun (r1744 : (List U)) => (rds_c (rd_s rfl p_lu) (rds_c (rd_v p_lue) rds_n))) (fun (r1744 : (List U)) => (o_catL (e := eU) (l := r1736) (m := r1744) im_u))) fun _ => (Nat.le_of_ble_eq_true rfl)) fun (r1745 : (List U)) => (ts_c (tb_set (te_op2m (ta_p (px_s rfl) (ta_m (te_lst (e := fun (r1747 : U) => (eLO eU) [(uOf (e := (eT2 D.str D.bl)) im_t2 (("lack" : Str), true)), (uOf (e := (eT2 D.str eN)) im_t2 (("lack" : Str), ())), (uOf (e := (eT2 D.str eU)) im_t2 (("lack" : Str), r1747))]) (ta_p (px_o (pe_tup (tap_c (px_o pe_c) (tap_c (px_o pe_c) tap_n)) rfl (fz_i (Imm.nf (e := D.str) im_str ("lack" : Str)) (fz_i (Imm.nf (e := D.bl) im_bl true) fz_n)) (Nat.le_of_ble_eq_true rfl))) (ta_p (px_o (pe_tup (tap_c (px_o pe_c) (tap_c (px_o pe_c) tap_n)) rfl (fz_i (Imm.nf (e := D.str) im_str ("lack" : Str)) (fz_i (Imm.nf (e := eN) im_non ()) fz_n)) (Nat.le_of_ble_eq_true rfl))) (ta_m (te_tup (e := fun (r1747 : U) => (eT2 D.str eU) (("lack" : Str), r1747)) (ta_p (px_o pe_c) (ta_m (te_op2 (tap_c (px_s rfl) (tap_c (px_o pe_c) tap_n)) (rds_c (rd_s rfl p_id) (rds_c rd_e rds_n)) o_dU) fun (r1747 : U) => tap_n)) (fun _ => rfl) (fun (r1747 : U) => (fz_i (Imm.nf (e := D.str) im_str ("lack" : Str)) (fz_i (Imm.nf (e := eU) im_u r1747) fz_n))) (fun _ => (Nat.le_of_ble_eq_true rfl)) (fun _ => rfl)) fun (r1747 : U) => tap_n))) (fun _ => rfl) (fun _ => (Nat.le_of_ble_eq_true rfl)) (fun _ => rfl)) fun (r1747 : U) => tap_n)) (fun (r1747 : U) => (rds_c (rd_s rfl p_lu) (rds_c (rd_v p_lue) rds_n))) (fun (r1747 : U) => (o_catL (e := eU) (l := r1745) (m := [(uOf (e := (eT2 D.str D.bl)) im_t2 (("lack" : Str), true)), (uOf (e := (eT2 D.str eN)) im_t2 (("lack" : Str), ())), (uOf (e := (eT2 D.str eU)) im_t2 (("lack" : Str), r1747))]) im_u))) fun _ => (Nat.le_of_ble_eq_true rfl)) fun (r1748 : (List U)) => (ts_c (tb_expr (te_appm (e := eU) (l := r1748) (v := fun (r1749 : U) => (uOf (e := (eT2 D.str eU)) im_t2 (("sets" : Str), r1749))) rfl (te_tup (e := fun (r1749 : U) => (eT2 D.str eU) (("sets" : Str), r1749)) (ta_p (px_o pe_c) (ta_m (te_op2 (tap_c (px_s rfl) (tap_c (px_o pe_c) tap_n)) (rds_c (rd_s rfl p_id) (rds_c rd_e rds_n)) o_dU) fun (r1749 : U) => tap_n)) (fun _ => rfl) (fun (r1749 : U) => (fz_i (Imm.nf (e := D.str) im_str ("sets" : Str)) (fz_i (Imm.nf (e := eU) im_u r1749) fz_n))) (fun _ => (Nat.le_of_ble_eq_true rfl)) (fun _ => rfl)) (fun _ => rfl) (fun _ => rfl))) fun (r1750 : ((List U) × U)) => (ts_c (tb_if (Γ' := fun (r1940 : ((List Int) × (List U))) => [Sl (Eq1 (.lst true (List.map D.int r1940.1))), Sl (Eq1 ((eTO D.int) x_sums)), Sl (Eq1 (eU x_paper)), Sl (Eq1 (.lst true (List.map eU r1940.2))), An, An, An, An, An, An, No, No, No]) (tt_e (b := fun (r1753 : Bool) => r1753) (te_op2m (ta_m (te_op2 (tap_c (px_s rfl) (tap_c (px_o pe_c) tap_n)) (rds_c (rd_s rfl p_id) (rds_c rd_e rds_n)) o_dU) fun (r1752 : U) => (tap_c (px_o pe_c) tap_n)) (fun (r1752 : U) => (rds_c rd_e (rds_c rd_e rds_n))) (fun (r1752 : U) => o_dB)) (fun _ => rfl)) (fun (r1753 : Bool) => (tb_c (tb_set (te_op2 (tap_c (px_s rfl) (tap_c (px_o pe_c) tap_n)) (rds_c (rd_s rfl p_id) (rds_c rd_e rds_n)) o_dU) fun _ => (Nat.le_of_ble_eq_true rfl)) fun (r1941 : U) => (tb_c (tb_set (te_op2m (ta_p (px_s rfl) (ta_m (te_lst (e := fun (p1955 : (U × (U × (U × (List U))))) => (eLO eU) [(uOf (e := (eT2 D.str eU)) im_t2 (("sets" : Str), p1955.1)), (uOf (e := (eT2 D.str eU)) im_t2 (("sets" : Str), p1955.2.1)), (uOf (e := (eT2 D.str eU)) im_t2 (("sets" : Str), p1955.2.2.1)), (uOf (e := (eT2 D.str (eLF eU))) im_t2 (("sets" : Str), p1955.2.2.2))]) (ta_mm (te_tup (e := fun (r1949 : U) => (eT2 D.str eU) (("sets" : Str), r1949)) (ta_p (px_o pe_c) (ta_m (te_un (tap_c (px_s rfl) tap_n) (rds_c (rd_s rfl p_id) rds_n) o_1U) fun (r1949 : U) => tap_n)) (fun _ => rfl) (fun (r1949 : U) => (fz_i (Imm.nf (e := D.str) im_str ("sets" : Str)) (fz_i (Imm.nf (e := eU) im_u r1949) fz_n))) (fun _ => (Nat.le_of_ble_eq_true rfl)) (fun _ => rfl)) fun (r1949 : U) => (ta_mm (te_tup (e := fun (r1950 : U) => (eT2 D.str eU) (("sets" : Str), r1950)) (ta_p (px_o pe_c) (ta_m (te_slU (px_s rfl) (rd_s rfl p_id) (to_p (px_o pe_c) rd_e) to_n) fun (r1950 : U) => tap_n)) (fun _ => rfl) (fun (r1950 : U) => (fz_i (Imm.nf (e := D.str) im_str ("sets" : Str)) (fz_i (Imm.nf (e := eU) im_u r1950) fz_n))) (fun _ => (Nat.le_of_ble_eq_true rfl)) (fun _ => rfl)) fun (r1950 : U) => (ta_mm (te_tup (e := fun (r1951 : U) => (eT2 D.str eU) (("sets" : Str), r1951)) (ta_p (px_o pe_c) (ta_m (te_op2 (tap_c (px_s rfl) (tap_c (px_o (pe_tup (tap_c (px_o (pe_tup tap_n rfl fz_n (Nat.le_of_ble_eq_true rfl))) tap_n) rfl (fz_i (Imm.nf (e := eT0) im_t0 ()) fz_n) (Nat.le_of_ble_eq_true rfl))) tap_n)) (rds_c (rd_s rfl p_id) (rds_c rd_e rds_n)) o_dU) fun (r1951 : U) => tap_n)) (fun _ => rfl) (fun (r1951 : U) => (fz_i (Imm.nf (e := D.str) im_str ("sets" : Str)) (fz_i (Imm.nf (e := eU) im_u r1951) fz_n))) (fun _ => (Nat.le_of_ble_eq_true rfl)) (fun _ => rfl)) fun (r1951 : U) => (ta_m (te_tup (e := fun (r1952 : (List U)) => (eT2 D.str (eLF eU)) (("sets" : Str), r1952)) (ta_p (px_o pe_c) (ta_m (te_blt (tap_c (px_s rfl) tap_n) (rds_c (rd_s rfl p_id) rds_n) o_listU) fun (r1952 : (List U)) => tap_n)) (fun _ => rfl) (fun (r1952 : (List U)) => (fz_i (Imm.nf (e := D.str) im_str ("sets" : Str)) (fz_l im_u fz_n))) (fun _ => (Nat.le_of_ble_eq_true rfl)) (fun _ => rfl)) fun (r1952 : (List U)) => tap_n)))) (fun _ => rfl) (fun _ => (Nat.le_of_ble_eq_true rfl)) (fun _ => rfl)) fun (p1955 : (U × (U × (U × (List U))))) => tap_n)) (fun (p1955 : (U × (U × (U × (List U))))) => (rds_c (rd_s rfl p_lu) (rds_c (rd_v p_lue) rds_n))) (fun (p1955 : (U × (U × (U × (List U))))) => (o_catL (e := eU) (l := r1750.1) (m := [(uOf (e := (eT2 D.str eU)) im_t2 (("sets" : Str), p1955.1)), (uOf (e := (eT2 D.str eU)) im_t2 (("sets" : Str), p1955.2.1)), (uOf (e := (eT2 D.str eU)) im_t2 (("sets" : Str), p1955.2.2.1)), (uOf (e := (eT2 D.str (eLF eU))) im_t2 (("sets" : Str), p1955.2.2.2))]) im_u))) fun _ => (Nat.le_of_ble_eq_true rfl)) fun (r1956 : (List U)) => (tb_c (tb_form (Inv := fun (s2027 : ((List Int) × (List U))) => [Sl (Eq1 (.lst true (List.map D.int s2027.1))), Sl (Eq1 ((eTO D.int) x_sums)), Sl (Eq1 (eU x_paper)), Sl (Eq1 (.lst true (List.map eU s2027.2))), Sl (Eq1 (eU r1941)), An, An, An, An, An, No, No, No]) (l := fun (l1958 : List Int) => l1958) (ei := D.int) (ti_r1m (ta_m (te_blt (tap_c (px_s rfl) tap_n) (rds_c (rd_s rfl p_id) rds_n) o_1I) fun (r1957 : Int) => tap_n) (fun (r1957 : Int) => (rds_c rd_e rds_n))) (fun (l1958 : List Int) => (by exact (sub_c w_id (sub_c w_id (sub_c w_id (sub_c w_id (sub_c w_id (sub_c w_an (sub_c w_an (sub_c w_an (sub_c w_an (sub_c w_an (sub_c w_id (sub_c w_id (sub_c w_id sub_n))))))))))))))) (fun (s2027 : ((List Int) × (List U))) (x2028 : Int) => (tg_n (Nat.le_of_ble_eq_true rfl))) (fun (s2027 : ((List Int) × (List U))) (x2028 : Int) => (tb_c (tb_set (te_op2 (tap_c (px_s rfl) (tap_c (px_s rfl) tap_n)) (rds_c (rd_s rfl p_id) (rds_c (rd_s rfl p_id) rds_n)) o_dU) fun _ => (Nat.le_of_ble_eq_true rfl)) fun (r2030 : U) => (tb_c (tb_set (te_lst (e := fun (p2043 : (U × ((List U) × (U × (U × (U × U)))))) => (eLO eU) [p2043.1, (uOf (e := (eLF eU)) im_lf p2043.2.1), p2043.2.2.1, p2043.2.2.2.1, p2043.2.2.2.2.1, p2043.2.2.2.2.2]) (ta_mm (te_un (tap_c (px_s rfl) tap_n) (rds_c (rd_s rfl p_id) rds_n) o_1U) fun (r2031 : U) => (ta_mm (te_fz (e' := fun (r2032 : (List U)) => (eLF eU) r2032) (te_blt (tap_c (px_s rfl) tap_n) (rds_c (rd_s rfl p_id) rds_n) o_listU) (fun _ => (frz_lo im_u))) fun (r2032 : (List U)) => (ta_mm (te_slU (px_s rfl) (rd_s rfl p_id) (to_p (px_o pe_c) rd_e) to_n) fun (r2033 : U) => (ta_mm (te_op2m (ta_p (px_s rfl) (ta_m (te_slU (px_s rfl) (rd_s rfl p_id) (to_p (px_o (pe_un (tap_c (px_o pe_c) tap_n) (rds_c rd_e rds_n) o_neg)) rd_e) to_n) fun (r2034 : U) => tap_n)) (fun (r2034 : U) => (rds_c (rd_s rfl p_id) (rds_c rd_e rds_n))) (fun (r2034 : U) => o_dU)) fun (r2035 : U) => (ta_mm (te_op2m (ta_p (px_s rfl) (ta_m (te_tup (e := fun (r2036 : Int) => (eT1 D.int) (r2036)) (ta_m (te_op2 (tap_c (px_s rfl) (tap_c (px_o pe_c) tap_n)) (rds_c (rd_s rfl p_id) (rds_c rd_e rds_n)) o_ixT) fun (r2036 : Int) => tap_n) (fun _ => rfl) (fun (r2036 : Int) => (fz_i (Imm.nf (e := D.int) im_int r2036) fz_n)) (fun _ => (Nat.le_of_ble_eq_true rfl)) (fun _ => rfl)) fun (r2036 : Int) => tap_n)) (fun (r2036 : Int) => (rds_c (rd_s rfl p_id) (rds_c rd_e rds_n))) (fun (r2036 : Int) => o_dU)) fun (r2037 : U) => (ta_m (te_op2 (tap_c (px_o (pe_tup (tap_c (px_o (pe_un (tap_c (px_o pe_c) tap_n) (rds_c rd_e rds_n) o_neg)) tap_n) rfl (fz_i (Imm.nf (e := D.int) im_int (-(1))) fz_n) (Nat.le_of_ble_eq_true rfl))) (tap_c (px_s rfl) tap_n)) (rds_c rd_e (rds_c (rd_s rfl p_id) rds_n)) o_dU) fun (r2038 : U) => tap_n)))))) (fun _ => rfl) (fun _ => (Nat.le_of_ble_eq_true rfl)) (fun _ => rfl)) fun _ => (Nat.le_of_ble_eq_true rfl)) fun (p2043 : (U × ((List U) × (U × (U × (U × U)))))) => (tb_c (tb_set (te_op2m (ta_p (px_s rfl) (ta_m (te_lst (e := fun (r2045 : U) => (eLO eU) [r2045, (uOf (e := eN) im_non ())]) (ta_m (te_op2m (ta_p (px_o (pe_tup (tap_c (px_o pe_c) tap_n) rfl (fz_i (Imm.nf (e := D.bl) im_bl true) fz_n) (Nat.le_of_ble_eq_true rfl))) (ta_m (te_slU (px_s rfl) (rd_s rfl p_id) (to_p (px_o pe_c) rd_e) to_n) fun (r2044 : U) => tap_n)) (fun (r2044 : U) => (rds_c rd_e (rds_c rd_e rds_n))) (fun (r2044 : U) => o_dU)) fun (r2045 : U) => (tap_c (px_o pe_c) tap_n)) (fun _ => rfl) (fun _ => (Nat.le_of_ble_eq_true rfl)) (fun _ => rfl)) fun (r2045 : U) => tap_n)) (fun (r2045 : U) => (rds_c (rd_s rfl p_lu) (rds_c (rd_v p_lue) rds_n))) (fun (r2045 : U) => (o_catL (e := eU) (l := [p2043.1, (uOf (e := (eLF eU)) im_lf p2043.2.1), p2043.2.2.1, p2043.2.2.2.1, p2043.2.2.2.2.1, p2043.2.2.2.2.2]) (m := [r2045, (uOf (e := eN) im_non ())]) im_u))) fun _ => (Nat.le_of_ble_eq_true rfl)) fun (r2046 : (List U)) => (tb_c (tb_expr (te_appm (e := eU) (l := r2046) (v := fun (q2055 : ((List Int) × (List Int))) => (uOf (e := (eTO D.int)) im_to q2055.1)) rfl (te_blte (e' := fun (q2055 : ((List Int) × (List Int))) => (eTO D.int) q2055.1) (Γ2 := fun (q2055 : ((List Int) × (List Int))) => [Sl (Eq1 (.lst true (List.map D.int q2055.2))), Sl (Eq1 ((eTO D.int) x_sums)), Sl (Eq1 (eU x_paper)), Sl (Eq1 (.lst true (List.map eU s2027.2))), Sl (Eq1 (eU r1941)), Sl (Eq1 (D.int x2028)), Sl (Eq1 (eU r2030)), Sl (Eq1 (.lst true (List.map eU r2046))), An, An, No, No, No]) (ta_m (te_une (e' := fun (q2053 : ((List Int) × (List Int))) => (eLO D.int) q2053.1) (Γ2 := fun (q2053 : ((List Int) × (List Int))) => [Sl (Eq1 (.lst true (List.map D.int q2053.2))), Sl (Eq1 ((eTO D.int) x_sums)), Sl (Eq1 (eU x_paper)), Sl (Eq1 (.lst true (List.map eU s2027.2))), Sl (Eq1 (eU r1941)), Sl (Eq1 (D.int x2028)), Sl (Eq1 (eU r2030)), Sl (Eq1 (.lst true (List.map eU r2046))), An, An, No, No, No]) (ta_m (te_op2e (e' := fun (q2051 : (U × (List Int))) => eU q2051.1) (Γ2 := fun (q2051 : (U × (List Int))) => [Sl (Eq1 (.lst true (List.map D.int q2051.2))), Sl (Eq1 ((eTO D.int) x_sums)), Sl (Eq1 (eU x_paper)), Sl (Eq1 (.lst true (List.map eU s2027.2))), Sl (Eq1 (eU r1941)), Sl (Eq1 (D.int x2028)), Sl (Eq1 (eU r2030)), Sl (Eq1 (.lst true (List.map eU r2046))), An, An, No, No, No]) (ta_p (px_s rfl) (ta_m (te_tup (e := fun (r2049 : (Int × (List Int))) => (eT1 D.int) (r2049.1)) (ta_m (te_callb (Ps := fun (r2048 : Int) => [Eq1 (.lst true (List.map D.int s2027.1)), Eq1 (D.int r2048)]) (Pd := []) (Γ' := fun (r2049 : (Int × (List Int))) => [Sl (Eq1 (.lst true (List.map D.int r2049.2))), Sl (Eq1 ((eTO D.int) x_sums)), Sl (Eq1 (eU x_paper)), Sl (Eq1 (.lst true (List.map eU s2027.2))), Sl (Eq1 (eU r1941)), Sl (Eq1 (D.int x2028)), Sl (Eq1 (eU r2030)), Sl (Eq1 (.lst true (List.map eU r2046))), An, An, No, No, No]) (ta_p (px_s rfl) (ta_m (te_bltm (ta_p (px_o pe_c) (ta_m (te_op2 (tap_c (px_s rfl) (tap_c (px_o pe_c) tap_n)) (rds_c (rd_s rfl p_id) (rds_c rd_e rds_n)) o_ixT) fun (r2047 : Int) => tap_n)) (fun (r2047 : Int) => (rds_c rd_e (rds_c rd_e rds_n))) (fun (r2047 : Int) => (op_t (e := D.int) (v := (max (1) r2047)) o_max2))) fun (r2048 : Int) => tap_n)) (fun (r2048 : Int) => (sp__law_ladle s2027.1 r2048)) (by exact trivial) (fun _ _ => by exact (cg_o rfl ow_lo p_id (cg_v e1r cg_n)))) fun (r2049 : (Int × (List Int))) => tap_n) (fun _ => rfl) (fun (r2049 : (Int × (List Int))) => (fz_i (Imm.nf (e := D.int) im_int r2049.1) fz_n)) (fun _ => (Nat.le_of_ble_eq_true rfl)) (fun _ => rfl)) fun (r2049 : (Int × (List Int))) => tap_n)) (fun (r2049 : (Int × (List Int))) => (rds_c (rd_s rfl p_id) (rds_c rd_e rds_n))) (fun (r2049 : (Int × (List Int))) => o_dU) (fun _ _ => rfl) (fun _ _ => rfl)) fun (q2051 : (U × (List Int))) => tap_n) (fun (q2051 : (U × (List Int))) => (rds_c rd_e rds_n)) (fun (q2051 : (U × (List Int))) => o_sortU) (fun _ _ => rfl) (fun _ _ => rfl)) fun (q2053 : ((List Int) × (List Int))) => tap_n) (fun (q2053 : ((List Int) × (List Int))) => (rds_c (rd_v p_lue) rds_n)) (fun (q2053 : ((List Int) × (List Int))) => (op_t (e := (eTO D.int)) (v := q2053.1) (o_tupL im_int))) (fun _ _ => rfl) (fun _ _ => rfl)) (fun _ => rfl) (fun _ => rfl))) fun (r2056 : ((List U) × ((List Int) × (List Int)))) => (tb_c (tb_for (Inv := fun (s2067 : ((List U))) => [Sl (Eq1 (.lst true (List.map D.int r2056.2.2))), Sl (Eq1 ((eTO D.int) x_sums)), Sl (Eq1 (eU x_paper)), Sl (Eq1 (.lst true (List.map eU s2067))), Sl (Eq1 (eU r1941)), Sl (Eq1 (D.int x2028)), Sl (Eq1 (eU r2030)), Sl (Eq1 (.lst false (List.map eU r2056.1))), An, An, No, No, No]) (l := r2056.1) (ei := eU) (pi_v (d := (eLF eU) r2056.1) (pe_useO rfl im_u) (it_lf im_u)) ((by exact (sub_c w_id (sub_c w_id (sub_c w_id (sub_c w_id (sub_c w_id (sub_c w_id (sub_c w_id (sub_c w_id (sub_c w_an (sub_c w_an (sub_c w_id (sub_c w_id (sub_c w_id sub_n))))))))))))))) (fun (s2067 : ((List U))) (x2068 : U) => (tg_n (Nat.le_of_ble_eq_true rfl))) (fun (s2067 : ((List U))) (x2068 : U) => (tb_map (φ := fun (r2075 : ((List U) × U)) => (r2075.1)) (tb_expr (te_appm (e := eU) (l := s2067) (v := fun (r2074 : U) => (uOf (e := (eT2 D.str eU)) im_t2 (("sets" : Str), r2074))) rfl (te_tup (e := fun (r2074 : U) => (eT2 D.str eU) (("sets" : Str), r2074)) (ta_p (px_o pe_c) (ta_m (te_op2m (ta_mm (te_op2m (ta_m (te_slU (px_s rfl) (rd_s rfl p_id) to_n (to_p (px_s rfl) (rd_s rfl p_id))) fun (r2070 : U) => (tap_c (px_o (pe_tup (tap_c (px_o (pe_use rfl (Imm.nf im_u _))) tap_n) rfl (fz_i (Imm.nf (e := eU) im_u x2068) fz_n) (Nat.le_of_ble_eq_true rfl))) tap_n)) (fun (r2070 : U) => (rds_c rd_e (rds_c rd_e rds_n))) (fun (r2070 : U) => o_dU)) fun (r2071 : U) => (ta_m (te_slU (px_s rfl) (rd_s rfl p_id) (to_p (px_o (pe_op2 (tap_c (px_s rfl) (tap_c (px_o pe_c) tap_n)) (rds_c (rd_s rfl p_id) (rds_c rd_e rds_n)) o_add)) rd_e) to_n) fun (r2072 : U) => tap_n)) (fun (p2073 : (U × U)) => (rds_c rd_e (rds_c rd_e rds_n))) (fun (p2073 : (U × U)) => o_dU)) fun (r2074 : U) => tap_n)) (fun _ => rfl) (fun (r2074 : U) => (fz_i (Imm.nf (e := D.str) im_str ("sets" : Str)) (fz_i (Imm.nf (e := eU) im_u r2074) fz_n))) (fun _ => (Nat.le_of_ble_eq_true rfl)) (fun _ => rfl)) (fun _ => rfl) (fun _ => rfl))) (fun (r2075 : ((List U) × U)) => (by exact (sub_c w_id (sub_c w_id (sub_c w_id (sub_c w_id (sub_c w_id (sub_c w_id (sub_c w_id (sub_c w_id (sub_c w_an (sub_c w_an (sub_c w_id (sub_c w_id (sub_c w_id sub_n)))))))))))))))))) fun (s2069 : ((List U))) => (tb_c (tb_set (te_bltm (ta_m (te_bltm (ta_m (te_ti (ti_us rfl) (fun (l2077 : List U) => (te_lcMapM (Γw := [Sl (Eq1 (.lst true (List.map D.int r2056.2.2))), Sl (Eq1 ((eTO D.int) x_sums)), Sl (Eq1 (eU x_paper)), Sl (Eq1 (.lst true (List.map eU s2069))), Sl (Eq1 (eU r1941)), Sl (Eq1 (D.int x2028)), Sl (Eq1 (eU r2030)), Sl (Eq1 (.lst false (List.map eU r2056.1))), An, An, No, No, No]) (F := fun (x2082 : U) => (((((atI x_sums (0))).bind fun (r2083 : Int) => (some (r2083 - (1))))).bind fun (r2084 : Int) => (opI (dSub (D.int r2084) x2082.1)))) (ei := eU) (eo := D.int) pi_ds (lc_n ((by exact (sub_c w_id (sub_c w_id (sub_c w_id (sub_c w_id (sub_c w_id (sub_c w_id (sub_c w_id (sub_c w_id (sub_c w_an (sub_c w_an (sub_c w_id (sub_c w_id (sub_c w_id sub_n))))))))))))))) (by exact ⟨rfl, trivial⟩)) (fun (x2082 : U) => (tg_n (Nat.le_of_ble_eq_true rfl))) (fun (x2082 : U) => (te_op2m (ta_m (te_op2m (ta_m (te_op2 (tap_c (px_s rfl) (tap_c (px_o pe_c) tap_n)) (rds_c (rd_s rfl p_id) (rds_c rd_e rds_n)) o_ixT) fun (r2083 : Int) => (tap_c (px_o pe_c) tap_n)) (fun (r2083 : Int) => (rds_c rd_e (rds_c rd_e rds_n))) (fun (r2083 : Int) => (op_t (e := D.int) (v := (r2083 - (1))) o_sub))) fun (r2084 : Int) => (tap_c (px_s rfl) tap_n)) (fun (r2084 : Int) => (rds_c rd_e (rds_c (rd_s rfl p_id) rds_n))) (fun (r2084 : Int) => o_dI))) (fun (x2082 : U) _ => (by exact (sub_c w_id (sub_c w_id (sub_c w_id (sub_c w_id (sub_c w_id (sub_c w_id (sub_c w_id (sub_c w_id (sub_c w_an (sub_c w_an (sub_c w_id (sub_c w_id (sub_c w_id sub_n)))))))))))))))))) fun (r2086 : (List Int)) => tap_n) (fun (r2086 : (List Int)) => (rds_c (rd_v p_lue) rds_n)) (fun (r2086 : (List Int)) => (op_t (e := (eLO D.int)) (v := (isort r2086)) o_sorted))) fun (r2087 : (List Int)) => tap_n) (fun (r2087 : (List Int)) => (rds_c (rd_v p_lue) rds_n)) (fun (r2087 : (List Int)) => (op_t (e := (eTO D.int)) (v := r2087) (o_tupL im_int)))) fun _ => (Nat.le_of_ble_eq_true rfl)) fun (r2088 : (List Int)) => (tb_map (φ := fun (r2094 : ((List U) × U)) => (r2056.2.2, r2094.1)) (tb_expr (te_appm (e := eU) (l := s2069) (v := fun (r2093 : U) => (uOf (e := (eT2 D.str eU)) im_t2 (("sets" : Str), r2093))) rfl (te_tup (e := fun (r2093 : U) => (eT2 D.str eU) (("sets" : Str), r2093)) (ta_p (px_o pe_c) (ta_m (te_op2m (ta_mm (te_op2m (ta_m (te_slU (px_s rfl) (rd_s rfl p_id) to_n (to_p (px_s rfl) (rd_s rfl p_id))) fun (r2089 : U) => (tap_c (px_o (pe_tup (tap_c (px_o (pe_use rfl (Imm.nf im_to _))) tap_n) rfl (fz_i (Imm.nf (e := (eTO D.int)) im_to r2088) fz_n) (Nat.le_of_ble_eq_true rfl))) tap_n)) (fun (r2089 : U) => (rds_c rd_e (rds_c rd_e rds_n))) (fun (r2089 : U) => o_dU)) fun (r2090 : U) => (ta_m (te_slU (px_s rfl) (rd_s rfl p_id) (to_p (px_o (pe_op2 (tap_c (px_s rfl) (tap_c (px_o pe_c) tap_n)) (rds_c (rd_s rfl p_id) (rds_c rd_e rds_n)) o_add)) rd_e) to_n) fun (r2091 : U) => tap_n)) (fun (p2092 : (U × U)) => (rds_c rd_e (rds_c rd_e rds_n))) (fun (p2092 : (U × U)) => o_dU)) fun (r2093 : U) => tap_n)) (fun _ => rfl) (fun (r2093 : U) => (fz_i (Imm.nf (e := D.str) im_str ("sets" : Str)) (fz_i (Imm.nf (e := eU) im_u r2093) fz_n))) (fun _ => (Nat.le_of_ble_eq_true rfl)) (fun _ => rfl)) (fun _ => rfl) (fun _ => rfl))) (fun (r2094 : ((List U) × U)) => (by exact (sub_c w_id (sub_c w_id (sub_c w_id (sub_c w_id (sub_c w_id (sub_c w_an (sub_c w_an (sub_c w_an (sub_c w_an (sub_c w_an (sub_c w_id (sub_c w_id (sub_c w_id sub_n)))))))))))))))))))))))) fun (s2029 : ((List Int) × (List U))) => (tb_map (φ := fun (r2125 : ((List U) × (List (List Int)))) => (s2029.1, r2125.1)) (tb_expr (te_appm (e := eU) (l := s2029.2) (v := fun (r2124 : (List (List Int))) => (uOf (e := (eT2 D.str (eTO (eTO D.int)))) im_t2 (("sets" : Str), r2124))) rfl (te_tup (e := fun (r2124 : (List (List Int))) => (eT2 D.str (eTO (eTO D.int))) (("sets" : Str), r2124)) (ta_p (px_o pe_c) (ta_m (te_bltm (ta_m (te_ti (ti_us rfl) (fun (l2096 : List U) => (te_lcMapM (Γw := [Sl (Eq1 (.lst true (List.map D.int s2029.1))), Sl (Eq1 ((eTO D.int) x_sums)), Sl (Eq1 (eU x_paper)), Sl (Eq1 (.lst true (List.map eU s2029.2))), Sl (Eq1 (eU r1941)), An, No, An, An, An, No, No, No]) (F := fun (x2110 : U) => (((((((itU x2110)).bind fun (l2111 : List U) => (lcMapM l2111 fun (x2116 : U) => (((((atI x_sums (0))).bind fun (r2117 : Int) => (some (r2117 - (1))))).bind fun (r2118 : Int) => (opI (dSub (D.int r2118) x2116.1)))))).bind fun (r2120 : (List Int)) => (some (isort r2120)))).bind fun (r2121 : (List Int)) => (some r2121))) (ei := eU) (eo := (eTO D.int)) pi_ds (lc_n ((by exact (sub_c w_id (sub_c w_id (sub_c w_id (sub_c w_id (sub_c w_id (sub_c w_an (sub_c w_id (sub_c w_an (sub_c w_an (sub_c w_an (sub_c w_id (sub_c w_id (sub_c w_id sub_n))))))))))))))) (by exact ⟨rfl, trivial⟩)) (fun (x2110 : U) => (tg_n (Nat.le_of_ble_eq_true rfl))) (fun (x2110 : U) => (te_bltm (ta_m (te_bltm (ta_m (te_ti (ti_us rfl) (fun (l2111 : List U) => (te_lcMapM (Γw := [Sl (Eq1 (.lst true (List.map D.int s2029.1))), Sl (Eq1 ((eTO D.int) x_sums)), Sl (Eq1 (eU x_paper)), Sl (Eq1 (.lst true (List.map eU s2029.2))), Sl (Eq1 (eU r1941)), An, Sl (Eq1 (eU x2110)), An, An, An, No, No, No]) (F := fun (x2116 : U) => (((((atI x_sums (0))).bind fun (r2117 : Int) => (some (r2117 - (1))))).bind fun (r2118 : Int) => (opI (dSub (D.int r2118) x2116.1)))) (ei := eU) (eo := D.int) pi_ds (lc_n ((by exact (sub_c w_id (sub_c w_id (sub_c w_id (sub_c w_id (sub_c w_id (sub_c w_an (sub_c w_id (sub_c w_an (sub_c w_an (sub_c w_an (sub_c w_id (sub_c w_id (sub_c w_id sub_n))))))))))))))) (by exact ⟨rfl, trivial⟩)) (fun (x2116 : U) => (tg_n (Nat.le_of_ble_eq_true rfl))) (fun (x2116 : U) => (te_op2m (ta_m (te_op2m (ta_m (te_op2 (tap_c (px_s rfl) (tap_c (px_o pe_c) tap_n)) (rds_c (rd_s rfl p_id) (rds_c rd_e rds_n)) o_ixT) fun (r2117 : Int) => (tap_c (px_o pe_c) tap_n)) (fun (r2117 : Int) => (rds_c rd_e (rds_c rd_e rds_n))) (fun (r2117 : Int) => (op_t (e := D.int) (v := (r2117 - (1))) o_sub))) fun (r2118 : Int) => (tap_c (px_s rfl) tap_n)) (fun (r2118 : Int) => (rds_c rd_e (rds_c (rd_s rfl p_id) rds_n))) (fun (r2118 : Int) => o_dI))) (fun (x2116 : U) _ => (by exact (sub_c w_id (sub_c w_id (sub_c w_id (sub_c w_id (sub_c w_id (sub_c w_an (sub_c w_id (sub_c w_an (sub_c w_an (sub_c w_an (sub_c w_id (sub_c w_id (sub_c w_id sub_n)))))))))))))))))) fun (r2120 : (List Int)) => tap_n) (fun (r2120 : (List Int)) => (rds_c (rd_v p_lue) rds_n)) (fun (r2120 : (List Int)) => (op_t (e := (eLO D.int)) (v := (isort r2120)) o_sorted))) fun (r2121 : (List Int)) => tap_n) (fun (r2121 : (List Int)) => (rds_c (rd_v p_lue) rds_n)) (fun (r2121 : (List Int)) => (op_t (e := (eTO D.int)) (v := r2121) (o_tupL im_int))))) (fun (x2110 : U) _ => (by exact (sub_c w_id (sub_c w_id (sub_c w_id (sub_c w_id (sub_c w_id (sub_c w_an (sub_c w_id (sub_c w_an (sub_c w_an (sub_c w_an (sub_c w_id (sub_c w_id (sub_c w_id sub_n)))))))))))))))))) fun (r2123 : (List (List Int))) => tap_n) (fun (r2123 : (List (List Int))) => (rds_c (rd_v p_lue) rds_n)) (fun (r2123 : (List (List Int))) => (op_t (e := (eTO (eTO D.int))) (v := r2123) (o_tupL im_to)))) fun (r2124 : (List (List Int))) => tap_n)) (fun _ => rfl) (fun (r2124 : (List (List Int))) => (fz_i (Imm.nf (e := D.str) im_str ("sets" : Str)) (fz_i (Imm.nf (e := (eTO (eTO D.int))) im_to r2124) fz_n))) (fun _ => (Nat.le_of_ble_eq_true rfl)) (fun _ => rfl)) (fun _ => rfl) (fun _ => rfl))) (fun (r2125 : ((List U) × (List (List Int)))) => (by exact (sub_c w_id (sub_c w_id (sub_c w_id (sub_c w_id (sub_c w_an (sub_c w_an (sub_c w_an (sub_c w_an (sub_c w_an (sub_c w_an (sub_c w_id (sub_c w_id (sub_c w_id sub_n)))))))))))))))))))) (fun (r1753 : Bool) => (tb_0 ((by exact (sub_c w_id (sub_c w_id (sub_c w_id (sub_c w_id (sub_c w_an (sub_c w_an (sub_c w_an (sub_c w_an (sub_c w_an (sub_c w_an (sub_c w_id (sub_c w_id (sub_c w_id sub_n)))))))))))))))))) fun (r1940 : ((List Int) × (List U))) => (ts_c (tb_form (Inv := fun (s2135 : ((List Int) × (List U))) => [Sl (Eq1 (.lst true (List.map D.int s2135.1))), Sl (Eq1 ((eTO D.int) x_sums)), Sl (Eq1 (eU x_paper)), Sl (Eq1 (.lst true (List.map eU s2135.2))), An, An, An, An, An, An, An, An, No]) (l := fun (l2127 : List Int) => l2127) (ei := D.int) (ti_r1 (tap_c (px_o pe_c) tap_n) (rds_c rd_e rds_n)) (fun (l2127 : List Int) => (by exact (sub_c w_id (sub_c w_id (sub_c w_id (sub_c w_id (sub_c w_an (sub_c w_an (sub_c w_an (sub_c w_an (sub_c w_an (sub_c w_an (sub_c w_an (sub_c w_an (sub_c w_id sub_n))))))))))))))) (fun (s2135 : ((List Int) × (List U))) (x2136 : Int) => (tg_n (Nat.le_of_ble_eq_true rfl))) (fun (s2135 : ((List Int) × (List U))) (x2136 : Int) => (tb_c (tb_set (te_callb (Ps := fun (r2140 : Int) => [Eq1 (.lst true (List.map D.int s2135.1)), Eq1 (D.int r2140), Eq1 (D.int ((x_sums.length : Int) - (1)))]) (Pd := []) (Γ' := fun (r2141 : ((List (List Int)) × (List Int))) => [Sl (Eq1 (.lst true (List.map D.int r2141.2))), Sl (Eq1 ((eTO D.int) x_sums)), Sl (Eq1 (eU x_paper)), Sl (Eq1 (.lst true (List.map eU s2135.2))), An, An, An, An, An, An, Sl (Eq1 (D.int x2136)), An, No]) (ta_p (px_s rfl) (ta_m (te_bltm (ta_p (px_o pe_c) (ta_m (te_bltm (ta_p (px_o pe_c) (ta_m (te_op2 (tap_c (px_s rfl) (tap_c (px_o pe_c) tap_n)) (rds_c (rd_s rfl p_id) (rds_c rd_e rds_n)) o_ixT) fun (r2138 : Int) => tap_n)) (fun (r2138 : Int) => (rds_c rd_e (rds_c rd_e rds_n))) (fun (r2138 : Int) => (op_t (e := D.int) (v := (min (30) r2138)) o_min2))) fun (r2139 : Int) => tap_n)) (fun (r2139 : Int) => (rds_c rd_e (rds_c rd_e rds_n))) (fun (r2139 : Int) => (op_t (e := D.int) (v := (max (0) r2139)) o_max2))) fun (r2140 : Int) => (tap_c (px_o (pe_op2 (tap_c (px_o (pe_blt (tap_c (px_s rfl) tap_n) (rds_c (rd_s rfl p_id) rds_n) o_lenT)) (tap_c (px_o pe_c) tap_n)) (rds_c rd_e (rds_c rd_e rds_n)) o_sub)) tap_n))) (fun (r2140 : Int) => (sp__law_sets s2135.1 r2140 ((x_sums.length : Int) - (1)))) (by exact trivial) (fun _ _ => by exact (cg_o rfl ow_lo p_id (cg_v e1r (cg_v e1r cg_n))))) fun _ => (Nat.le_of_ble_eq_true rfl)) fun (r2141 : ((List (List Int)) × (List Int))) => (tb_map (φ := fun (r2142 : (List U)) => (r2141.2, r2142)) (tb_expr (te_app (e := eU) (l := s2135.2) (x := (uOf (e := (eT2 D.str (eTO (eTO D.int)))) im_t2 (("sets" : Str), r2141.1))) rfl (pe_tup (tap_c (px_o pe_c) (tap_c (px_o (pe_use rfl (Imm.nf im_to _))) tap_n)) rfl (fz_i (Imm.nf (e := D.str) im_str ("sets" : Str)) (fz_i (Imm.nf (e := (eTO (eTO D.int))) im_to r2141.1) fz_n)) (Nat.le_of_ble_eq_true rfl)))) (fun (r2142 : (List U)) => (by exact (sub_c w_id (sub_c w_id (sub_c w_id (sub_c w_id (sub_c w_an (sub_c w_an (sub_c w_an (sub_c w_an (sub_c w_an (sub_c w_an (sub_c w_an (sub_c w_an (sub_c w_id sub_n))))))))))))))))))) fun (s2137 : ((List Int) × (List U))) => (ts_retp (d := (eLO eU) s2137.2) (pe_move rfl) (fun env' h => by exact ⟨env', rfl, (sub_c w_id (sub_c w_id (sub_c w_id (sub_c w_an (sub_c w_an (sub_c w_an (sub_c w_an (sub_c w_an (sub_c w_an (sub_c w_an (sub_c w_an (sub_c w_an (sub_c w_an sub_n))))))))))))) env' h⟩)))))))))) (fun r => (.f rfl (.f rfl (.f rfl .n))))
/-! _law_right -/
def F__law_right (x_crock : (List Int)) : Option (Bool × (List Int)) := ((F__law_ladle x_crock (11))).bind fun (r2211 : (Int × (List Int))) => ((((((F__law_sets r2211.2 r2211.1 (4))).bind fun (r2212 : ((List (List Int)) × (List Int))) => ((F__law_meets r2211.1 r2212.1)).map fun (v2214 : (List Int)) => (v2214, r2212.2))).bind fun (q2215 : ((List Int) × (List Int))) => ((some q2215.1)).map fun (v2216 : (List Int)) => (v2216, q2215.2))).bind fun (q2217 : ((List Int) × (List Int))) => (((((F__law_ladle q2217.2 (3))).bind fun (r2218 : (Int × (List Int))) => (rng1 r2218.1).map fun (l2220 : List Int) => (l2220, r2218.2))).bind fun (q2221 : (List Int × (List Int))) => foldO (fun (s2234 : ((List Int) × (List Int))) (x2235 : Int) => ((F__law_ladle s2234.1 (s2234.2.length : Int))).bind fun (r2237 : (Int × (List Int))) => ((((((((((atI s2234.2 r2237.1)).bind fun (r2238 : Int) => ((F__law_ladle r2237.2 (5))).map fun (r2239 : (Int × (List Int))) => (r2238, r2239))).bind fun (p2240 : (Int × (Int × (List Int)))) => ((some (p2240.1 + p2240.2.1))).map fun (v2241 : Int) => (v2241, p2240.2.2))).bind fun (q2242 : (Int × (List Int))) => ((some (q2242.1 - (2)))).map fun (v2243 : Int) => (v2243, q2242.2))).bind fun (q2244 : (Int × (List Int))) => (setM s2234.2 r2237.1 q2244.1).map fun (l2246 : (List Int)) => (l2246, q2244))).map fun (r2245 : ((List Int) × (Int × (List Int)))) => (r2245.2.2, r2245.1)) q2221.1 (q2221.2, q2217.1)).bind fun (s2236 : ((List Int) × (List Int))) => ((((((((atI s2236.2 (0))).bind fun (r2247 : Int) => (some (max (0) r2247)))).bind fun (r2248 : Int) => (catM [r2248] (cutD s2236.2 (some (1)) none)))).bind fun (r2249 : (List Int)) => (some r2249))).bind fun (r2250 : (List Int)) => ((F_sums_paper r2250)).bind fun (r2251 : U) => ((((((((F__law_counts r2250)).bind fun (r2252 : (List Int)) => r2252.min?)).bind fun (r2253 : Int) => (some (decide (r2253 < (0)))))).bind fun (r2254 : Bool) => if r2254 = true then (some ("lack" : Str)) else (some ("sets" : Str)))).bind fun (r2255 : Str) => ((((F__law_are_sets r2250 r2251)).bind fun (r2256 : Str) => ((eqS r2256 r2255).map fun b => !b))).bind fun (r2257 : Bool) => if r2257 = true then some (false, s2236.1) else ((F__law_near s2236.1 r2250 r2251)).bind fun (r2258 : ((List U) × (List Int))) => orR (forF (fun (s2268 : ((List Int))) (x2269 : U) => (((F__law_are_sets r2250 x2269)).bind fun (r2271 : Str) => ((((((((F_is_sums_paper r2250 x2269)).bind fun (r2272 : Bool) => (((eqS r2271 ("" : Str)).map fun b => !b)).map fun (r2273 : Bool) => (r2272, r2273))).bind fun (p2274 : (Bool × Bool)) => (some (!decide (p2274.1 = p2274.2))))).bind fun a => if a = true then some true else (opB (dIn true (D.str r2271) ((eT2 D.str D.str) (("" : Str), r2255)))))).bind fun (r2277 : Bool) => if r2277 = true then some (Fl.rt (false, s2268)) else some (Fl.go (s2268)) : Option (Fl ((List Int)) (Bool × (List Int))))) r2258.1 (r2258.2)) (fun (s2270 : ((List Int))) => some (true, s2270)) (fun r2278 => r2278)
theorem sp__law_right (x_crock : (List Int)) : Spec G__law_right [Eq1 (.lst true (List.map D.int x_crock))] (F__law_right x_crock) (fun r => D.bl r.1) (fun r => [Eq1 (.lst true (List.map D.int r.2))]) := by
  unfold F__law_right G__law_right b__law_right
  exact spec_fn (Γ0 := [Sl (Eq1 (.lst true (List.map D.int x_crock))), No, No, No, No, No, No, No, No]) (Γ' := fun r => [Sl (Eq1 (.lst true (List.map D.int r.2))), An, An, An, An, An, An, An, An]) ((ts_c (tb_set (te_call (Ps := [Eq1 (.lst true (List.map D.int x_crock)), Eq1 (D.int (11))]) (Pd := []) (Γ' := fun (r2211 : (Int × (List Int))) => [Sl (Eq1 (.lst true (List.map D.int r2211.2))), No, No, No, No, No, No, No, No]) (tap_c (px_s rfl) (tap_c (px_o pe_c) tap_n)) (sp__law_ladle x_crock (11)) (by exact trivial) (fun _ => by exact (cg_o rfl ow_lo p_id (cg_v e1r cg_n)))) fun _ => (Nat.le_of_ble_eq_true rfl)) fun (r2211 : (Int × (List Int))) => (ts_c (tb_set (te_blte (e' := fun (q2217 : ((List Int) × (List Int))) => (eLO D.int) q2217.1) (Γ2 := fun (q2217 : ((List Int) × (List Int))) => [Sl (Eq1 (.lst true (List.map D.int q2217.2))), Sl (Eq1 (D.int r2211.1)), No, No, No, No, No, No, No]) (ta_m (te_callm (Ps := fun (r2212 : ((List (List Int)) × (List Int))) => [Eq1 (D.int r2211.1), Eq1 ((eTO (eTO D.int)) r2212.1)]) (Pd := []) (e' := fun (q2215 : ((List Int) × (List Int))) => (eTO D.int) q2215.1) (Γ' := fun (q2215 : ((List Int) × (List Int))) => [Sl (Eq1 (.lst true (List.map D.int q2215.2))), Sl (Eq1 (D.int r2211.1)), No, No, No, No, No, No, No]) (ta_p (px_s rfl) (ta_m (te_call (Ps := [Eq1 (.lst true (List.map D.int r2211.2)), Eq1 (D.int r2211.1), Eq1 (D.int (4))]) (Pd := []) (Γ' := fun (r2212 : ((List (List Int)) × (List Int))) => [Sl (Eq1 (.lst true (List.map D.int r2212.2))), Sl (Eq1 (D.int r2211.1)), No, No, No, No, No, No, No]) (tap_c (px_s rfl) (tap_c (px_s rfl) (tap_c (px_o pe_c) tap_n))) (sp__law_sets r2211.2 r2211.1 (4)) (by exact trivial) (fun _ => by exact (cg_o rfl ow_lo p_id (cg_i rfl (nf_eq im_int) p_id (cg_v e1r cg_n))))) fun (r2212 : ((List (List Int)) × (List Int))) => tap_n)) (fun (r2212 : ((List (List Int)) × (List Int))) => (sp__law_meets r2211.1 r2212.1)) (by exact trivial) (fun _ _ => by exact (cg_i rfl (nf_eq im_int) p_id (cg_v e1r cg_n))) (fun _ _ => rfl)) fun (q2215 : ((List Int) × (List Int))) => tap_n) (fun (q2215 : ((List Int) × (List Int))) => (rds_c rd_e rds_n)) (fun (q2215 : ((List Int) × (List Int))) => (op_t (e := (eLO D.int)) (v := q2215.1) o_listT)) (fun _ _ => rfl) (fun _ _ => rfl)) fun _ => (Nat.le_of_ble_eq_true rfl)) fun (q2217 : ((List Int) × (List Int))) => (ts_c (tb_form (Inv := fun (s2234 : ((List Int) × (List Int))) => [Sl (Eq1 (.lst true (List.map D.int s2234.1))), Sl (Eq1 (D.int r2211.1)), Sl (Eq1 (.lst true (List.map D.int s2234.2))), An, An, No, No, No, No]) (l := fun (q2221 : (List Int × (List Int))) => q2221.1) (ei := D.int) (ti_r1e (ds := fun (q2221 : (List Int × (List Int))) => List.map D.int q2221.1) (Γ2 := fun (q2221 : (List Int × (List Int))) => [Sl (Eq1 (.lst true (List.map D.int q2221.2))), Sl (Eq1 (D.int r2211.1)), Sl (Eq1 (.lst true (List.map D.int q2217.1))), No, No, No, No, No, No]) (ta_m (te_call (Ps := [Eq1 (.lst true (List.map D.int q2217.2)), Eq1 (D.int (3))]) (Pd := []) (Γ' := fun (r2218 : (Int × (List Int))) => [Sl (Eq1 (.lst true (List.map D.int r2218.2))), Sl (Eq1 (D.int r2211.1)), Sl (Eq1 (.lst true (List.map D.int q2217.1))), No, No, No, No, No, No]) (tap_c (px_s rfl) (tap_c (px_o pe_c) tap_n)) (sp__law_ladle q2217.2 (3)) (by exact trivial) (fun _ => by exact (cg_o rfl ow_lo p_id (cg_v e1r cg_n)))) fun (r2218 : (Int × (List Int))) => tap_n) (fun (r2218 : (Int × (List Int))) => (rds_c rd_e rds_n)) (fun _ _ => rfl) (fun _ _ => rfl)) (fun (q2221 : (List Int × (List Int))) => (by exact (sub_c w_id (sub_c w_id (sub_c w_id (sub_c w_an (sub_c w_an (sub_c w_id (sub_c w_id (sub_c w_id (sub_c w_id sub_n))))))))))) (fun (s2234 : ((List Int) × (List Int))) (x2235 : Int) => (tg_n (Nat.le_of_ble_eq_true rfl))) (fun (s2234 : ((List Int) × (List Int))) (x2235 : Int) => (tb_c (tb_set (te_call (Ps := [Eq1 (.lst true (List.map D.int s2234.1)), Eq1 (D.int (s2234.2.length : Int))]) (Pd := []) (Γ' := fun (r2237 : (Int × (List Int))) => [Sl (Eq1 (.lst true (List.map D.int r2237.2))), Sl (Eq1 (D.int r2211.1)), Sl (Eq1 (.lst true (List.map D.int s2234.2))), Sl (Eq1 (D.int x2235)), An, No, No, No, No]) (tap_c (px_s rfl) (tap_c (px_o (pe_blt (tap_c (px_s rfl) tap_n) (rds_c (rd_s rfl p_lu) rds_n) o_lenL)) tap_n)) (sp__law_ladle s2234.1 (s2234.2.length : Int)) (by exact trivial) (fun _ => by exact (cg_o rfl ow_lo p_id (cg_v e1r cg_n)))) fun _ => (Nat.le_of_ble_eq_true rfl)) fun (r2237 : (Int × (List Int))) => (tb_map (φ := fun (r2245 : ((List Int) × (Int × (List Int)))) => (r2245.2.2, r2245.1)) (tb_setix (e := D.int) (v := fun (q2244 : (Int × (List Int))) => q2244.1) (l := fun (q2244 : (Int × (List Int))) => s2234.2) (k := fun (q2244 : (Int × (List Int))) => r2237.1) (te_op2e (e' := fun (q2244 : (Int × (List Int))) => D.int q2244.1) (Γ2 := fun (q2244 : (Int × (List Int))) => [Sl (Eq1 (.lst true (List.map D.int q2244.2))), Sl (Eq1 (D.int r2211.1)), Sl (Eq1 (.lst true (List.map D.int s2234.2))), Sl (Eq1 (D.int x2235)), Sl (Eq1 (D.int r2237.1)), No, No, No, No]) (ta_m (te_op2e (e' := fun (q2242 : (Int × (List Int))) => D.int q2242.1) (Γ2 := fun (q2242 : (Int × (List Int))) => [Sl (Eq1 (.lst true (List.map D.int q2242.2))), Sl (Eq1 (D.int r2211.1)), Sl (Eq1 (.lst true (List.map D.int s2234.2))), Sl (Eq1 (D.int x2235)), Sl (Eq1 (D.int r2237.1)), No, No, No, No]) (ta_mm (te_op2 (tap_c (px_s rfl) (tap_c (px_s rfl) tap_n)) (rds_c (rd_s rfl p_lu) (rds_c (rd_s rfl p_id) rds_n)) (o_ixL im_int)) fun (r2238 : Int) => (ta_m (te_call (Ps := [Eq1 (.lst true (List.map D.int r2237.2)), Eq1 (D.int (5))]) (Pd := []) (Γ' := fun (r2239 : (Int × (List Int))) => [Sl (Eq1 (.lst true (List.map D.int r2239.2))), Sl (Eq1 (D.int r2211.1)), Sl (Eq1 (.lst true (List.map D.int s2234.2))), Sl (Eq1 (D.int x2235)), Sl (Eq1 (D.int r2237.1)), No, No, No, No]) (tap_c (px_s rfl) (tap_c (px_o pe_c) tap_n)) (sp__law_ladle r2237.2 (5)) (by exact trivial) (fun _ => by exact (cg_o rfl ow_lo p_id (cg_v e1r cg_n)))) fun (r2239 : (Int × (List Int))) => tap_n)) (fun (p2240 : (Int × (Int × (List Int)))) => (rds_c rd_e (rds_c rd_e rds_n))) (fun (p2240 : (Int × (Int × (List Int)))) => (op_t (e := D.int) (v := (p2240.1 + p2240.2.1)) o_add)) (fun _ _ => rfl) (fun _ _ => rfl)) fun (q2242 : (Int × (List Int))) => (tap_c (px_o pe_c) tap_n)) (fun (q2242 : (Int × (List Int))) => (rds_c rd_e (rds_c rd_e rds_n))) (fun (q2242 : (Int × (List Int))) => (op_t (e := D.int) (v := (q2242.1 - (2))) o_sub)) (fun _ _ => rfl) (fun _ _ => rfl)) (fun _ => rfl) (fun _ => rfl) (fun (q2244 : (Int × (List Int))) => (px_s rfl)) (fun _ => (rd_s rfl p_id))) (fun (r2245 : ((List Int) × (Int × (List Int)))) => (by exact (sub_c w_id (sub_c w_id (sub_c w_id (sub_c w_an (sub_c w_an (sub_c w_id (sub_c w_id (sub_c w_id (sub_c w_id sub_n))))))))))))))) fun (s2236 : ((List Int) × (List Int))) => (ts_c (tb_set (te_bltm (ta_m (te_op2m (ta_m (te_lst (e := fun (r2248 : Int) => (eLO D.int) [r2248]) (ta_m (te_bltm (ta_p (px_o pe_c) (ta_m (te_op2 (tap_c (px_s rfl) (tap_c (px_o pe_c) tap_n)) (rds_c (rd_s rfl p_lu) (rds_c rd_e rds_n)) (o_ixL im_int)) fun (r2247 : Int) => tap_n)) (fun (r2247 : Int) => (rds_c rd_e (rds_c rd_e rds_n))) (fun (r2247 : Int) => (op_t (e := D.int) (v := (max (0) r2247)) o_max2))) fun (r2248 : Int) => tap_n) (fun _ => rfl) (fun _ => (Nat.le_of_ble_eq_true rfl)) (fun _ => rfl)) fun (r2248 : Int) => (tap_c (px_o (pe_sl (u := none) (v := none) (px_s rfl) (rd_s rfl p_lu) (to_p (px_o pe_c) rd_e) to_n (o_slL im_int))) tap_n)) (fun (r2248 : Int) => (rds_c (rd_v p_lue) (rds_c (rd_v p_lue) rds_n))) (fun (r2248 : Int) => (o_catL (e := D.int) (l := [r2248]) (m := (cutD s2236.2 (some (1)) none)) im_int))) fun (r2249 : (List Int)) => tap_n) (fun (r2249 : (List Int)) => (rds_c (rd_v p_lue) rds_n)) (fun (r2249 : (List Int)) => (op_t (e := (eTO D.int)) (v := r2249) (o_tupL im_int)))) fun _ => (Nat.le_of_ble_eq_true rfl)) fun (r2250 : (List Int)) => (ts_c (tb_set (te_call (Ps := [Eq1 ((eTO D.int) r2250)]) (Pd := []) (Γ' := fun (r2251 : U) => [Sl (Eq1 (.lst true (List.map D.int s2236.1))), Sl (Eq1 (D.int r2211.1)), Sl (Eq1 ((eTO D.int) r2250)), An, An, No, No, No, No]) (tap_c (px_s rfl) tap_n) (sp_sums_paper r2250) (by exact trivial) (fun _ => by exact (cg_i rfl (nf_eq im_to) p_id cg_n))) fun _ => (Nat.le_of_ble_eq_true rfl)) fun (r2251 : U) => (ts_c (tb_set (te_if (tt_e (b := fun (r2254 : Bool) => r2254) (te_op2m (ta_m (te_bltm (ta_m (te_call (Ps := [Eq1 ((eTO D.int) r2250)]) (Pd := []) (Γ' := fun (r2252 : (List Int)) => [Sl (Eq1 (.lst true (List.map D.int s2236.1))), Sl (Eq1 (D.int r2211.1)), Sl (Eq1 ((eTO D.int) r2250)), An, An, Sl (Eq1 (eU r2251)), No, No, No]) (tap_c (px_s rfl) tap_n) (sp__law_counts r2250) (by exact trivial) (fun _ => by exact (cg_i rfl (nf_eq im_to) p_id cg_n))) fun (r2252 : (List Int)) => tap_n) (fun (r2252 : (List Int)) => (rds_c rd_e rds_n)) (fun (r2252 : (List Int)) => o_minT)) fun (r2253 : Int) => (tap_c (px_o pe_c) tap_n)) (fun (r2253 : Int) => (rds_c rd_e (rds_c rd_e rds_n))) (fun (r2253 : Int) => (op_t (e := D.bl) (v := (decide (r2253 < (0)))) o_lt))) (fun _ => rfl)) (fun (r2254 : Bool) => (te_p (e := D.str) (v := ("lack" : Str)) pe_c)) (fun (r2254 : Bool) => (te_p (e := D.str) (v := ("sets" : Str)) pe_c))) fun _ => (Nat.le_of_ble_eq_true rfl)) fun (r2255 : Str) => (ts_if0 ir_si (tt_e (b := fun (r2257 : Bool) => r2257) (te_op2m (ta_m (te_call (Ps := [Eq1 ((eTO D.int) r2250), Eq1 (eU r2251)]) (Pd := []) (Γ' := fun (r2256 : Str) => [Sl (Eq1 (.lst true (List.map D.int s2236.1))), Sl (Eq1 (D.int r2211.1)), Sl (Eq1 ((eTO D.int) r2250)), An, An, Sl (Eq1 (eU r2251)), Sl (Eq1 (D.str r2255)), No, No]) (tap_c (px_s rfl) (tap_c (px_s rfl) tap_n)) (sp__law_are_sets r2250 r2251) (by exact trivial) (fun _ => by exact (cg_i rfl (nf_eq im_to) p_id (cg_i rfl (nf_eq im_u) p_id cg_n)))) fun (r2256 : Str) => (tap_c (px_s rfl) tap_n)) (fun (r2256 : Str) => (rds_c rd_e (rds_c (rd_s rfl p_id) rds_n))) (fun (r2256 : Str) => o_neS)) (fun _ => rfl)) (fun (r2257 : Bool) => (ts_retp (d := D.bl false) pe_c (fun env' h => by exact ⟨env', rfl, (sub_c w_id (sub_c w_an (sub_c w_an (sub_c w_an (sub_c w_an (sub_c w_an (sub_c w_an (sub_c w_an (sub_c w_an sub_n))))))))) env' h⟩))) (fun (r2257 : Bool) => (ts_form (ι := fun r2278 => r2278) (Inv := fun (s2268 : ((List Int))) => [Sl (Eq1 (.lst true (List.map D.int s2268))), Sl (Eq1 (D.int r2211.1)), Sl (Eq1 ((eTO D.int) r2250)), An, An, Sl (Eq1 (eU r2251)), Sl (Eq1 (D.str r2255)), An, An]) (l := fun (r2258 : ((List U) × (List Int))) => r2258.1) (ei := eU) (e := fun r => D.bl r.1) (Γr := fun r => [Sl (Eq1 (.lst true (List.map D.int r.2))), An, An, An, An, An, An, An, An]) (ti_v (e := fun (r2258 : ((List U) × (List Int))) => (eLO eU) r2258.1) (te_call (Ps := [Eq1 (.lst true (List.map D.int s2236.1)), Eq1 ((eTO D.int) r2250), Eq1 (eU r2251)]) (Pd := []) (Γ' := fun (r2258 : ((List U) × (List Int))) => [Sl (Eq1 (.lst true (List.map D.int r2258.2))), Sl (Eq1 (D.int r2211.1)), Sl (Eq1 ((eTO D.int) r2250)), An, An, Sl (Eq1 (eU r2251)), Sl (Eq1 (D.str r2255)), No, No]) (tap_c (px_s rfl) (tap_c (px_s rfl) (tap_c (px_s rfl) tap_n))) (sp__law_near s2236.1 r2250 r2251) (by exact trivial) (fun _ => by exact (cg_o rfl ow_lo p_id (cg_i rfl (nf_eq im_to) p_id (cg_i rfl (nf_eq im_u) p_id cg_n))))) (fun _ => (it_lo im_u))) (fun (r2258 : ((List U) × (List Int))) => (by exact (sub_c w_id (sub_c w_id (sub_c w_id (sub_c w_an (sub_c w_an (sub_c w_id (sub_c w_id (sub_c w_an (sub_c w_an sub_n))))))))))) (fun (s2268 : ((List Int))) (x2269 : U) => (tg_n (Nat.le_of_ble_eq_true rfl))) (fun (s2268 : ((List Int))) (x2269 : U) => (ts_c (tb_set (te_call (Ps := [Eq1 ((eTO D.int) r2250), Eq1 (eU x2269)]) (Pd := []) (Γ' := fun (r2271 : Str) => [Sl (Eq1 (.lst true (List.map D.int s2268))), Sl (Eq1 (D.int r2211.1)), Sl (Eq1 ((eTO D.int) r2250)), An, An, Sl (Eq1 (eU r2251)), Sl (Eq1 (D.str r2255)), Sl (Eq1 (eU x2269)), An]) (tap_c (px_s rfl) (tap_c (px_s rfl) tap_n)) (sp__law_are_sets r2250 x2269) (by exact trivial) (fun _ => by exact (cg_i rfl (nf_eq im_to) p_id (cg_i rfl (nf_eq im_u) p_id cg_n)))) fun _ => (Nat.le_of_ble_eq_true rfl)) fun (r2271 : Str) => (ts_if (tt_or (tt_e (b := fun (r2275 : Bool) => r2275) (te_op2m (ta_mm (te_call (Ps := [Eq1 ((eTO D.int) r2250), Eq1 (eU x2269)]) (Pd := []) (Γ' := fun (r2272 : Bool) => [Sl (Eq1 (.lst true (List.map D.int s2268))), Sl (Eq1 (D.int r2211.1)), Sl (Eq1 ((eTO D.int) r2250)), An, An, Sl (Eq1 (eU r2251)), Sl (Eq1 (D.str r2255)), Sl (Eq1 (eU x2269)), Sl (Eq1 (D.str r2271))]) (tap_c (px_s rfl) (tap_c (px_s rfl) tap_n)) (sp_is_sums_paper r2250 x2269) (by exact trivial) (fun _ => by exact (cg_i rfl (nf_eq im_to) p_id (cg_i rfl (nf_eq im_u) p_id cg_n)))) fun (r2272 : Bool) => (ta_m (te_op2 (tap_c (px_s rfl) (tap_c (px_o pe_c) tap_n)) (rds_c (rd_s rfl p_id) (rds_c rd_e rds_n)) o_neS) fun (r2273 : Bool) => tap_n)) (fun (p2274 : (Bool × Bool)) => (rds_c rd_e (rds_c rd_e rds_n))) (fun (p2274 : (Bool × Bool)) => (op_t (e := D.bl) (v := (!decide (p2274.1 = p2274.2))) (o_ne (e := D.bl) (x := p2274.1) (y := p2274.2) eqd_bl (Nat.le_of_ble_eq_true rfl))))) (fun _ => rfl)) (tt_e (b := fun (r2276 : Bool) => r2276) (te_op2 (tap_c (px_s rfl) (tap_c (px_o (pe_tup (tap_c (px_o pe_c) (tap_c (px_o (pe_use rfl (Imm.nf im_str _))) tap_n)) rfl (fz_i (Imm.nf (e := D.str) im_str ("" : Str)) (fz_i (Imm.nf (e := D.str) im_str r2255) fz_n)) (Nat.le_of_ble_eq_true rfl))) tap_n)) (rds_c (rd_s rfl p_id) (rds_c rd_e rds_n)) o_dB) (fun _ => rfl))) (fun (r2277 : Bool) => (ts_retp (d := D.bl false) pe_c (fun env' h => by exact ⟨env', rfl, (sub_c w_id (sub_c w_an (sub_c w_an (sub_c w_an (sub_c w_an (sub_c w_an (sub_c w_an (sub_c w_an (sub_c w_an sub_n))))))))) env' h⟩))) (fun (r2277 : Bool) => (ts_0 (fun env' h => by exact ⟨env', .inl rfl, (sub_c w_id (sub_c w_id (sub_c w_id (sub_c w_an (sub_c w_an (sub_c w_id (sub_c w_id (sub_c w_an (sub_c w_an sub_n))))))))) env' h⟩)))))) (fun r env' h => by exact ⟨env', rfl, h⟩) (fun (s2270 : ((List Int))) => (ts_retp (d := D.bl true) pe_c (fun env' h => by exact ⟨env', rfl, (sub_c w_id (sub_c w_an (sub_c w_an (sub_c w_an (sub_c w_an (sub_c w_an (sub_c w_an (sub_c w_an (sub_c w_an sub_n))))))))) env' h⟩))))))))))))) (fun r => (.f rfl .n))
/-! law -/
def F_law (x_script : List Int) : Option Bool := ((rng1 (max (1) (min (3) (x_script.length : Int))))).bind fun (l2312 : List Int) => orR (forF (fun (s2325 : (Unit)) (x2326 : Int) => (((F__law_crock x_script x2326)).bind fun (r2328 : (List Int)) => ((rng1 (4))).bind fun (l2329 : List Int) => orR (forF (fun (s2333 : ((List Int))) (x2334 : Int) => (((F__law_right s2333)).bind fun (r2336 : (Bool × (List Int))) => if (!r2336.1) = true then some (Fl.rt false) else some (Fl.go (r2336.2)) : Option (Fl ((List Int)) Bool))) l2329 (r2328)) (fun (s2335 : ((List Int))) => some (Fl.go ())) (fun r2337 => (Fl.rt r2337)) : Option (Fl (Unit) Bool))) l2312 ()) (fun (s2327 : (Unit)) => ((((F_sums_paper [((2), (3), (0)).1, ((2), (3), (0)).2.1, ((2), (3), (0)).2.2])).bind fun (r2338 : U) => ((((F_is_sums_paper [((2), (2), (1)).1, ((2), (2), (1)).2.1, ((2), (2), (1)).2.2] (uOf (e := (eT2 D.str (eT2 (eT1 D.int) (eT1 D.int)))) im_t2 (("sets" : Str), (((0)), ((0))))))).bind fun (r2339 : Bool) => ((F_sums_paper [((0), (0)).1, ((0), (0)).2])).map fun (r2340 : U) => (r2339, r2340))).map fun (p2341 : (Bool × U)) => (r2338, p2341))).bind fun (p2342 : (U × (Bool × U))) => (opB (dEq false ((eLO eU) [p2342.1, (uOf (e := D.bl) im_bl p2342.2.1), p2342.2.2]) ((eLO eU) [(uOf (e := (eT2 D.str D.int)) im_t2 (("lack" : Str), (0))), (uOf (e := D.bl) im_bl true), (uOf (e := (eT2 D.str (eT1 eT0))) im_t2 (("sets" : Str), (())))])))) (fun r2344 => r2344)
theorem sp_law (x_script : List Int) : Spec G_law [Eq1 (D.scr x_script)] (F_law x_script) (fun r => D.bl r) (fun r => [Eq1 (D.scr x_script)]) := by
  unfold F_law G_law b_law
  exact spec_fn (Γ0 := [Sl (Eq1 (D.scr x_script)), No, No, No, No]) (Γ' := fun r => [Sl (Eq1 (D.scr x_script)), An, An, An, An]) ((ts_form (ι := fun r2344 => r2344) (Inv := fun (s2325 : (Unit)) => [Sl (Eq1 (D.scr x_script)), An, An, An, No]) (l := fun (l2312 : List Int) => l2312) (ei := D.int) (e := fun r => D.bl r) (Γr := fun r => [Sl (Eq1 (D.scr x_script)), An, An, An, An]) (ti_r1 (tap_c (px_o (pe_blt (tap_c (px_o pe_c) (tap_c (px_o (pe_blt (tap_c (px_o pe_c) (tap_c (px_o (pe_blt (tap_c (px_s rfl) tap_n) (rds_c (rd_s rfl p_id) rds_n) o_lenS)) tap_n)) (rds_c rd_e (rds_c rd_e rds_n)) o_min2)) tap_n)) (rds_c rd_e (rds_c rd_e rds_n)) o_max2)) tap_n) (rds_c rd_e rds_n)) (fun (l2312 : List Int) => (by exact (sub_c w_id (sub_c w_an (sub_c w_an (sub_c w_an (sub_c w_id sub_n))))))) (fun (s2325 : (Unit)) (x2326 : Int) => (tg_n (Nat.le_of_ble_eq_true rfl))) (fun (s2325 : (Unit)) (x2326 : Int) => (ts_c (tb_set (te_call (Ps := [Eq1 (D.scr x_script), Eq1 (D.int x2326)]) (Pd := []) (Γ' := fun (r2328 : (List Int)) => [Sl (Eq1 (D.scr x_script)), Sl (Eq1 (D.int x2326)), An, An, No]) (tap_c (px_s rfl) (tap_c (px_s rfl) tap_n)) (sp__law_crock x_script x2326) (by exact trivial) (fun _ => by exact (cg_i rfl nf_sc p_id (cg_i rfl (nf_eq im_int) p_id cg_n)))) fun _ => (Nat.le_of_ble_eq_true rfl)) fun (r2328 : (List Int)) => (ts_forl (ι := fun r2337 => (Fl.rt r2337)) (κ := fun (s2335 : ((List Int))) => Fl.go ()) (Inv := fun (s2333 : ((List Int))) => [Sl (Eq1 (D.scr x_script)), Sl (Eq1 (D.int x2326)), Sl (Eq1 (.lst true (List.map D.int s2333))), An, No]) (l := fun (l2329 : List Int) => l2329) (ei := D.int) (e := fun r => D.bl r) (Γr := fun r => [Sl (Eq1 (D.scr x_script)), An, An, An, An]) (ti_r1 (tap_c (px_o pe_c) tap_n) (rds_c rd_e rds_n)) (fun (l2329 : List Int) => (by exact (sub_c w_id (sub_c w_id (sub_c w_id (sub_c w_an (sub_c w_id sub_n))))))) (fun (s2333 : ((List Int))) (x2334 : Int) => (tg_n (Nat.le_of_ble_eq_true rfl))) (fun (s2333 : ((List Int))) (x2334 : Int) => (ts_if (tt_n (tt_e (b := fun (r2336 : (Bool × (List Int))) => r2336.1) (te_call (Ps := [Eq1 (.lst true (List.map D.int s2333))]) (Pd := []) (Γ' := fun (r2336 : (Bool × (List Int))) => [Sl (Eq1 (D.scr x_script)), Sl (Eq1 (D.int x2326)), Sl (Eq1 (.lst true (List.map D.int r2336.2))), Sl (Eq1 (D.int x2334)), No]) (tap_c (px_s rfl) tap_n) (sp__law_right s2333) (by exact trivial) (fun _ => by exact (cg_o rfl ow_lo p_id cg_n))) (fun _ => rfl))) (fun (r2336 : (Bool × (List Int))) => (ts_retp (d := D.bl false) pe_c (fun env' h => by exact ⟨env', rfl, (sub_c w_id (sub_c w_an (sub_c w_an (sub_c w_an (sub_c w_an sub_n))))) env' h⟩))) (fun (r2336 : (Bool × (List Int))) => (ts_0 (fun env' h => by exact ⟨env', .inl rfl, (sub_c w_id (sub_c w_id (sub_c w_id (sub_c w_an (sub_c w_id sub_n))))) env' h⟩))))) (fun r env' h => by exact ⟨env', rfl, h⟩) (fun (s2335 : ((List Int))) env' h => by exact ⟨env', .inl rfl, (sub_c w_id (sub_c w_an (sub_c w_an (sub_c w_an (sub_c w_id sub_n))))) env' h⟩)))) (fun r env' h => by exact ⟨env', rfl, h⟩) (fun (s2327 : (Unit)) => (ts_c (tb_set (te_lst (e := fun (p2342 : (U × (Bool × U))) => (eLO eU) [p2342.1, (uOf (e := D.bl) im_bl p2342.2.1), p2342.2.2]) (ta_mm (te_call (Ps := [Eq1 ((eTO D.int) [((2), (3), (0)).1, ((2), (3), (0)).2.1, ((2), (3), (0)).2.2])]) (Pd := []) (Γ' := fun (r2338 : U) => [Sl (Eq1 (D.scr x_script)), An, An, An, No]) (tap_c (px_o (pe_tup (tap_c (px_o pe_c) (tap_c (px_o pe_c) (tap_c (px_o pe_c) tap_n))) rfl (fz_i (Imm.nf (e := D.int) im_int (2)) (fz_i (Imm.nf (e := D.int) im_int (3)) (fz_i (Imm.nf (e := D.int) im_int (0)) fz_n))) (Nat.le_of_ble_eq_true rfl))) tap_n) (sp_sums_paper [((2), (3), (0)).1, ((2), (3), (0)).2.1, ((2), (3), (0)).2.2]) (by exact trivial) (fun _ => by exact (cg_v e1r cg_n))) fun (r2338 : U) => (ta_mm (te_call (Ps := [Eq1 ((eTO D.int) [((2), (2), (1)).1, ((2), (2), (1)).2.1, ((2), (2), (1)).2.2]), Eq1 (eU (uOf (e := (eT2 D.str (eT2 (eT1 D.int) (eT1 D.int)))) im_t2 (("sets" : Str), (((0)), ((0))))))]) (Pd := []) (Γ' := fun (r2339 : Bool) => [Sl (Eq1 (D.scr x_script)), An, An, An, No]) (tap_c (px_o (pe_tup (tap_c (px_o pe_c) (tap_c (px_o pe_c) (tap_c (px_o pe_c) tap_n))) rfl (fz_i (Imm.nf (e := D.int) im_int (2)) (fz_i (Imm.nf (e := D.int) im_int (2)) (fz_i (Imm.nf (e := D.int) im_int (1)) fz_n))) (Nat.le_of_ble_eq_true rfl))) (tap_c (px_o (pe_tup (tap_c (px_o pe_c) (tap_c (px_o (pe_tup (tap_c (px_o (pe_tup (tap_c (px_o pe_c) tap_n) rfl (fz_i (Imm.nf (e := D.int) im_int (0)) fz_n) (Nat.le_of_ble_eq_true rfl))) (tap_c (px_o (pe_tup (tap_c (px_o pe_c) tap_n) rfl (fz_i (Imm.nf (e := D.int) im_int (0)) fz_n) (Nat.le_of_ble_eq_true rfl))) tap_n)) rfl (fz_i (Imm.nf (e := (eT1 D.int)) im_t1 ((0))) (fz_i (Imm.nf (e := (eT1 D.int)) im_t1 ((0))) fz_n)) (Nat.le_of_ble_eq_true rfl))) tap_n)) rfl (fz_i (Imm.nf (e := D.str) im_str ("sets" : Str)) (fz_i (Imm.nf (e := (eT2 (eT1 D.int) (eT1 D.int))) im_t2 (((0)), ((0)))) fz_n)) (Nat.le_of_ble_eq_true rfl))) tap_n)) (sp_is_sums_paper [((2), (2), (1)).1, ((2), (2), (1)).2.1, ((2), (2), (1)).2.2] (uOf (e := (eT2 D.str (eT2 (eT1 D.int) (eT1 D.int)))) im_t2 (("sets" : Str), (((0)), ((0)))))) (by exact trivial) (fun _ => by exact (cg_v e1r (cg_v e1r cg_n)))) fun (r2339 : Bool) => (ta_m (te_call (Ps := [Eq1 ((eTO D.int) [((0), (0)).1, ((0), (0)).2])]) (Pd := []) (Γ' := fun (r2340 : U) => [Sl (Eq1 (D.scr x_script)), An, An, An, No]) (tap_c (px_o (pe_tup (tap_c (px_o pe_c) (tap_c (px_o pe_c) tap_n)) rfl (fz_i (Imm.nf (e := D.int) im_int (0)) (fz_i (Imm.nf (e := D.int) im_int (0)) fz_n)) (Nat.le_of_ble_eq_true rfl))) tap_n) (sp_sums_paper [((0), (0)).1, ((0), (0)).2]) (by exact trivial) (fun _ => by exact (cg_v e1r cg_n))) fun (r2340 : U) => tap_n))) (fun _ => rfl) (fun _ => (Nat.le_of_ble_eq_true rfl)) (fun _ => rfl)) fun _ => (Nat.le_of_ble_eq_true rfl)) fun (p2342 : (U × (Bool × U))) => (ts_ret0 (te_op2 (tap_c (px_s rfl) (tap_c (px_o (pe_lst (tap_c (px_o (pe_tup (tap_c (px_o pe_c) (tap_c (px_o pe_c) tap_n)) rfl (fz_i (Imm.nf (e := D.str) im_str ("lack" : Str)) (fz_i (Imm.nf (e := D.int) im_int (0)) fz_n)) (Nat.le_of_ble_eq_true rfl))) (tap_c (px_o pe_c) (tap_c (px_o (pe_tup (tap_c (px_o pe_c) (tap_c (px_o (pe_tup (tap_c (px_o (pe_tup tap_n rfl fz_n (Nat.le_of_ble_eq_true rfl))) tap_n) rfl (fz_i (Imm.nf (e := eT0) im_t0 ()) fz_n) (Nat.le_of_ble_eq_true rfl))) tap_n)) rfl (fz_i (Imm.nf (e := D.str) im_str ("sets" : Str)) (fz_i (Imm.nf (e := (eT1 eT0)) im_t1 (())) fz_n)) (Nat.le_of_ble_eq_true rfl))) tap_n))) rfl (Nat.le_of_ble_eq_true rfl))) tap_n)) (rds_c (rd_s rfl p_id) (rds_c rd_e rds_n)) o_dB) (fun r env' h => by exact ⟨env', rfl, (sub_c w_id (sub_c w_an (sub_c w_an (sub_c w_an (sub_c w_an sub_n))))) env' h⟩)))))) (fun r => (.f rfl .n))
end Law

set_option maxHeartbeats 4000000
namespace Law
open PySem PySem.Spec PyProof.Rows L2 Tr
theorem f_sign (i : Int) : F_sign_of i = some (sg i) := by
  unfold F_sign_of sg
  by_cases h : i % 2 = 0 <;> simp [modM, h]
theorem f_out_all : ∀ n k : Fin 9, F_out_of n.val k.val = some (ch n.val k.val) := by decide +kernel
theorem f_lout_all : ∀ n k : Fin 9, F__law_out_of n.val k.val = some (ch n.val k.val) := by decide +kernel
theorem f_out {n k : Nat} (hn : n < 9) (hk : k < 9) : F_out_of n k = some (ch n k) := f_out_all ⟨n, hn⟩ ⟨k, hk⟩
theorem f_lout {n k : Nat} (hn : n < 9) (hk : k < 9) : F__law_out_of n k = some (ch n k) := f_lout_all ⟨n, hn⟩ ⟨k, hk⟩
theorem atI_gt0 {xs : List Int} {k : Nat} (h : k < xs.length) : atI xs (k : Int) = some (gt0 xs k) := by
  rw [atI_n, getD_lt h]; exact List.getElem?_eq_getElem h
theorem f_counts_in (xs : List Int) (hl : xs.length ≤ 8) (hb : ∀ x ∈ xs, big x) : F_counts_in xs = some (cin xs) := by
  unfold F_counts_in
  rw [Option.bind_some, rng1_nat (by omega), Option.bind_some, lcMapM_some (fun r => ((List.range (xs.length - r.toNat)).map fun (k : Nat) => sg k * ch (r.toNat + k) r.toNat * gt0 xs (r.toNat + k)).sum) (line_r (by omega))]
  · simp [cin]
  · intro x hx
    simp only [List.mem_map, List.mem_range] at hx
    obtain ⟨r, hr, rfl⟩ := hx
    rw [rng2_nat (a := r) (n := xs.length) (by omega) (by omega), Option.bind_some, lcMapM_some (fun j => sg (j - r) * ch j.toNat r * gt0 xs j.toNat)]
    · simp
      congr 1
      apply List.map_congr_left
      intro k _
      simp [show ((r : Int) + k - r) = k by omega, show ((r : Int) + k).toNat = r + k by omega]
    · exact line_r (by omega)
    · intro y hy
      simp only [List.mem_map, List.mem_range] at hy
      obtain ⟨k, hk, rfl⟩ := hy
      have q := mul_sc (sg_abs (((r + k : Nat) : Int) - r)) (ch_lt (n := r + k) (k := r) (by omega) (by omega)) (big_get hb (k := r + k) (by omega))
      simp only [f_sign, f_out (n := r + k) (k := r) (by omega) (by omega), atI_gt0 (xs := xs) (k := r + k) (by omega), Option.bind_some, Option.map_some, mulM_some q.1, mulM_some q.2.1, Int.toNat_natCast]
theorem f_whole (i : Int) : F_is_whole i () () = some true := rfl
theorem f_whole_1 (i lo hi : Int) : F_is_whole_1 i lo hi = some (decide (lo ≤ i) && decide (i ≤ hi)) := by
  unfold F_is_whole_1
  by_cases h : i < lo
  · simp [h]; omega
  · have h2 : lo ≤ i := by omega
    simp [h, h2]
theorem f_need_sums (xs : List Int) (h2 : 2 ≤ xs.length) (h7 : xs.length ≤ 7) (hb : ∀ x ∈ xs, x.natAbs < 10 ^ 30) : F_need_sums xs = some () := by
  unfold F_need_sums
  have a1 : (2 : Int) ≤ xs.length := by omega
  have a2 : (xs.length : Int) ≤ 6 + 1 := by omega
  simp only [a1, a2, decide_true, Bool.and_self, Bool.not_true, Bool.false_eq_true, if_false, Option.bind_some]
  rw [lcMapM_some (fun _ => true) (line_k' (by omega))]
  · simp
  · intro x hx
    have := hb x hx
    simp [f_whole]
    omega
theorem f_need_things (n : Int) (h0 : 0 ≤ n) (hn : n ≤ 30) : F_need_things n = some () := by
  unfold F_need_things
  simp [f_whole_1, h0, hn]
theorem enumL_at {α : Type} : ∀ (l : List α) (k i : Nat), (enumL k l)[i]? = (l[i]?).map fun x => (((k + i : Nat) : Int), x)
  | [], k, i => by simp [enumL]
  | x :: xs, k, 0 => by simp [enumL]
  | x :: xs, k, i + 1 => by
    simp only [enumL, List.getElem?_cons_succ]
    rw [enumL_at xs (k + 1) i, show k + 1 + i = k + (i + 1) by omega]
theorem enumL_len {α : Type} : ∀ (l : List α) (k : Nat), (enumL k l).length = l.length
  | [], k => rfl
  | x :: xs, k => by simp [enumL, enumL_len xs]
theorem enumL_ints (xs : List Int) : enumL 0 xs = (List.range xs.length).map fun (k : Nat) => ((k : Int), gt0 xs k) := by
  apply List.ext_getElem?
  intro i
  rw [enumL_at]
  by_cases h : i < xs.length
  · simp [h, gt0]
  · simp [h]
theorem f_sets_by (cs : List Int) (h1 : 1 ≤ cs.length) (h7 : cs.length ≤ 7) (h0 : ∀ x ∈ cs, 0 ≤ x) (hs : cs.sum ≤ 60) : F_sets_by cs = some (setsBy cs) := by
  have hlen : ∀ n, n ≤ cs.length → (oftL cs n).length ≤ 60 := fun n hn => by
    have a := oftL_len cs h0 n hn
    have b := sum_take_le cs h0 n
    omega
  unfold F_sets_by
  rw [Option.bind_some]
  rw [foldO_to (fun i => oftL cs i) (s := []) rfl]
  · rw [enumL_len, Option.bind_some]
    have lo := hlen cs.length (Nat.le_refl _)
    have e1 : (cs.length : Int) - 1 = ((cs.length - 1 : Nat) : Int) := by omega
    rw [e1, rng1_nat (by omega), Option.bind_some, lcMapM_some (fun x => ((List.range (oftL cs cs.length).length).filter fun (t : Nat) => decide (x < gt0 (oftL cs cs.length) t)).map fun (t : Nat) => (t : Int)) (line_r (by omega))]
    · simp [setsBy]
    · intro x hx
      rw [enumL_ints, lcFil_some (line_r (by omega))]
      simp [List.filter_map, Function.comp_def]
  · intro j x hx
    rw [enumL_at] at hx
    have hj : j < cs.length := by
      by_cases h : j < cs.length
      · exact h
      · rw [List.getElem?_eq_none (by omega)] at hx; cases hx
    have hx : x = ((j : Int), gt0 cs j) := by rw [getD_lt hj]; simpa [hj] using hx.symm
    subst hx
    have hp := h0 _ (List.getElem_mem hj)
    rw [← getD_lt hj] at hp
    have l1 := hlen (j + 1) (by omega)
    rw [oftL_s, List.length_append, List.length_replicate] at l1
    obtain ⟨m, hm⟩ : ∃ m : Nat, gt0 cs j = m := ⟨(gt0 cs j).toNat, by omega⟩
    rw [hm, Int.toNat_natCast] at l1
    rw [oftL_s, hm, Int.toNat_natCast]
    simp only
    rw [repM_one (by omega), Option.bind_some, catM_some (line_k' (by simp; omega))]
    rfl
theorem told_nf (xs : List Int) : (told xs).flag = false := by unfold told; split <;> rfl
theorem f_sums_told (xs : List Int) (h1 : 1 ≤ xs.length) (h7 : xs.length ≤ 7) (hb : ∀ x ∈ xs, big x) (h0 : gt0 xs 0 ≤ 60) : F_sums_told xs = some ⟨told xs, told_nf xs⟩ := by
  unfold F_sums_told
  have hl := cin_len xs
  have hs := cin_sum xs h1 h7
  rw [f_counts_in xs (by omega) hb, Option.bind_some]
  have ht : ∀ u : U, u.1 = told xs → some u = some ⟨told xs, told_nf xs⟩ := fun u hu => by congr 1; exact Subtype.ext hu
  have h2 : told xs = if lacks (cin xs) = [] then .tup [.str "sets", setD (setsBy (cin xs))] else .tup [.str "lack", .int (gt0 (lacks (cin xs)) 0)] := rfl
  generalize cin xs = cs at *
  rw [enumL_ints, lcFil_some (by simp; exact line_k' (by omega)), Option.bind_some]
  have e : (((List.range cs.length).map fun (k : Nat) => ((k : Int), gt0 cs k)).filter fun x => decide (x.2 < 0)).map (fun x => x.1) = lacks cs := by
    simp [lacks, List.filter_map, Function.comp_def]
  rw [e]
  by_cases hk : lacks cs = []
  · simp only [hk, decide_true, Bool.not_true, Bool.false_eq_true, if_false, f_sets_by cs (by omega) (by omega) (lacks_nil hk) (by omega), Option.map_some]
    exact ht _ (by rw [h2, if_pos hk]; rfl)
  · have hp : 0 < (lacks cs).length := List.length_pos_iff.mpr hk
    have := atI_gt0 (xs := lacks cs) (k := 0) hp
    simp only [Int.ofNat_zero, Int.cast_ofNat_Int, Int.natCast_zero] at this
    simp only [hk, decide_false, Bool.not_false, if_true, this, Option.map_some]
    exact ht _ (by rw [h2, if_neg hk]; rfl)
theorem f_sums_paper (xs : List Int) (f : Fit xs) : F_sums_paper xs = some ⟨told xs, told_nf xs⟩ := by
  obtain ⟨h2, h7, hb, h0, h30⟩ := f
  unfold F_sums_paper
  have a : atI xs 0 = some (gt0 xs 0) := atI_gt0 (k := 0) (by omega)
  rw [f_need_sums xs h2 h7 hb, Option.bind_some, a, Option.bind_some, f_need_things _ h0 h30, Option.bind_some, f_sums_told xs (by omega) h7 (fun x hx => Law.big_of (hb x hx)) (by omega)]
end Law

set_option maxHeartbeats 4000000
namespace Law
open PySem PySem.Spec PyProof.Rows L2 Tr
theorem oB_int (x : U) (h : Ty x.1) : opB (dIsi x.1 (.ty "int")) = some (match x.1 with
  | .int _ => true
  | .bl _ => true
  | _ => false) := by
  obtain ⟨d, hf⟩ := x
  cases d <;> first | rfl | (simp [Ty, D.tyN] at h)
theorem oB_bool (x : U) (h : Ty x.1) : opB (dIsi x.1 (.ty "bool")) = some (match x.1 with
  | .bl _ => true
  | _ => false) := by
  obtain ⟨d, hf⟩ := x
  cases d <;> first | rfl | (simp [Ty, D.tyN] at h)
theorem oB_tup (x : U) (h : Ty x.1) : opB (dIsi x.1 (.ty "tuple")) = some (match x.1 with
  | .tup _ => true
  | _ => false) := by
  obtain ⟨d, hf⟩ := x
  cases d <;> first | rfl | (simp [Ty, D.tyN] at h)
theorem oB_str (x : U) (h : Ty x.1) : opB (dIsi x.1 (.ty "str")) = some (match x.1 with
  | .str _ => true
  | _ => false) := by
  obtain ⟨d, hf⟩ := x
  cases d <;> first | rfl | (simp [Ty, D.tyN] at h)
theorem f_whole_2 (x : U) (h : Ty x.1) (lo hi : Int) : F_is_whole_2 x lo hi = some (inR lo hi x.1) := by
  unfold F_is_whole_2
  rw [oB_int x h, oB_bool x h]
  obtain ⟨d, hf⟩ := x
  cases d with
  | int i =>
    by_cases hh : i < lo
    · have h2 : ¬ lo ≤ i := by omega
      simp [inR, hh, h2]
    · have h2 : lo ≤ i := by omega
      simp [inR, hh, h2]
  | _ => simp [inR]
theorem f_law_whole (x : U) (h : Ty x.1) : F__law_is_whole x = some (isW x.1) := by
  unfold F__law_is_whole
  rw [oB_int x h, oB_bool x h]
  obtain ⟨d, hf⟩ := x
  cases d <;> simp [isW]
/-- items of a told tuple, with what is so of each -/
theorem itU_all {ds : List D} {P : D → Prop} (h : ∀ d ∈ ds, Ty d ∧ P d) : ∃ us : List U, itU ⟨.tup ds, rfl⟩ = some us ∧ us.map eU = ds ∧ ∀ u ∈ us, Ty u.1 ∧ P u.1 := by
  obtain ⟨us, h1, h2⟩ := itU_any (ds := ds) fun d hd => (h d hd).1.2
  refine ⟨us, h1, h2, fun u hu => h u.1 ?_⟩
  rw [← h2]
  exact List.mem_map.mpr ⟨u, hu, rfl⟩
theorem all_map {p : D → Bool} (us : List U) : (us.map fun u => p u.1).all id = (us.map eU).all p := by
  rw [List.all_map, List.all_map]; rfl
theorem f_are_sets (n : Int) (v : U) (hv : Ty2 v.1) : F_are_sets n v = some (areB n v.1) := by
  unfold F_are_sets
  rw [oB_tup v hv.1, Option.bind_some]
  obtain ⟨d, hf⟩ := v
  cases d with
  | tup ss =>
    obtain ⟨hl, hs⟩ := hv.2 ss rfl
    obtain ⟨us, h1, h2, h3⟩ := itU_all (P := Ty1) (ds := ss) fun s hs' => ⟨(hs s hs').1, hs s hs'⟩
    simp only [Bool.not_true, Bool.false_eq_true, if_false]
    rw [h1, Option.bind_some, forF_test (ok := fun u => setOk n u.1) (r := false)]
    · have e : us.all (fun u => setOk n u.1) = ss.all (setOk n) := by rw [← h2, List.all_map]; rfl
      rw [e]
      have a : areB n (D.tup ss) = ss.all (setOk n) := rfl
      rw [a]
      by_cases q : ss.all (setOk n) = true
      · simp [q]
      · rw [Bool.not_eq_true] at q
        simp [q]
    · intro u hu
      obtain ⟨t1, t2⟩ := h3 u hu
      rw [oB_tup u t1]
      obtain ⟨d, hf'⟩ := u
      cases d with
      | tup xs =>
        obtain ⟨xl, xt⟩ := t2.2 xs rfl
        obtain ⟨ws, w1, w2, w3⟩ := itU_all (P := fun _ => True) (ds := xs) fun x hx => ⟨xt x hx, trivial⟩
        have wl : ws.length = xs.length := by rw [← w2, List.length_map]
        have m1 : lcMapM ws (fun x316 => F_is_whole_2 x316 0 (n - 1)) = some (ws.map fun w => inR 0 (n - 1) w.1) := lcMapM_some _ (line_k' (by omega)) fun w hw => f_whole_2 w (w3 w hw).1 0 (n - 1)
        have a1 : (ws.map fun w => inR 0 (n - 1) w.1).all id = xs.all (inR 0 (n - 1)) := by rw [all_map, w2]
        simp only [Option.map_some, Option.bind_some, Bool.not_true, Bool.false_eq_true, if_false, w1, m1, a1]
        by_cases ha : xs.all (inR 0 (n - 1)) = true
        · obtain ⟨is, hxs, hx⟩ := inR_ints 0 (n - 1) xs ha
          subst hxs
          have so : setOk n (.tup (is.map D.int)) = risB is := by
            show ((is.map D.int).all (inR 0 (n - 1)) && _) = _
            rw [ha, Bool.true_and, ints_map]
          have c1 : dSl (.tup (is.map D.int)) (some 1) none = .ok (.tup ((is.drop 1).map .int)) := by
            have : cutD (is.map D.int) (some 1) none = (is.drop 1).map .int := by rw [List.map_drop]; exact cutD_from _ 1
            simp [dSl, this]
          have z : zipU ⟨.tup (is.map D.int), rfl⟩ ⟨.tup ((is.drop 1).map D.int), rfl⟩ = some ((is.map (uOf im_int)).zip ((is.drop 1).map (uOf im_int))) := by
            show (itU _).bind _ = _
            rw [itU_tup im_int, Option.bind_some, itU_tup im_int]; rfl
          have il : is.length ≤ 100 := by simpa using xl
          rw [ha, so, c1, opU_tup, Option.bind_some, z, Option.bind_some, List.zip_map, lcMapM_some (fun p => opB (dLt p.1.1 p.2.1) == some true)]
          · have r := ris_all is
            simp only [Bool.not_true, Bool.false_eq_true, if_false]
            rw [Option.bind_some, List.all_map, List.all_map, ← r]
            have f2 : ((id ∘ fun p : U × U => opB (dLt p.1.1 p.2.1) == some true) ∘ Prod.map (uOf im_int) (uOf im_int)) = fun p : Int × Int => decide (p.1 < p.2) := by
              funext p
              show (opB (dLt (.int p.1) (.int p.2)) == some true) = _
              rw [Tr.lt_int, opB_bl]
              by_cases q : p.1 < p.2 <;> simp [q]
            rw [f2]
            cases (is.zip (is.drop 1)).all fun p => decide (p.1 < p.2) <;> simp
          · rw [List.length_map, List.length_zip]; exact line_k' (by omega)
          · intro p hp
            obtain ⟨q, _, rfl⟩ := List.mem_map.mp hp
            show opB (dLt (.int q.1) (.int q.2)) = some (opB (dLt (.int q.1) (.int q.2)) == some true)
            rw [Tr.lt_int, opB_bl]
            by_cases h : q.1 < q.2 <;> simp [h]
        · rw [Bool.not_eq_true] at ha
          have so : setOk n (.tup xs) = false := by
            show (xs.all (inR 0 (n - 1)) && _) = _
            rw [ha]; rfl
          simp [ha, so]
      | _ => simp [setOk]
  | _ => simp [areB]
end Law

set_option maxHeartbeats 4000000
namespace Law
open PySem L2 Tr
theorem f_counts_by (n : Nat) (rs : List (List Int)) (hn : n ≤ 30) (hs : rs.length ≤ 6) : F_counts_by n ⟨setD rs, rfl⟩ = some (cby n rs) := by
  unfold F_counts_by
  have it : itU ⟨setD rs, rfl⟩ = some (rs.map (uOf (e := eTO D.int) im_to)) := itU_tup (e := eTO D.int) im_to
  rw [rng1_nat (by omega), Option.bind_some, lcMapM_some (fun t => oft rs t.toNat)]
  · have e1 : (rs.length : Int) + 1 = ((rs.length + 1 : Nat) : Int) := by omega
    have hl : opI (dLen (⟨setD rs, rfl⟩ : U).1) = some (rs.length : Int) := by
      show opI (dLen (.tup (rs.map tI))) = _
      rw [len_tup, opI_int, List.length_map]
    rw [Option.bind_some, hl, Option.bind_some, Option.bind_some, e1, rng1_nat (by omega), Option.bind_some, lcMap_some (line_r (by omega))]
    simp [cby, Function.comp_def]
  · exact line_r (by omega)
  · intro t ht
    simp only [List.mem_map, List.mem_range] at ht
    obtain ⟨t, ht, rfl⟩ := ht
    rw [it, Option.bind_some, lcFilM_some (fun u => opB (dIn false (D.int t) u.1) == some true) (fun u => u)]
    · simp only [Option.bind_some, List.map_id', Option.some.injEq, oft, Int.toNat_natCast]
      rw [List.filter_map, List.length_map]
      congr 3
      funext s
      show (opB (dIn false (.int t) (tI s)) == some true) = _
      rw [in_tup, opB_bl]
      by_cases q : (t : Int) ∈ s <;> simp [q]
    · rw [List.length_map]; exact line_k' (by omega)
    · intro u hu
      obtain ⟨s, _, rfl⟩ := List.mem_map.mp hu
      show opB (dIn false (.int t) (tI s)) = some (opB (dIn false (.int t) (tI s)) == some true)
      rw [in_tup, opB_bl]
      by_cases q : (t : Int) ∈ s <;> simp [q]
    · intro u hu _; rfl
theorem ix0 {k y : D} (hk : k.flag = false) : opU (dIx (.tup [k, y]) (.int 0)) = some ⟨k, hk⟩ := by simp [dIx, atI, ixN, opU_of hk]
theorem ix1 {k y : D} (hy : y.flag = false) : opU (dIx (.tup [k, y]) (.int 1)) = some ⟨y, hy⟩ := by simp [dIx, atI, ixN, opU_of hy]
/-- what the values near papers are like -/
def TyS (s : D) : Prop := Ty s ∧ ∀ xs, s = .tup xs → xs.length ≤ 50 ∧ ∀ x ∈ xs, Ty x
def TyY (y : D) : Prop := Ty y ∧ ∀ ss, y = .tup ss → ss.length ≤ 100 ∧ ∀ s ∈ ss, TyS s
theorem TyY.two {y : D} (h : TyY y) : Ty2 y := ⟨h.1, fun ss e => ⟨(h.2 ss e).1, fun s hs => ⟨((h.2 ss e).2 s hs).1, fun xs e2 => ⟨by have := (((h.2 ss e).2 s hs).2 xs e2).1; omega, (((h.2 ss e).2 s hs).2 xs e2).2⟩⟩⟩⟩
def NV (d : D) : Prop := Ty d ∧ ∀ ds, d = .tup ds → ds.length = 2 → ∃ k y, ds = [k, y] ∧ Ty k ∧ TyY y ∧ ∀ s, k = .str s → s = "lack" ∨ s = "sets"
def judg (xs : List Int) : D → Bool
  | .tup [.str s, y] => if s = "lack" then inR 0 (xs.length - 1) y && ltD (cin xs) y else showS xs y
  | _ => false
theorem eqB_str {x y : Str} (hx : (SeqAt.shaped (.str x)) = true) (hy : (SeqAt.shaped (.str y)) = true) : opB (dEq false (.str x) (.str y)) = some (decide (x = y)) := by rw [eq_str hx hy]; simp
theorem neB_str {x y : Str} (hx : (SeqAt.shaped (.str x)) = true) (hy : (SeqAt.shaped (.str y)) = true) : opB (dEq true (.str x) (.str y)) = some (!decide (x = y)) := by rw [eq_str hx hy]; simp
theorem f_shows (xs : List Int) (f : Fit xs) (v : U) (h : NV v.1) : F_shows_sums xs v = some (judg xs v.1) := by
  unfold F_shows_sums
  obtain ⟨t, hd⟩ := h
  rw [oB_tup v t]
  obtain ⟨d, hf⟩ := v
  obtain ⟨h2, h7, hb, h0, h30⟩ := f
  cases d with
  | tup ds =>
    simp only [Option.map_some, Option.bind_some, Bool.not_true, Bool.false_eq_true, if_false, len_tup, opI_int]
    by_cases hl : ds.length = 2
    · obtain ⟨k, y, rfl, tk, ty, hs⟩ := hd ds rfl hl
      rw [ix0 tk.2, ix1 ty.1.2]
      simp only [Option.bind_some]
      rw [oB_str ⟨k, tk.2⟩ tk]
      cases k with
      | str s =>
        have hc := f_counts_in xs (by omega) (fun x hx => Law.big_of (hb x hx))
        have j0 : atI xs 0 = some (gt0 xs 0) := atI_gt0 (k := 0) (by omega)
        rcases hs s rfl with rfl | rfl
        · have hw := f_whole_2 ⟨y, ty.1.2⟩ ty.1 0 ((xs.length : Int) - 1)
          simp only [List.length_cons, List.length_nil, Option.map_some, Option.bind_some, Bool.not_true, Bool.false_eq_true, if_false, eqB_str sh_lack sh_lack, decide_true, if_true, hw, hc]
          have j : judg xs (.tup [.str "lack", y]) = (inR 0 (xs.length - 1) y && ltD (cin xs) y) := by simp [judg]
          rw [j]
          by_cases hr : inR 0 ((xs.length : Int) - 1) y = true
          · cases y with
            | int i =>
              simp only [inR, Bool.and_eq_true, decide_eq_true_eq] at hr
              obtain ⟨k, rfl⟩ : ∃ k : Nat, i = k := ⟨i.toNat, by omega⟩
              have ix : dIx (eLO D.int (cin xs)) (.int k) = .ok (.int (gt0 (cin xs) k)) := ix_lst (by rw [cin_len]; omega)
              simp [inR, hr, ltD, ix]
            | _ => cases hr
          · rw [Bool.not_eq_true] at hr
            simp [hr]
        · have ha := f_are_sets (gt0 xs 0) ⟨y, ty.1.2⟩ ty.two
          have e0 : opB (dEq false (.str "sets") (.str "lack")) = some false := by rw [eqB_str sh_sets sh_lack]; simp [ls_ne.symm]
          have e1 : opB (dEq true (.str "sets") (.str "sets")) = some false := by rw [neB_str sh_sets sh_sets]; simp
          simp only [List.length_cons, List.length_nil, Option.map_some, Option.bind_some, Bool.not_true, Bool.false_eq_true, if_false, e0, e1, j0, ha]
          have j : judg xs (.tup [.str "sets", y]) = showS xs y := by simp [judg, ls_ne.symm]
          rw [j]
          unfold showS
          obtain ⟨n, hn⟩ : ∃ n : Nat, gt0 xs 0 = n := ⟨(gt0 xs 0).toNat, by omega⟩
          by_cases hr : areB (gt0 xs 0) y = true
          · cases y with
            | tup ss =>
              obtain ⟨rs, rfl, hrs⟩ := areB_sets (show ss.all (setOk (gt0 xs 0)) = true from hr)
              rw [hr]
              by_cases hl : rs.length = xs.length - 1
              · have hl2 : (rs.length : Int) = (xs.length : Int) - 1 := by omega
                have hcb := f_counts_by n rs (by omega) (by omega)
                have rr := rows_tI rs
                simp only [setD] at hcb rr
                have l3 : (List.map tI rs).length = xs.length - 1 := by simpa using hl
                have hl3 : ((xs.length - 1 : Nat) : Int) = (xs.length : Int) - 1 := by omega
                simp [hl2, hl3, l3, lenD, hn, hcb, hc, rr, hl]
              · have hl2 : ¬ (rs.length : Int) = (xs.length : Int) - 1 := by omega
                simp [hl2, lenD, hl]
            | _ => cases hr
          · rw [Bool.not_eq_true] at hr
            simp [hr]
      | _ => simp [judg]
    · have hl2 : ¬ (ds.length : Int) = 2 := by omega
      simp only [hl2, decide_false, Bool.not_false, if_true, Option.bind_some]
      have j : judg xs (.tup ds) = false := by
        unfold judg
        split
        · rename_i e; cases e; simp at hl
        · rfl
      rw [j]
  | _ => simp [judg]
theorem f_is_paper (xs : List Int) (f : Fit xs) (v : U) (h : NV v.1) : F_is_sums_paper xs v = some (judg xs v.1) := by
  have f' := f
  obtain ⟨h2, h7, hb, h0, h30⟩ := f
  unfold F_is_sums_paper
  have a : atI xs 0 = some (gt0 xs 0) := atI_gt0 (k := 0) (by omega)
  rw [f_need_sums xs h2 h7 hb, Option.bind_some, a, Option.bind_some, f_need_things _ h0 h30, Option.bind_some, f_shows xs f' v h]
end Law

set_option maxHeartbeats 4000000
namespace Law
open PySem L2 Tr
def CrL (N : Nat) (c : List Int) : Prop := ∃ a b n : Int, c = [a, b, n] ∧ 0 ≤ n ∧ n ≤ N
theorem CrL.mono {N M : Nat} {c : List Int} (h : CrL N c) (l : N ≤ M) : CrL M c := by
  obtain ⟨a, b, n, rfl, h1, h2⟩ := h
  exact ⟨a, b, n, rfl, h1, by omega⟩
theorem at3_0 {a b c : Int} : atI [a, b, c] 0 = some a := (rfl)
theorem at3_1 {a b c : Int} : atI [a, b, c] 1 = some b := (rfl)
theorem at3_2 {a b c : Int} : atI [a, b, c] 2 = some c := (rfl)
theorem st3_0 {a b c x : Int} : setM [a, b, c] 0 x = some [x, b, c] := (rfl)
theorem st3_2 {a b c x : Int} : setM [a, b, c] 2 x = some [a, b, x] := (rfl)
theorem f_ladle {N : Nat} {c : List Int} {t : Int} (h : CrL N c) (hN : N ≤ 100000) (h0 : 0 < t) (h1 : t < 2 ^ 100) : Ok (F__law_ladle c t) fun r => (0 ≤ r.1 ∧ r.1 < t) ∧ CrL (N + 1) r.2 := by
  obtain ⟨a, b, n, rfl, n0, n1⟩ := h
  have hl := log_lt h0 h1
  unfold F__law_ladle
  by_cases ha : 0 < a
  · rw [at3_0, Option.bind_some, Option.bind_some, decide_eq_true ha, if_pos rfl, Option.bind_some, Option.bind_some, modM_some h0, Option.bind_some, Option.bind_some, fdivM_some h0 hl, Option.bind_some, st3_0]
    exact ⟨_, rfl, ⟨Int.emod_nonneg _ (by omega), Int.emod_lt_of_pos _ h0⟩, _, _, _, rfl, n0, by omega⟩
  · have m1 : 0 ≤ (b + 86028121 * (n + 1)) % 2305843009213693951 := Int.emod_nonneg _ (by omega)
    have m2 : (b + 86028121 * (n + 1)) % 2305843009213693951 < 2305843009213693951 := Int.emod_lt_of_pos _ (by omega)
    have q1 : mulM 86028121 (n + 1) = some (86028121 * (n + 1)) := mulM_some (small_mul (by omega) (by omega))
    have q3 : mulM 271 (n + 1) = some (271 * (n + 1)) := mulM_some (small_mul (by omega) (by omega))
    have e1 : modM (b + 86028121 * (n + 1)) 2305843009213693951 = some ((b + 86028121 * (n + 1)) % 2305843009213693951) := modM_some (by omega)
    generalize (b + 86028121 * (n + 1)) % 2305843009213693951 = one at m1 m2 e1
    have q2 : mulM one one = some (one * one) := mulM_some (small_mul (by omega) (by omega))
    have e2 : modM (one * one + 271 * (n + 1)) 2305843009213693921 = some ((one * one + 271 * (n + 1)) % 2305843009213693921) := modM_some (by omega)
    have q4 : mulM ((one * one + 271 * (n + 1)) % 2305843009213693921) 5915587277 = some ((one * one + 271 * (n + 1)) % 2305843009213693921 * 5915587277) := mulM_some (small_mul (by omega) (by omega))
    have l2 : Nat.log2 65543 < 9000 := by decide
    have e3 : ∀ x, fdivM x 65543 = some (x / 65543) := fun x => fdivM_some (by omega) l2
    rw [at3_0, Option.bind_some, Option.bind_some, decide_eq_false ha, if_neg Bool.false_ne_true, at3_2, Option.bind_some, Option.bind_some, st3_2, Option.map_some, Option.bind_some]
    simp only [at3_1, at3_2, q1, q2, q3, q4, e1, e2, e3, Option.bind_some, Option.map_some, modM_some h0]
    exact ⟨_, rfl, ⟨Int.emod_nonneg _ (by omega), Int.emod_lt_of_pos _ h0⟩, _, _, _, rfl, by omega, by omega⟩
theorem p_1 : powM 10 58 = some (10 ^ 58) := by decide +kernel
theorem p_2 : powM (10 ^ 58) 5 = some ((10 ^ 58) ^ 5) := by decide +kernel
theorem p_3 : powM 10 17 = some (10 ^ 17) := by decide +kernel
theorem f_crock (ns : List Int) (spot : Nat) (hs : spot ≤ 10) : Ok (F__law_crock ns spot) (CrL 0) := by
  have a1 : (0 : Int) < (10 ^ 58) ^ 5 := by decide
  have q1 : ∀ x : Int, mulM (x % 2305843009213693907) 101 = some (x % 2305843009213693907 * 101) := fun x => by
    have m1 : 0 ≤ x % 2305843009213693907 := Int.emod_nonneg _ (by omega)
    have m2 : x % 2305843009213693907 < 2305843009213693907 := Int.emod_lt_of_pos _ (by omega)
    exact mulM_some (small_mul (by omega) (by omega))
  have q2 : mulM 1171 spot = some (1171 * spot) := mulM_some (small_mul (by omega) (by omega))
  have q3 : ∀ b : Bool, mulM 43 (if b then 1 else 0) = some (43 * if b then 1 else 0) := fun b => by cases b <;> decide +kernel
  have q5 : mulM 967 spot = some (967 * spot) := mulM_some (small_mul (by omega) (by omega))
  have e1 : ∀ x : Int, modM x ((10 ^ 58) ^ 5) = some (x % (10 ^ 58) ^ 5) := fun x => modM_some a1
  have e2 : ∀ x : Int, modM x 2305843009213693907 = some (x % 2305843009213693907) := fun x => modM_some (by omega)
  unfold F__law_crock
  refine Ok.bind (P := fun _ => True) ?_ fun cell _ => ?_
  · by_cases h : (spot : Int) < ns.length
    · have hx : atI ns (spot : Int) = some ns[spot] := by rw [atI_n]; exact List.getElem?_eq_getElem (by omega)
      rw [decide_eq_true h, if_pos rfl, hx]
      exact ⟨_, rfl, trivial⟩
    · rw [decide_eq_false h, if_neg Bool.false_ne_true, q5]
      exact ⟨_, rfl, trivial⟩
  · simp only [p_1, p_2, p_3, Option.bind_some, Option.map_some, e1, e2, q1, q2, q3]
    exact ⟨_, rfl, _, _, 0, rfl, by omega, by omega⟩
end Law

set_option maxHeartbeats 4000000
namespace Law
open PySem L2 Tr
theorem at_rng {n j : Nat} {x : Int} (h : ((List.range n).map fun (k : Nat) => (k : Int))[j]? = some x) : j < n ∧ x = j := by
  have hj : j < n := by
    obtain ⟨h, _⟩ := List.getElem?_eq_some_iff.mp h
    simpa using h
  refine ⟨hj, ?_⟩
  simpa [hj] using h.symm
theorem f_sets {N : Nat} {c : List Int} (h : CrL N c) (hN : N ≤ 50000) (n many : Nat) (hn : n ≤ 30) (hm : 1 ≤ many ∧ many ≤ 6) : Ok (F__law_sets c n many) fun r => CrL (N + 300) r.2 ∧ 1 ≤ r.1.length ∧ r.1.length ≤ many ∧ Goods n r.1 := by
  unfold F__law_sets
  obtain ⟨⟨v, c1⟩, e1, ⟨v0, v1⟩, h1⟩ := f_ladle (t := (many : Int)) h (by omega) (by omega) (by omega)
  dsimp only at v0 v1 h1
  obtain ⟨u, rfl⟩ : ∃ u : Nat, v = u := ⟨v.toNat, by omega⟩
  rw [Option.bind_some, e1, Option.bind_some, Option.map_some, Option.bind_some]
  dsimp only
  rw [show (1 : Int) + u = ((1 + u : Nat) : Int) by omega, rng1_nat (by omega), Option.map_some, Option.bind_some]
  dsimp only
  refine Ok.bind (Ok.foldO (fun i s => CrL (N + 1 + i * 32) s.1 ∧ s.2.length = i ∧ Goods n s.2) ⟨h1.mono (by omega), rfl, by intro s hs; cases hs⟩ ?_) ?_
  · rintro j x ⟨c2, ss⟩ hx ⟨g1, g2, g3⟩
    obtain ⟨hj, rfl⟩ := at_rng hx
    dsimp only at g1 g2 g3 ⊢
    obtain ⟨⟨w, c3⟩, e2, ⟨w0, w1⟩, h2⟩ := f_ladle (t := 3) g1 (by omega) (by omega) (by omega)
    dsimp only at w0 w1 h2
    rw [e2, Option.bind_some, Option.map_some, Option.bind_some]
    dsimp only
    rw [rng1_nat (by omega), Option.bind_some]
    have hin := Ok.lcS (f := fun (s648 : ((List Int))) (x644 : Int) => (((((F__law_ladle s648 (2 + w))).bind fun (r649 : (Int × (List Int))) => ((some (decide (r649.1 = (0))))).map fun (v650 : Bool) => (v650, r649.2))).bind fun (q651 : (Bool × (List Int))) => if q651.1 = true then ((some x644)).map fun (r652 : Int) => (some r652, (q651.2)) else some (none, (q651.2))))
      (fun j ys s => CrL (N + 1 + u * 0 + ss.length * 32 + 1 + j) s ∧ (∀ y ∈ ys, 0 ≤ y ∧ y < (j : Int)) ∧ ys.Pairwise (· < ·) ∧ ys.length ≤ j) (l := (List.range n).map fun (k : Nat) => (k : Int)) (s := c3) (line_r (by omega)) ⟨h2.mono (by omega), by simp, .nil, by simp⟩ (by
        intro j x ys s hx hp
        obtain ⟨hj, rfl⟩ := at_rng hx
        obtain ⟨p1, p2, p3, p4⟩ := hp
        obtain ⟨⟨z, c4⟩, e3, ⟨z0, z1⟩, h3⟩ := f_ladle (t := 2 + w) p1 (by omega) (by omega) (by omega)
        dsimp only at z0 z1 h3 ⊢
        rw [e3, Option.bind_some, Option.map_some, Option.bind_some]
        dsimp only
        by_cases hz : z = 0
        · rw [decide_eq_true hz, if_pos rfl, Option.map_some]
          refine ⟨_, rfl, h3.mono (by omega), ?_, ?_, ?_⟩
          · intro y hy
            rcases List.mem_append.mp hy with hy | hy
            · have := p2 y hy; omega
            · simp at hy; subst hy; omega
          · rw [List.pairwise_append]
            refine ⟨p3, by simp, fun a ha b hb => ?_⟩
            simp at hb; subst hb
            exact (p2 a ha).2
          · simp; omega
        · rw [decide_eq_false hz, if_neg Bool.false_ne_true]
          refine ⟨_, rfl, h3.mono (by omega), fun y hy => ?_, by simpa using p3, by simp; omega⟩
          have := p2 y (by simpa using hy)
          omega)
    obtain ⟨⟨ys, c5⟩, e4, h4, h5, h6, h7⟩ := hin
    dsimp only at h4 h5 h6 h7
    rw [List.length_map, List.length_range] at h4 h5 h7
    rw [e4, Option.bind_some, Option.map_some, Option.bind_some, appM_some (Nat.lt_of_lt_of_le (show ss.length < 100 by omega) (by decide))]
    refine ⟨_, rfl, h4.mono (by omega), by simp [g2], fun t ht => ?_⟩
    rcases List.mem_append.mp ht with ht | ht
    · exact g3 t ht
    · simp at ht; subst ht; exact ⟨by omega, h5, h6⟩
  · rintro ⟨c2, ss⟩ ⟨g1, g2, g3⟩
    dsimp only at g1 g2 g3
    rw [List.length_map, List.length_range] at g1 g2
    exact ⟨_, rfl, g1.mono (by omega), by dsimp only; omega, by dsimp only; omega, g3⟩
theorem f_lots_all : ∀ m : Fin 6, F__law_lots m.val = some (lots m.val) := by decide +kernel
theorem f_lots (m : Nat) (hm : m ≤ 5) : F__law_lots m = some (lots m) := f_lots_all ⟨m, by omega⟩
end Law

set_option maxHeartbeats 4000000
namespace Law
open PySem L2 Tr
theorem meetF_s (n : Nat) (ss : List (List Int)) (ls : List (List Int)) (j : Nat) (h : j < ls.length) : meetF n ss (ls.take (j + 1)) = addAt (meetF n ss (ls.take j)) ls[j].length (nb n ss ls[j]) := by
  rw [List.take_succ_eq_append_getElem h]
  unfold meetF; rw [List.foldl_append]; rfl
theorem sub_nil (n : Nat) (ss : List (List Int)) (lot : List Int) (t : Nat) : decide ((lot.filter fun a => !decide ((t : Int) ∈ ss.getD a.toNat [])).map (fun _ => (1 : Int)) = []) = sub n ss lot t := by
  unfold sub
  rw [Bool.eq_iff_iff]
  simp [List.filter_eq_nil_iff]
/-- both walks of meets do the same -/
theorem meets_of (n : Nat) (ss : List (List Int)) (hn : n ≤ 30) (hs : ss.length ≤ 5) (g : Int → Int → Option Bool) (hg : ∀ t a : Int, 0 ≤ a → a < ss.length → g t a = some (!decide (t ∈ ss.getD a.toNat []))) (f : List Int → List Int → Option (List Int))
    (hf : ∀ s x, f s x = ((((rng1 n).bind fun (l991 : List Int) => (lcFilM l991 (fun (x1001 : Int) => (((lcFilM x (fun (x1005 : Int) => g x1001 x1005) fun (x1005 : Int) => (some (1)))).bind fun (r1008 : (List Int)) => (some (decide (r1008 = ([] : List Int)))))) fun (x1001 : Int) => (some x1001)))).bind fun (r1010 : (List Int)) => ((((((atI s (x.length : Int))).bind fun (r1011 : Int) => (some (r1011 + (r1010.length : Int))))).bind fun (r1012 : Int) => (setM s (x.length : Int) r1012).map fun (l1014 : (List Int)) => (l1014, r1012))).map fun (r1013 : ((List Int) × Int)) => (r1013.1))) :
    foldO f (lots ss.length) (List.replicate (ss.length + 1) 0) = some (sin (cby n ss)) := by
  have hlin := lots_in ⟨ss.length, by omega⟩
  have hl := inB_ok hlin.1
  rw [foldO_to (fun i => meetF n ss ((lots ss.length).take i)) (by simp [meetF])]
  · rw [List.take_length, meet_sin n ss hs]
  · intro j x hx
    obtain ⟨hj, rfl⟩ := List.getElem?_eq_some_iff.mp hx
    try dsimp only
    rw [meetF_s n ss _ j hj, hf]
    obtain ⟨g1, g2⟩ := hl _ (List.getElem_mem hj)
    have g3 := List.all_eq_true.mp hlin.2.2 _ (List.getElem_mem hj)
    simp only [decide_eq_true_eq] at g3
    have hFl := meetF_len n ss ((lots ss.length).take j)
    generalize (lots ss.length)[j] = lot at *
    generalize meetF n ss ((lots ss.length).take j) = F at *
    rw [rng1_nat (by omega), Option.bind_some, lcFilM_some (fun t => sub n ss lot t.toNat) (fun t => t) (line_r (by omega))]
    · have e : (List.map (fun t => t) (((List.range n).map fun (k : Nat) => (k : Int)).filter fun t => sub n ss lot t.toNat)).length = ((List.range n).filter (sub n ss lot)).length := by
        rw [List.length_map, List.filter_map, List.length_map]; rfl
      rw [Option.bind_some, atI_gt0 (by omega), Option.bind_some, Option.bind_some, setM_nat (by omega), Option.map_some, Option.map_some, e]
      rfl
    · intro t ht
      simp only [List.mem_map, List.mem_range] at ht
      obtain ⟨t, ht, rfl⟩ := ht
      rw [lcFilM_some (fun a => !decide ((t : Int) ∈ ss.getD a.toNat [])) (fun _ => (1 : Int)) (line_k' (by omega)) (fun a ha => hg t a (g2 a ha).1 (g2 a ha).2) (fun _ _ _ => rfl), Option.bind_some, sub_nil n]
      rfl
    · intro t ht _; rfl
theorem f_meets (n : Nat) (ss : List (List Int)) (hn : n ≤ 30) (hs : ss.length ≤ 5) : F__law_meets n ss = some (sin (cby n ss)) := by
  unfold F__law_meets
  rw [show (ss.length : Int) + 1 = ((ss.length + 1 : Nat) : Int) by omega, repM_one (by omega), Option.bind_some, f_lots ss.length hs, Option.bind_some, meets_of n ss hn hs (fun t a => (atI ss a).bind fun r => some (!decide (t ∈ r))) ?_ _ (fun _ _ => rfl)]
  · rfl
  · intro t a h0 h1
    obtain ⟨k, rfl⟩ : ∃ k : Nat, a = k := ⟨a.toNat, by omega⟩
    have hk : k < ss.length := by omega
    try dsimp only
    rw [atI_n, List.getElem?_eq_getElem hk, Option.bind_some]
    simp [hk]
theorem f_meets_1 (n : Nat) (ss : List (List Int)) (hn : n ≤ 30) (hs : ss.length ≤ 5) : F__law_meets_1 n ⟨setD ss, rfl⟩ = some (sin (cby n ss)) := by
  unfold F__law_meets_1
  have hl : opI (dLen (⟨setD ss, rfl⟩ : U).1) = some (ss.length : Int) := by
    show opI (dLen (.tup (ss.map tI))) = _
    rw [len_tup, opI_int, List.length_map]
  rw [hl, Option.bind_some, Option.bind_some, show (ss.length : Int) + 1 = ((ss.length + 1 : Nat) : Int) by omega, repM_one (by omega), Option.bind_some, Option.bind_some, f_lots ss.length hs, Option.bind_some, meets_of n ss hn hs (fun t a => (opU (dIx (setD ss) (.int a))).bind fun r => opB (dIn true (.int t) r.1)) ?_ _ (fun _ _ => rfl)]
  · rfl
  · intro t a h0 h1
    try dsimp only
    rw [ix_sets h0 h1, opU_tup, Option.bind_some]
    show opB (dIn true (.int t) (tI _)) = _
    rw [in_tup, opB_bl]; rfl
theorem f_counts (xs : List Int) (h2 : 1 ≤ xs.length) (h7 : xs.length ≤ 7) (hb : ∀ x ∈ xs, -(10 ^ 12) ≤ x ∧ x ≤ 10 ^ 12) : F__law_counts xs = some (cin xs) := by
  unfold F__law_counts
  have r1 := (rngC_all ⟨xs.length, by omega⟩).1
  have r2 := (rngC_all ⟨xs.length, by omega⟩).2
  dsimp only at r1 r2
  have e3 : rng3 ((xs.length : Int) - 1) (-1) (-1) = some ((List.range xs.length).map fun (k : Nat) => (xs.length : Int) - 1 - k) := by
    unfold rng3
    rw [if_pos r1, r2]
    congr 1
    exact List.map_congr_left fun k _ => by omega
  rw [repM_one (by omega), Option.bind_some, e3, Option.bind_some, foldO_to (fun i => part xs i) (by rw [part_0])]
  · rw [List.length_map, List.length_range, part_n]; rfl
  · intro j x hx
    have hj : j < xs.length := by
      obtain ⟨h, _⟩ := List.getElem?_eq_some_iff.mp hx
      simpa using h
    have hx : x = (xs.length : Int) - 1 - j := by simpa [hj] using hx.symm
    obtain ⟨r, hr⟩ : ∃ r : Nat, r = xs.length - 1 - j := ⟨_, rfl⟩
    have hr1 : r < xs.length := by omega
    have e0 : (xs.length : Int) - 1 - j = r := by omega
    rw [e0] at hx
    subst hx
    have hP := part_len xs j
    have hrP : r < (part xs j).length := by omega
    have hstep := part_s xs j hj
    rw [← hr] at hstep
    have hval : gt0 xs r - ((List.range (xs.length - 1 - r)).map fun (k : Nat) => ch (r + 1 + k) r * gt0 (part xs j) (r + 1 + k)).sum = gt0 (cin xs) r := by
      have g := sin_get (cin xs) r (by rw [cin_len]; exact hr1)
      rw [sin_cin xs h7, cin_len] at g
      rw [g]
      have : ((List.range (xs.length - 1 - r)).map fun (k : Nat) => ch (r + 1 + k) r * gt0 (part xs j) (r + 1 + k)) = ((List.range (xs.length - 1 - r)).map fun (k : Nat) => ch (r + 1 + k) r * gt0 (cin xs) (r + 1 + k)) := by
        apply List.map_congr_left
        intro k hk
        rw [List.mem_range] at hk
        rw [part_get xs j _ (by omega), if_pos (by omega)]
      rw [this]
      omega
    try dsimp only
    rw [show (r : Int) + 1 = ((r + 1 : Nat) : Int) by omega, show (xs.length : Int) - 1 + 1 = (xs.length : Int) by omega, rng2_nat (by omega) (by omega), Option.bind_some, lcMapM_some (fun y => ch y.toNat r * gt0 (part xs j) y.toNat) (line_r (by omega))]
    · rw [Option.bind_some, Option.bind_some, atI_gt0 hr1, Option.bind_some, Option.bind_some, setM_nat hrP, Option.map_some, Option.map_some, ← hstep, ← hval]
      congr 3
      rw [show xs.length - (r + 1) = xs.length - 1 - r by omega, List.map_map]
      rfl
    · intro y hy
      simp only [List.mem_map, List.mem_range] at hy
      obtain ⟨k, hk, rfl⟩ := hy
      have hk : r + 1 + k < xs.length := by omega
      have hbig : gt0 (part xs j) (r + 1 + k) = gt0 (cin xs) (r + 1 + k) := by rw [part_get xs j _ hk, if_pos (by omega)]
      have hc := gt0_le (B := 8 * (100 * 10 ^ 12)) (by omega) (cin_le (xs := xs) (B := 10 ^ 12) (by omega) (by omega) hb) (r + 1 + k)
      have q := mul_sc (sg_abs k) (ch_lt (n := r + 1 + k) (k := r) (by omega) (by omega)) (x := gt0 (part xs j) (r + 1 + k)) (big_of (by rw [hbig]; omega))
      rw [f_lout (n := r + 1 + k) (k := r) (by omega) (by omega), Option.bind_some, atI_gt0 (by omega), Option.map_some, Option.bind_some]
      exact mulM_some q.2.2
end Law

set_option maxHeartbeats 4000000
namespace Law
open PySem L2 Tr
theorem isW_ints : ∀ ds : List D, ds.all isW = true → ∃ xs : List Int, ds = xs.map .int
  | [], _ => ⟨[], rfl⟩
  | d :: ds, h => by
    rw [List.all_cons, Bool.and_eq_true] at h
    obtain ⟨xs, rfl⟩ := isW_ints ds h.2
    cases d with
    | int i => exact ⟨i :: xs, rfl⟩
    | _ => exact absurd h.1 (by simp [isW])
theorem pair_ris : ∀ xs : List Int, xs.Pairwise (· < ·) → risB xs = true
  | [], _ => rfl
  | [x], _ => rfl
  | x :: y :: l, h => by
    rw [List.pairwise_cons] at h
    simp only [risB, Bool.and_eq_true, decide_eq_true_eq]
    exact ⟨h.1 y (by simp), pair_ris (y :: l) h.2⟩
theorem ris_sort (xs : List Int) : risB xs = decide (xs = usort xs) := by
  rw [Bool.eq_iff_iff, decide_eq_true_eq]
  constructor
  · intro h; exact lt_uniq (ris_pair xs h) (usort_srt xs) fun k => (usort_mem k xs).symm
  · intro h; rw [h]; exact pair_ris _ (usort_srt xs)
theorem fil_nil {α : Type} (p : α → Bool) (l : List α) : decide ((l.filter fun x => !p x).map (fun _ => (1 : Int)) = []) = l.all p := by
  rw [Bool.eq_iff_iff]
  simp [List.filter_eq_nil_iff]
theorem listU_ints (is : List Int) : listU (.tup (is.map .int)) = some (is.map (uOf im_int)) := by
  unfold listU
  show usR (.ok (.lst true (is.map .int))) = _
  unfold usR
  have hf : ∀ d ∈ is.map D.int, d.flag = false := fun d hd => by
    obtain ⟨x, _, rfl⟩ := List.mem_map.mp hd; rfl
  simp only
  rw [dif_pos hf]
  congr 1
  apply List.ext_getElem
  · simp
  · intro i h1 h2; apply Subtype.ext; simp [uOf]
theorem sortU_ints (is : List Int) (h : is.length < 60) : sortU (.tup (is.map .int)) = some (usort is) := by
  unfold sortU
  have : dSortSet (.tup (is.map .int)) = .ok (.lst true ((usort is).map .int)) := by simp [dSortSet, dInts_map, h]
  rw [this]
  show dInts? ((usort is).map .int) = _
  exact dInts_map _
theorem inR_fun (n : Int) : (inR 0 (n - 1) ∘ D.int) = fun i : Int => decide (0 ≤ i) && decide (i < n) := by
  funext i
  show (decide (0 ≤ i) && decide (i ≤ n - 1)) = _
  rw [show decide (i ≤ n - 1) = decide (i < n) by rw [Bool.eq_iff_iff, decide_eq_true_eq, decide_eq_true_eq]; exact Int.le_sub_one_iff]
def kindOf : D → Str
  | .tup [.str s, _] => s
  | _ => ""
def lawS (xs : List Int) (d : D) : Str := if judg xs d = true then kindOf d else ""
theorem f_law_are (xs : List Int) (f : Fit xs) (h5 : xs.length ≤ 5) (hB : ∀ x ∈ xs, -(10 ^ 12) ≤ x ∧ x ≤ 10 ^ 12) (v : U) (h : NV v.1) : F__law_are_sets xs v = some (lawS xs v.1) := by
  unfold F__law_are_sets
  obtain ⟨t, hd⟩ := h
  rw [oB_tup v t]
  obtain ⟨d, hf⟩ := v
  obtain ⟨h2, h7, hb, h0, h30⟩ := f
  cases d with
  | tup ds =>
    simp only [Option.map_some, Option.bind_some, Bool.not_true, Bool.false_eq_true, if_false, len_tup, opI_int]
    by_cases hl : ds.length = 2
    · obtain ⟨k, y, rfl, tk, ty, hs⟩ := hd ds rfl hl
      rw [ix0 tk.2, ix1 ty.1.2]
      simp only [Option.bind_some]
      rw [oB_str ⟨k, tk.2⟩ tk]
      cases k with
      | str s =>
        have hc := f_counts xs (by omega) h7 hB
        have j0 : atI xs 0 = some (gt0 xs 0) := atI_gt0 (k := 0) (by omega)
        rcases hs s rfl with rfl | rfl
        · have hw := f_law_whole ⟨y, ty.1.2⟩ ty.1
          simp only [List.length_cons, List.length_nil, Option.map_some, Option.bind_some, Bool.not_true, Bool.false_eq_true, if_false, eqB_str sh_lack sh_lack, decide_true, if_true, hw, hc]
          have j : lawS xs (.tup [.str "lack", y]) = if (inR 0 (xs.length - 1) y && ltD (cin xs) y) = true then ("lack" : Str) else ("" : Str) := by simp [lawS, judg, kindOf]
          rw [j]
          cases y with
          | int i =>
            by_cases hr : 0 ≤ i ∧ i < xs.length
            · obtain ⟨k, rfl⟩ : ∃ k : Nat, i = k := ⟨i.toNat, by omega⟩
              have ix : dIx (eTO D.int (cin xs)) (.int k) = .ok (.int (gt0 (cin xs) k)) := ix_tup (by rw [cin_len]; omega)
              have r1 : (k : Int) ≤ xs.length - 1 := by omega
              have r2 : (k : Int) < xs.length := by omega
              by_cases hq : gt0 (cin xs) k < 0 <;> simp [isW, inR, ltD, ix, r1, r2, hq]
            · by_cases hi : 0 ≤ i
              · have r2 : ¬ i < xs.length := by omega
                have r1 : ¬ i ≤ (xs.length : Int) - 1 := by omega
                simp [isW, inR, hi, r1, r2]
              · simp [isW, inR, hi]
          | _ => simp [isW, inR]
        · have e0 : opB (dEq false (.str "sets") (.str "lack")) = some false := by rw [eqB_str sh_sets sh_lack]; simp [ls_ne.symm]
          have e1 : opB (dEq true (.str "sets") (.str "sets")) = some false := by rw [neB_str sh_sets sh_sets]; simp
          simp only [List.length_cons, List.length_nil, Option.map_some, Option.bind_some, Bool.not_true, Bool.false_eq_true, if_false, e0, e1, j0]
          have j : lawS xs (.tup [.str "sets", y]) = if showS xs y = true then ("sets" : Str) else ("" : Str) := by simp [lawS, judg, kindOf, ls_ne.symm]
          rw [j]
          unfold showS
          obtain ⟨n, hn⟩ : ∃ n : Nat, gt0 xs 0 = n := ⟨(gt0 xs 0).toNat, by omega⟩
          rw [oB_tup ⟨y, ty.1.2⟩ ty.1]
          cases y with
          | tup ss =>
            obtain ⟨sl, st⟩ := ty.2 ss rfl
            simp only [Option.map_some, Option.bind_some, Bool.not_true, Bool.false_eq_true, if_false, len_tup, opI_int]
            by_cases hl : ss.length = xs.length - 1
            · have hl2 : (ss.length : Int) = (xs.length : Int) - 1 := by omega
              obtain ⟨us, u1, u2, u3⟩ := itU_all (P := TyS) (ds := ss) fun s hs => ⟨(st s hs).1, st s hs⟩
              simp only [hl2, decide_true, Bool.not_true, Bool.false_eq_true, if_false, u1, Option.bind_some]
              rw [forF_test (ok := fun u => setOk (gt0 xs 0) u.1) (r := ("" : Str))]
              · have e : us.all (fun u => setOk (gt0 xs 0) u.1) = ss.all (setOk (gt0 xs 0)) := by rw [← u2, List.all_map]; rfl
                rw [e]
                have a : areB (gt0 xs 0) (.tup ss) = ss.all (setOk (gt0 xs 0)) := rfl
                rw [a]
                by_cases q : ss.all (setOk (gt0 xs 0)) = true
                · obtain ⟨rs, rfl, hrs⟩ := areB_sets q
                  have l4 : rs.length = xs.length - 1 := by simpa using hl
                  have m := f_meets_1 n rs (by omega) (by omega)
                  have rr := rows_tI rs
                  have iff1 : decide (sin (cby n rs) = xs) = decide (cby n rs = cin xs) := by
                    rw [Bool.eq_iff_iff, decide_eq_true_eq, decide_eq_true_eq]
                    constructor
                    · intro h; rw [← h, cin_sin _ (by rw [cby_len]; omega)]
                    · intro h; rw [h, sin_cin xs h7]
                  rw [q, if_pos rfl, orR_inl, hn, m, Option.bind_some, Option.bind_some, iff1]
                  simp only [setD] at rr
                  simp only [lenD, List.length_map, l4, decide_true, Bool.true_and, hn, Int.toNat_natCast, rr]
                  by_cases z : cby n rs = cin xs <;> simp [z]
                · rw [Bool.not_eq_true] at q
                  rw [q, if_neg Bool.false_ne_true, orR_inr]
                  simp
              · intro u hu
                obtain ⟨t1, t2⟩ := u3 u hu
                rw [oB_tup u t1]
                obtain ⟨d, hf'⟩ := u
                cases d with
                | tup zs =>
                  obtain ⟨xl, xt⟩ := t2.2 zs rfl
                  obtain ⟨ws, w1, w2, w3⟩ := itU_all (P := fun _ => True) (ds := zs) fun x hx => ⟨xt x hx, trivial⟩
                  have wl : ws.length = zs.length := by rw [← w2, List.length_map]
                  have m1 : lcFilM ws (fun (x1289 : U) => (((F__law_is_whole x1289)).map fun (r1290 : Bool) => (!r1290))) (fun (x1289 : U) => some (1 : Int)) = some ((ws.filter fun w => !isW w.1).map fun _ => (1 : Int)) := lcFilM_some _ _ (line_k' (by omega)) (fun w hw => by rw [f_law_whole w (w3 w hw).1]; rfl) fun _ _ _ => rfl
                  have a1 := fil_nil (fun w : U => isW w.1) ws
                  have a2 : (ws.all fun w => isW w.1) = zs.all isW := by rw [← w2, List.all_map]; rfl
                  rw [a2] at a1
                  simp only [Option.map_some, Option.bind_some, Bool.not_true, Bool.false_eq_true, if_false, w1, m1, a1]
                  by_cases ha : zs.all isW = true
                  · obtain ⟨is, rfl⟩ := isW_ints zs ha
                    have il : is.length ≤ 50 := by simpa using xl
                    have so : setOk (gt0 xs 0) (.tup (is.map D.int)) = ((is.all fun i => decide (0 ≤ i) && decide (i < gt0 xs 0)) && risB is) := by
                      show ((is.map D.int).all (inR 0 (gt0 xs 0 - 1)) && _) = _
                      rw [ints_map, List.all_map, inR_fun]
                    have se : opB (dEq true (eLO eU (is.map (uOf im_int))) (eLO D.int (usort is))) = some (!decide (is = usort is)) := by
                      have : eLO eU (is.map (uOf im_int)) = .lst true (is.map .int) := by
                        show D.lst true ((is.map (uOf im_int)).map eU) = _
                        rw [List.map_map]; rfl
                      rw [this]
                      show opB (dEq true (.lst true (is.map .int)) (.lst true ((usort is).map .int))) = _
                      rw [eq_lsts]; rfl
                    have m2 : lcFilM ws (fun (x1302 : U) => (((((opB (dLe (D.int (0)) x1302.1))).bind fun b => if b = true then (opB (dLt x1302.1 (D.int (gt0 xs 0)))) else some false)).map fun (r1304 : Bool) => (!r1304))) (fun (x1302 : U) => some (1 : Int)) = some ((ws.filter fun w => !inR 0 (gt0 xs 0 - 1) w.1).map fun _ => (1 : Int)) := lcFilM_some _ _ (line_k' (by omega)) (fun w hw => by
                      have hm : w.1 ∈ is.map D.int := by rw [← w2]; exact List.mem_map.mpr ⟨w, hw, rfl⟩
                      obtain ⟨i, _, hi⟩ := List.mem_map.mp hm
                      rw [← hi, Tr.le_int, opB_bl, Option.bind_some, Tr.lt_int, opB_bl]
                      by_cases c1 : 0 ≤ i
                      · by_cases c2 : i < gt0 xs 0
                        · have c3 : i ≤ gt0 xs 0 - 1 := by omega
                          simp [inR, c1, c2, c3]
                        · have c3 : ¬ i ≤ gt0 xs 0 - 1 := by omega
                          simp [inR, c1, c2, c3]
                      · simp [inR, c1]) fun _ _ _ => rfl
                    have b1 := fil_nil (fun w : U => inR 0 (gt0 xs 0 - 1) w.1) ws
                    have b2 : (ws.all fun w => inR 0 (gt0 xs 0 - 1) w.1) = is.all fun i => decide (0 ≤ i) && decide (i < gt0 xs 0) := by
                      have : (ws.all fun w => inR 0 (gt0 xs 0 - 1) w.1) = (ws.map eU).all (inR 0 (gt0 xs 0 - 1)) := by rw [List.all_map]; rfl
                      rw [this, w2, List.all_map, inR_fun]
                    rw [b2] at b1
                    simp only [ha, Bool.not_true, Bool.false_eq_true, if_false, listU_ints, sortU_ints is (by omega), Option.map_some, Option.bind_some, se, m2, b1, so, ris_sort is]
                    by_cases c1 : is = usort is
                    · rw [decide_eq_true c1]
                      cases (is.all fun i => decide (0 ≤ i) && decide (i < gt0 xs 0)) <;> simp
                    · rw [decide_eq_false c1]
                      simp
                  · rw [Bool.not_eq_true] at ha
                    have so : setOk (gt0 xs 0) (.tup zs) = false := by
                      show (zs.all (inR 0 (gt0 xs 0 - 1)) && _) = _
                      have : zs.all (inR 0 (gt0 xs 0 - 1)) = false := by
                        rw [List.all_eq_false] at ha ⊢
                        obtain ⟨x, hx, hw⟩ := ha
                        refine ⟨x, hx, ?_⟩
                        cases x <;> simp_all [isW, inR]
                      rw [this]; rfl
                    simp [ha, so]
                | _ => simp [setOk]
            · have hl2 : ¬ (ss.length : Int) = (xs.length : Int) - 1 := by omega
              simp [hl2, lenD, hl]
          | _ => simp [areB]
      | _ => simp [lawS, judg]
    · have hl2 : ¬ (ds.length : Int) = 2 := by omega
      simp only [hl2, decide_false, Bool.not_false, if_true, Option.bind_some]
      have j : judg xs (.tup ds) = false := by
        unfold judg
        split
        · rename_i e; cases e; simp at hl
        · rfl
      simp [lawS, j]
  | _ => simp [lawS, judg]
end Law

set_option maxHeartbeats 4000000
namespace Law
open PySem L2 Tr
def AN (l : List U) : Prop := ∀ v ∈ l, NV v.1
theorem an_n : AN [] := fun v h => by cases h
theorem an_c {v : U} {l : List U} (h : NV v.1) (t : AN l) : AN (v :: l) := fun w hw => by
  rcases List.mem_cons.mp hw with rfl | hw
  · exact h
  · exact t w hw
theorem an_a {l m : List U} (h : AN l) (t : AN m) : AN (l ++ m) := fun w hw => by
  rcases List.mem_append.mp hw with hw | hw
  · exact h w hw
  · exact t w hw
theorem nv_f {d : D} (h : Ty d) (hn : ∀ ds, d ≠ .tup ds) : NV d := ⟨h, fun ds e => absurd e (hn ds)⟩
theorem nv_l {ds : List D} (h : ds.length ≠ 2) : NV (.tup ds) := ⟨⟨rfl, rfl⟩, fun es e hl => by cases e; exact absurd hl h⟩
theorem nv_p {k y : D} (hk : Ty k) (hy : TyY y) (hs : ∀ s, k = .str s → s = "lack" ∨ s = "sets") : NV (.tup [k, y]) := ⟨⟨rfl, rfl⟩, fun es e _ => by cases e; exact ⟨k, y, rfl, hk, hy, hs⟩⟩
theorem nv_lack {y : D} (hy : TyY y) : NV (.tup [.str "lack", y]) := nv_p ⟨rfl, rfl⟩ hy fun s e => by cases e; exact .inl rfl
theorem nv_sets {y : D} (hy : TyY y) : NV (.tup [.str "sets", y]) := nv_p ⟨rfl, rfl⟩ hy fun s e => by cases e; exact .inr rfl
theorem yy_f {d : D} (h : Ty d) (hn : ∀ ds, d ≠ .tup ds) : TyY d := ⟨h, fun ds e => absurd e (hn ds)⟩
theorem ys_f {d : D} (h : Ty d) (hn : ∀ ds, d ≠ .tup ds) : TyS d := ⟨h, fun ds e => absurd e (hn ds)⟩
theorem yy_t {ss : List D} (hl : ss.length ≤ 100) (h : ∀ s ∈ ss, TyS s) : TyY (.tup ss) := ⟨⟨rfl, rfl⟩, fun es e => by cases e; exact ⟨hl, h⟩⟩
theorem ys_t {xs : List D} (hl : xs.length ≤ 50) (h : ∀ s ∈ xs, Ty s) : TyS (.tup xs) := ⟨⟨rfl, rfl⟩, fun es e => by cases e; exact ⟨hl, h⟩⟩
theorem ty_ints {is : List Int} : ∀ d ∈ is.map D.int, Ty d := fun d hd => by
  obtain ⟨i, _, rfl⟩ := List.mem_map.mp hd; exact ⟨rfl, rfl⟩
theorem ys_i {is : List Int} (hl : is.length ≤ 50) : TyS (.tup (is.map .int)) := ys_t (by simpa using hl) ty_ints
theorem yy_r {rs : List (List Int)} (hl : rs.length ≤ 100) (h : ∀ r ∈ rs, r.length ≤ 50) : TyY (.tup (rs.map tI)) := yy_t (by simpa using hl) fun s hs => by
  obtain ⟨r, hr, rfl⟩ := List.mem_map.mp hs; exact ys_i (h r hr)
theorem cutD_mem {α : Type} {l : List α} {lo hi : Option Int} : ∀ x ∈ cutD l lo hi, x ∈ l := fun x hx => List.mem_of_mem_drop (List.mem_of_mem_take hx)
theorem cutD_len {α : Type} {l : List α} {lo hi : Option Int} : (cutD l lo hi).length ≤ l.length := by
  unfold cutD
  rw [List.length_take, List.length_drop]
  omega
theorem u_sl {ds : List D} {lo hi : Option Int} : opU (dSl (.tup ds) lo hi) = some ⟨.tup (cutD ds lo hi), rfl⟩ := (rfl)
theorem u_rev {ds : List D} : opU (dRev (.tup ds)) = some ⟨.tup ds.reverse, rfl⟩ := (rfl)
theorem u_add {a b : List D} (h : a.length + b.length ≤ 1000) : opU (dAdd (.tup a) (.tup b)) = some ⟨.tup (a ++ b), rfl⟩ := by
  have : dAdd (.tup a) (.tup b) = .ok (.tup (a ++ b)) := by
    show (if _ then _ else _) = _
    rw [if_pos (line_k' (by omega))]
  rw [this]; rfl
theorem listU_any {ds : List D} (h : ∀ d ∈ ds, d.flag = false) : ∃ us : List U, listU (.tup ds) = some us := by
  unfold listU
  show ∃ us, usR (.ok (.lst true ds)) = some us
  unfold usR
  simp only
  rw [dif_pos h]
  exact ⟨_, rfl⟩
theorem ty_nf {ds : List D} (h : ∀ d ∈ ds, Ty d) : ∀ d ∈ ds, d.flag = false := fun d hd => (h d hd).2
theorem appM_l {α : Type} {l : List α} {x : α} (h : l.length ≤ 1000) : appM l x = some (l ++ [x]) := appM_some (Nat.lt_of_le_of_lt h (by decide))
theorem catM_l {α : Type} {l m : List α} (h : l.length + m.length ≤ 1000) : catM l m = some (l ++ m) := catM_some (line_k' (by omega))
/-- the sets' part of near: one round -/
theorem near_round (N : Nat) (hN : N ≤ 60000) (c : List Int) (hc : CrL N c) (xs : List Int) (f : Fit xs) (rs : List (List Int)) (hr : rs.length ≤ 10) (hl : ∀ r ∈ rs, r.length ≤ 25) (a : Nat) (ha : a < rs.length) (L : List U) (hL : AN L) (hLl : L.length ≤ 500) (g : List Int × List U → Int → Option (List Int × List U))
    (hg : ∀ s2027 x2028, g s2027 x2028 = ((opU (dIx (setD rs) (.int x2028)))).bind fun (r2030 : U) => ((((opU (dRev r2030.1))).bind fun (r2031 : U) => ((((listU r2030.1)).bind fun (r2032 : (List U)) => ((((opU (dSl r2030.1 (some (1)) none))).bind fun (r2033 : U) => ((((((opU (dSl r2030.1 (some (-(1))) none))).bind fun (r2034 : U) => (opU (dAdd r2030.1 r2034.1)))).bind fun (r2035 : U) => ((((((atI xs (0))).bind fun (r2036 : Int) => (opU (dAdd r2030.1 ((eT1 D.int) (r2036)))))).bind fun (r2037 : U) => ((opU (dAdd ((eT1 D.int) ((-(1)))) r2030.1))).map fun (r2038 : U) => (r2037, r2038))).map fun (p2039 : (U × U)) => (r2035, p2039))).map fun (p2040 : (U × (U × U))) => (r2033, p2040))).map fun (p2041 : (U × (U × (U × U)))) => (r2032, p2041))).map fun (p2042 : ((List U) × (U × (U × (U × U))))) => (r2031, p2042))).bind fun (p2043 : (U × ((List U) × (U × (U × (U × U)))))) => ((((((opU (dSl r2030.1 (some (1)) none))).bind fun (r2044 : U) => (opU (dAdd ((eT1 D.bl) (true)) r2044.1)))).bind fun (r2045 : U) => (catM [p2043.1, (uOf (e := (eLF eU)) im_lf p2043.2.1), p2043.2.2.1, p2043.2.2.2.1, p2043.2.2.2.2.1, p2043.2.2.2.2.2] [r2045, (uOf (e := eN) im_non ())]))).bind fun (r2046 : (List U)) => ((((((((((((((atI xs (0))).bind fun (r2047 : Int) => (some (max (1) r2047)))).bind fun (r2048 : Int) => (F__law_ladle s2027.1 r2048))).bind fun (r2049 : (Int × (List Int))) => ((opU (dAdd r2030.1 ((eT1 D.int) (r2049.1))))).map fun (v2050 : U) => (v2050, r2049.2))).bind fun (q2051 : (U × (List Int))) => ((sortU q2051.1.1)).map fun (v2052 : (List Int)) => (v2052, q2051.2))).bind fun (q2053 : ((List Int) × (List Int))) => ((some q2053.1)).map fun (v2054 : (List Int)) => (v2054, q2053.2))).bind fun (q2055 : ((List Int) × (List Int))) => (appM r2046 (uOf (e := (eTO D.int)) im_to q2055.1)).map fun (l2057 : (List U)) => (l2057, q2055))).bind fun (r2056 : ((List U) × ((List Int) × (List Int)))) => (foldO (fun (s2067 : ((List U))) (x2068 : U) => ((((((((((opU (dSl (setD rs) none (some x2028)))).bind fun (r2070 : U) => (opU (dAdd r2070.1 ((eT1 eU) (x2068)))))).bind fun (r2071 : U) => ((opU (dSl (setD rs) (some (x2028 + (1))) none))).map fun (r2072 : U) => (r2071, r2072))).bind fun (p2073 : (U × U)) => (opU (dAdd p2073.1.1 p2073.2.1)))).bind fun (r2074 : U) => (appM s2067 (uOf (e := (eT2 D.str eU)) im_t2 (("sets" : Str), r2074))).map fun (l2076 : (List U)) => (l2076, r2074))).map fun (r2075 : ((List U) × U)) => (r2075.1)) r2056.1 (s2027.2)).bind fun (s2069 : ((List U))) => ((((((((itU r2030)).bind fun (l2077 : List U) => (lcMapM l2077 fun (x2082 : U) => (((((atI xs (0))).bind fun (r2083 : Int) => (some (r2083 - (1))))).bind fun (r2084 : Int) => (opI (dSub (D.int r2084) x2082.1)))))).bind fun (r2086 : (List Int)) => (some (isort r2086)))).bind fun (r2087 : (List Int)) => (some r2087))).bind fun (r2088 : (List Int)) => ((((((((((opU (dSl (setD rs) none (some x2028)))).bind fun (r2089 : U) => (opU (dAdd r2089.1 ((eT1 (eTO D.int)) (r2088)))))).bind fun (r2090 : U) => ((opU (dSl (setD rs) (some (x2028 + (1))) none))).map fun (r2091 : U) => (r2090, r2091))).bind fun (p2092 : (U × U)) => (opU (dAdd p2092.1.1 p2092.2.1)))).bind fun (r2093 : U) => (appM s2069 (uOf (e := (eT2 D.str eU)) im_t2 (("sets" : Str), r2093))).map fun (l2095 : (List U)) => (l2095, r2093))).map fun (r2094 : ((List U) × U)) => (r2056.2.2, r2094.1)) : Ok (g (c, L) a) fun s => CrL (N + 1) s.1 ∧ AN s.2 ∧ s.2.length = L.length + 10 := by
  obtain ⟨h2, h7, hb, h0, h30⟩ := f
  have j0 : atI xs 0 = some (gt0 xs 0) := atI_gt0 (k := 0) (by omega)
  have hone := hl _ (List.getElem_mem ha)
  have hix : opU (dIx (setD rs) (.int a)) = some ⟨tI (rs.getD a []), rfl⟩ := by
    rw [ix_sets (by omega) (by omega)]; rfl
  rw [show rs.getD a [] = rs[a] by simp [ha]] at hix
  rw [hg, hix, Option.bind_some]
  generalize rs[a] = one at hone
  have lm : (one.map D.int).length ≤ 25 := by simpa using hone
  obtain ⟨us, hus⟩ := listU_any (ds := one.map D.int) (ty_nf ty_ints)
  obtain ⟨⟨v, c1⟩, e1, ⟨v0, v1⟩, h1⟩ := f_ladle (t := max 1 (gt0 xs 0)) hc (by omega) (by omega) (by omega)
  dsimp only at h1 v0 v1
  have tcut : ∀ lo hi, ∀ d ∈ cutD (one.map D.int) lo hi, Ty d := fun lo hi d hd => ty_ints d (cutD_mem d hd)
  have lcut : ∀ lo hi, (cutD (one.map D.int) lo hi).length ≤ 25 := fun lo hi => Nat.le_trans cutD_len lm
  have rcut : ∀ lo hi, ∀ d ∈ cutD (rs.map tI) lo hi, TyS d := fun lo hi d hd => by
    obtain ⟨r, hr', rfl⟩ := List.mem_map.mp (cutD_mem d hd)
    exact ys_i (by have := hl r hr'; omega)
  have rl : ∀ lo hi, (cutD (rs.map tI) lo hi).length ≤ 10 := fun lo hi => Nat.le_trans cutD_len (by simpa using hr)
  have put : ∀ (odd : D) lo hi lo' hi', TyS odd → TyY (.tup ((cutD (rs.map tI) lo hi ++ [odd]) ++ cutD (rs.map tI) lo' hi')) := fun odd lo hi lo' hi' ho => yy_t (by
    have := rl lo hi; have := rl lo' hi'
    rw [List.length_append, List.length_append]; simp; omega) fun s hs => by
      rcases List.mem_append.mp hs with hs | hs
      · rcases List.mem_append.mp hs with hs | hs
        · exact rcut lo hi s hs
        · simp at hs; subst hs; exact ho
      · exact rcut lo' hi' s hs
  refine Ok.bind (P := fun p : U × (List U × (U × (U × (U × U)))) => TyS p.1.1 ∧ TyS p.2.2.1.1 ∧ TyS p.2.2.2.1.1 ∧ TyS p.2.2.2.2.1.1 ∧ TyS p.2.2.2.2.2.1) ?_ fun p hp => ?_
  · rw [u_rev, Option.bind_some, hus, Option.bind_some, u_sl, Option.bind_some, u_sl, Option.bind_some, u_add (by have := lcut (some (-1)) none; omega), Option.bind_some, j0, Option.bind_some, eT1, u_add (by simp; omega), Option.bind_some, eT1, u_add (by simp; omega), Option.map_some, Option.map_some, Option.map_some, Option.map_some, Option.map_some]
    refine ⟨_, rfl, ?_, ?_, ?_, ?_, ?_⟩
    · exact ys_t (by simp; omega) fun s hs => ty_ints s (List.mem_reverse.mp hs)
    · exact ys_t (Nat.le_trans (lcut _ _) (by omega)) (tcut _ _)
    · refine ys_t (by have := lcut (some (-1)) none; rw [List.length_append]; omega) fun s hs => ?_
      rcases List.mem_append.mp hs with hs | hs
      · exact ty_ints s hs
      · exact tcut _ _ s hs
    · refine ys_t (by rw [List.length_append]; simp; omega) fun s hs => ?_
      rcases List.mem_append.mp hs with hs | hs
      · exact ty_ints s hs
      · simp at hs; subst hs; exact ⟨rfl, rfl⟩
    · refine ys_t (by rw [List.length_append]; simp; omega) fun s hs => ?_
      rcases List.mem_append.mp hs with hs | hs
      · simp at hs; subst hs; exact ⟨rfl, rfl⟩
      · exact ty_ints s hs
  obtain ⟨p1, p2, p3, p4, p5⟩ := hp
  rw [u_sl, Option.bind_some, eT1, u_add (by have := lcut (some 1) none; simp; omega), Option.bind_some, catM_l (by simp), Option.bind_some, j0, Option.bind_some, Option.bind_some, e1, Option.bind_some, eT1, u_add (by simp; omega), Option.map_some, Option.bind_some]
  have es : sortU (.tup (one.map D.int ++ [D.int v])) = some (usort (one ++ [v])) := by
    have := sortU_ints (one ++ [v]) (by simp; omega)
    rw [List.map_append] at this; exact this
  rw [es, Option.map_some, Option.bind_some, Option.map_some, Option.bind_some, appM_l (by simp), Option.map_some, Option.bind_some]
  have us_l : (usort (one ++ [v])).length ≤ 50 := by
    have h : (usort (one ++ [v])).length ≤ (one ++ [v]).length := by
      have : ∀ (x : Int) (l : List Int), (insU x l).length ≤ l.length + 1 := by
        intro x l
        induction l with
        | nil => simp [insU]
        | cons y l ih => unfold insU; split; · simp
                         split; · simp
                         simp; exact ih
      generalize one ++ [v] = z
      induction z with
      | nil => simp [usort]
      | cons y l ih => exact Nat.le_trans (this y _) (by simp; exact ih)
    simp at h; omega
  refine Ok.bind (P := fun s : List U => AN s ∧ s.length = L.length + 9) ?_ fun s2 hs2 => ?_
  · refine Ok.mono (Ok.foldO (fun i s => AN s ∧ s.length = L.length + i) ⟨hL, rfl⟩ ?_) ?_
    · rintro j x s hx ⟨q1, q2⟩
      have hj : j < 9 := by
        obtain ⟨h, _⟩ := List.getElem?_eq_some_iff.mp hx
        simpa using h
      have hmem := List.mem_of_getElem? hx
      have hx : TyS x.1 := by
        simp only [List.cons_append, List.nil_append, List.mem_cons, List.not_mem_nil, or_false] at hmem
        rcases hmem with rfl | rfl | rfl | rfl | rfl | rfl | rfl | rfl | rfl
        · exact p1
        · exact ys_f ⟨rfl, rfl⟩ fun ds e => by cases e
        · exact p2
        · exact p3
        · exact p4
        · exact p5
        · refine ys_t (by have := lcut (some 1) none; rw [List.length_cons]; omega) fun s hs => ?_
          rcases List.mem_cons.mp hs with rfl | hs
          · exact ⟨rfl, rfl⟩
          · exact tcut _ _ s hs
        · exact ys_f ⟨rfl, rfl⟩ fun ds e => by cases e
        · exact ys_i us_l
      rw [u_sl, Option.bind_some, eT1, u_add (by have := rl none (some a); simp; omega), Option.bind_some, u_sl, Option.map_some, Option.bind_some, u_add (by have := rl none (some a); have := rl (some (a + 1)) none; simp; omega), Option.bind_some, appM_l (by omega), Option.map_some, Option.map_some]
      refine ⟨_, rfl, an_a q1 (an_c (nv_sets (put _ _ _ _ _ hx)) an_n), by simp [q2]; omega⟩
    · rintro s ⟨q1, q2⟩
      exact ⟨q1, by simpa using q2⟩
  obtain ⟨q1, q2⟩ := hs2
  have it : itU ⟨tI one, rfl⟩ = some (one.map (uOf im_int)) := itU_tup im_int
  rw [it, Option.bind_some, lcMapM_some (fun u => match u.1 with | .int i => gt0 xs 0 - 1 - i | _ => 0) (by rw [List.length_map]; exact line_k' (by omega))]
  · generalize hw : (one.map (uOf im_int)).map _ = ws
    have wl : ws.length = one.length := by rw [← hw]; simp
    have wl2 : (isort ws).length ≤ 50 := by rw [(isort_perm ws).length_eq]; omega
    rw [Option.bind_some, Option.bind_some, Option.bind_some, u_sl, Option.bind_some, eT1, u_add (by have := rl none (some a); simp; omega), Option.bind_some, u_sl, Option.map_some, Option.bind_some, u_add (by have := rl none (some a); have := rl (some (a + 1)) none; simp; omega), Option.bind_some, appM_l (by omega), Option.map_some, Option.map_some]
    exact ⟨_, rfl, h1, an_a q1 (an_c (nv_sets (put _ _ _ _ _ (ys_i wl2))) an_n), by simp [q2]⟩
  · intro u hu
    obtain ⟨i, _, rfl⟩ := List.mem_map.mp hu
    rw [Option.bind_some, Option.bind_some]
    rfl
end Law

set_option maxHeartbeats 4000000
namespace Law
open PySem L2 Tr
theorem listU_two {k y : D} (hk : k.flag = false) (hy : y.flag = false) : ∃ us : List U, listU (.tup [k, y]) = some us := listU_any fun d hd => by
  simp at hd
  rcases hd with rfl | rfl <;> assumption
def iOf : D → Int
  | .int i => i
  | _ => 0
def dsOf : D → List D
  | .tup ds => ds
  | _ => []
theorem rng2_neg {n : Nat} (h : n ≤ 100) : rng2 (-1) ((n : Int) + 1) = some ((List.range (n + 2)).map fun (k : Nat) => -1 + (k : Int)) := by
  unfold rng2
  rw [if_pos (by rw [sm62 (by omega), sm62 (by omega)]; rfl)]
  unfold rngL
  rw [show ((n : Int) + 1 - -1).toNat = n + 2 by omega]
/-- the part of near that is the same for all papers -/
theorem f_near (N : Nat) (hN : N ≤ 40000) (c : List Int) (hc : CrL N c) (xs : List Int) (f : Fit xs) (h5 : xs.length ≤ 5) (h25 : gt0 xs 0 ≤ 25) (p : U) (s : Str) (y : D) (hs : s = "lack" ∨ s = "sets") (hy : TyY y) (hyn : ∀ s', y ≠ .str s') (hp : p = ⟨.tup [.str s, y], rfl⟩)
    (hsets : s = "sets" → ∃ rs : List (List Int), y = setD rs ∧ rs.length ≤ 10 ∧ ∀ r ∈ rs, r.length ≤ 25) : Ok (F__law_near c xs p) fun r => AN r.1 ∧ CrL (N + 2000) r.2 := by
  subst hp
  have f' := f
  obtain ⟨h2, h7, hb, h0, h30⟩ := f
  have j0 : atI xs 0 = some (gt0 xs 0) := atI_gt0 (k := 0) (by omega)
  obtain ⟨us, hus⟩ := listU_two (k := .str s) (y := y) rfl hy.1.2
  have hk : NV (.tup [.str s, y]) := nv_p ⟨rfl, rfl⟩ hy fun s' e => by cases e; exact hs
  have i1 := ix1 (k := .str s) (y := y) hy.1.2
  have i0 := ix0 (k := .str s) (y := y) rfl
  unfold F__law_near
  rw [hus, Option.bind_some, u_sl, Option.bind_some, u_rev, Option.bind_some, eT1, u_add (by simp), Option.map_some, Option.map_some, Option.map_some, Option.bind_some, catM_l (by simp), Option.bind_some]
  have a1 : AN ([⟨.tup [.str s, y], rfl⟩, uOf (e := eLF eU) im_lf us, ⟨.tup (cutD [D.str s, y] none (some 1)), rfl⟩, ⟨.tup [D.str s, y].reverse, rfl⟩, ⟨.tup ([D.str s, y] ++ [.int 0]), rfl⟩, uOf (e := eN) im_non (), uOf (e := eT0) im_t0 (), uOf (e := D.int) im_int 0, dE, uOf (e := D.str) im_str "sets", uOf (e := eT2 D.str eT0) im_t2 ("sets", ())] ++ [uOf (e := eT2 D.str eN) im_t2 ("sets", ())]) := by
    refine an_c hk (an_c (nv_f ⟨rfl, rfl⟩ fun ds e => by cases e) (an_c (nv_l ?_) (an_c (nv_p hy.1 (yy_f ⟨rfl, rfl⟩ fun ds e => by cases e) fun s' e => absurd e (hyn s')) (an_c (nv_l (by simp)) (an_c (nv_f ⟨rfl, rfl⟩ fun ds e => by cases e) (an_c (nv_l (by simp)) (an_c (nv_f ⟨rfl, rfl⟩ fun ds e => by cases e) (an_c (nv_f ⟨rfl, rfl⟩ fun ds e => by cases e) (an_c (nv_f ⟨rfl, rfl⟩ fun ds e => by cases e) (an_c (nv_sets (yy_t (by simp) fun s hs => by cases hs)) (an_c (nv_sets (yy_f ⟨rfl, rfl⟩ fun ds e => by cases e)) an_n)))))))))))
    have : cutD [D.str s, y] none (some 1) = [D.str s] := rfl
    rw [this]; simp
  generalize hl1 : ([⟨.tup [.str s, y], rfl⟩, uOf (e := eLF eU) im_lf us, ⟨.tup (cutD [D.str s, y] none (some 1)), rfl⟩, ⟨.tup [D.str s, y].reverse, rfl⟩, ⟨.tup ([D.str s, y] ++ [.int 0]), rfl⟩, uOf (e := eN) im_non (), uOf (e := eT0) im_t0 (), uOf (e := D.int) im_int 0, dE, uOf (e := D.str) im_str "sets", uOf (e := eT2 D.str eT0) im_t2 ("sets", ())] ++ [uOf (e := eT2 D.str eN) im_t2 ("sets", ())] : List U) = L1 at a1
  have l1 : L1.length = 12 := by rw [← hl1]; rfl
  rw [rng2_neg (by omega), Option.bind_some, lcMap_some (line_r (by omega)), Option.bind_some, catM_l (by simp; omega), Option.bind_some]
  have a2 : AN (List.map (fun (x1743 : Int) => (uOf (e := (eT2 D.str D.int)) im_t2 (("lack" : Str), x1743))) ((List.range (xs.length + 2)).map fun (k : Nat) => -1 + (k : Int))) := fun v hv => by
    obtain ⟨i, _, rfl⟩ := List.mem_map.mp hv
    exact nv_lack (yy_f ⟨rfl, rfl⟩ fun ds e => by cases e)
  have a3 := an_a a1 a2
  generalize hl2 : L1 ++ List.map _ _ = L2 at a3
  have l2 : L2.length = 14 + xs.length := by rw [← hl2]; simp; omega
  rw [i1, Option.bind_some, catM_l (by simp; omega), Option.bind_some, Option.bind_some, appM_l (by simp; omega), Option.map_some, Option.bind_some]
  have a4 := an_a (an_a a3 (an_c (v := uOf (e := eT2 D.str D.bl) im_t2 ("lack", true)) (nv_lack (yy_f ⟨rfl, rfl⟩ fun ds e => by cases e)) (an_c (v := uOf (e := eT2 D.str eN) im_t2 ("lack", ())) (nv_lack (yy_f ⟨rfl, rfl⟩ fun ds e => by cases e)) (an_c (v := uOf (e := eT2 D.str eU) im_t2 ("lack", ⟨y, hy.1.2⟩)) (nv_lack hy) an_n)))) (an_c (v := uOf (e := eT2 D.str eU) im_t2 ("sets", ⟨y, hy.1.2⟩)) (nv_sets hy) an_n)
  try dsimp only
  generalize hl3 : L2 ++ [_, _, _] ++ [_] = L3 at a4
  have l3 : L3.length = 18 + xs.length := by rw [← hl3]; simp; omega
  rw [i0, Option.bind_some]
  refine Ok.bind (P := fun s : List Int × List U => CrL (N + 50) s.1 ∧ AN s.2 ∧ s.2.length ≤ 300) ?_ fun s1 hs1 => ?_
  · rcases hs with rfl | rfl
    · have e0 : opB (dEq false (.str "lack") (.str "sets")) = some false := by rw [eqB_str sh_lack sh_sets]; simp [ls_ne]
      rw [e0, Option.bind_some, if_neg Bool.false_ne_true]
      exact ⟨_, rfl, hc.mono (by omega), a4, by dsimp only; omega⟩
    · have e0 : opB (dEq false (.str "sets") (.str "sets")) = some true := by rw [eqB_str sh_sets sh_sets]; simp
      obtain ⟨rs, rfl, hr, hl⟩ := hsets rfl
      rw [e0, Option.bind_some, if_pos rfl, Option.bind_some]
      have rl : (rs.map tI).length ≤ 10 := by simpa using hr
      have tr : ∀ d ∈ rs.map tI, TyS d := fun d hd => by
        obtain ⟨r, hr', rfl⟩ := List.mem_map.mp hd
        exact ys_i (by have := hl r hr'; omega)
      obtain ⟨vs, hvs⟩ := listU_any (ds := rs.map tI) fun d hd => (tr d hd).1.2
      rw [u_rev, Option.bind_some, u_sl, Option.bind_some, eT1, u_add (by simp; omega), Option.bind_some, hvs, Option.map_some, Option.map_some, Option.map_some, Option.bind_some, catM_l (by simp; omega), Option.bind_some]
      have b1 : ∀ lo hi, TyY (.tup (cutD (rs.map tI) lo hi)) := fun lo hi => yy_t (Nat.le_trans cutD_len (by omega)) fun s hs => tr s (cutD_mem s hs)
      have b2 : TyY (.tup (rs.map tI).reverse) := yy_t (by simp; omega) fun s hs => tr s (List.mem_reverse.mp hs)
      have b3 : TyY (.tup (rs.map tI ++ [eT0 ()])) := yy_t (by simp; omega) fun s hs => by
        rcases List.mem_append.mp hs with hs | hs
        · exact tr s hs
        · simp at hs; subst hs; exact ys_t (by simp) fun s hs => by cases hs
      have a5 := an_a a4 (an_c (v := uOf (e := eT2 D.str eU) im_t2 ("sets", ⟨.tup (rs.map tI).reverse, rfl⟩)) (nv_sets b2) (an_c (v := uOf (e := eT2 D.str eU) im_t2 ("sets", ⟨.tup (cutD (rs.map tI) (some 1) none), rfl⟩)) (nv_sets (b1 _ _)) (an_c (v := uOf (e := eT2 D.str eU) im_t2 ("sets", ⟨.tup (rs.map tI ++ [eT0 ()]), rfl⟩)) (nv_sets b3) (an_c (v := uOf (e := eT2 D.str (eLF eU)) im_t2 ("sets", vs)) (nv_sets (yy_f ⟨rfl, rfl⟩ fun ds e => by cases e)) an_n))))
      try dsimp only
      generalize hl4 : L3 ++ [_, _, _, _] = L4 at a5
      have l4 : L4.length = 22 + xs.length := by rw [← hl4]; simp; omega
      have hlen : opI (dLen (setD rs)) = some (rs.length : Int) := by
        rw [len_tup, opI_int, List.length_map]
      rw [hlen, Option.bind_some, rng1_nat (by omega), Option.bind_some]
      refine Ok.bind (Ok.foldO (fun i s => CrL (N + i) s.1 ∧ AN s.2 ∧ s.2.length = 22 + xs.length + 10 * i) ⟨hc, a5, l4⟩ ?_) ?_
      · rintro j x ⟨c2, L⟩ hx ⟨g1, g2, g3⟩
        obtain ⟨hj, rfl⟩ := at_rng hx
        dsimp only at g1 g2 g3
        refine Ok.mono (near_round (N + j) (by omega) c2 g1 xs f' rs hr hl j hj L g2 (by omega) _ fun _ _ => rfl) ?_
        rintro ⟨c3, L'⟩ ⟨q1, q2, q3⟩
        exact ⟨q1, q2, by dsimp only at q3 ⊢; omega⟩
      · rintro ⟨c2, L⟩ ⟨g1, g2, g3⟩
        dsimp only at g1 g2 g3 ⊢
        rw [List.length_map, List.length_range] at g1 g3
        have it : itU ⟨setD rs, rfl⟩ = some (rs.map (uOf (e := eTO D.int) im_to)) := itU_tup (e := eTO D.int) im_to
        rw [it, Option.bind_some, lcMapM_some (fun u => isort ((dsOf u.1).map fun d => gt0 xs 0 - 1 - iOf d)) (by rw [List.length_map]; exact line_k' (by omega)), Option.bind_some, Option.bind_some, appM_l (by omega), Option.map_some, Option.map_some]
        · refine ⟨_, rfl, g1.mono (by omega), an_a g2 (an_c (nv_sets ?_) an_n), by simp; omega⟩
          refine yy_t (by simp; omega) fun s hs => ?_
          obtain ⟨is, hi, rfl⟩ := List.mem_map.mp hs
          obtain ⟨u, hu, rfl⟩ := List.mem_map.mp hi
          obtain ⟨r, hr', rfl⟩ := List.mem_map.mp hu
          refine ys_i ?_
          rw [(isort_perm _).length_eq, List.length_map]
          have := hl r hr'
          show (List.map D.int r).length ≤ 50
          rw [List.length_map]; omega
        · intro u hu
          obtain ⟨r, hr', rfl⟩ := List.mem_map.mp hu
          have := hl r hr'
          have it2 : itU (uOf (e := eTO D.int) im_to r) = some (r.map (uOf im_int)) := itU_tup im_int
          rw [it2, Option.bind_some, lcMapM_some (fun u => gt0 xs 0 - 1 - iOf u.1) (by rw [List.length_map]; exact line_k' (by omega))]
          · rw [Option.bind_some, Option.bind_some]
            congr 2
            show (r.map _).map _ = (r.map D.int).map _
            rw [List.map_map, List.map_map]; rfl
          · intro w hw
            obtain ⟨i, _, rfl⟩ := List.mem_map.mp hw
            rw [j0, Option.bind_some, Option.bind_some]; rfl
  · obtain ⟨c1, L⟩ := s1
    obtain ⟨g1, g2, g3⟩ := hs1
    dsimp only at g1 g2 g3 ⊢
    rw [show (6 : Int) = ((6 : Nat) : Int) from rfl, rng1_nat (by omega), Option.bind_some]
    obtain ⟨n, hn⟩ : ∃ n : Nat, max 0 (min 30 (gt0 xs 0)) = n := ⟨(max 0 (min 30 (gt0 xs 0))).toNat, by omega⟩
    refine Ok.bind (Ok.foldO (fun i s => CrL (N + 50 + i * 300) s.1 ∧ AN s.2 ∧ s.2.length ≤ 300 + i) ⟨by simpa using g1, g2, g3⟩ ?_) ?_
    · rintro j x ⟨c2, L'⟩ hx ⟨q1, q2, q3⟩
      have hj : j < 6 := by
        obtain ⟨h, _⟩ := List.getElem?_eq_some_iff.mp hx
        simpa using h
      dsimp only at q1 q2 q3 ⊢
      rw [j0, Option.bind_some, Option.bind_some, Option.bind_some, hn, show (xs.length : Int) - 1 = ((xs.length - 1 : Nat) : Int) by omega]
      obtain ⟨⟨ss, c3⟩, e, r1, r2, r3, r4⟩ := f_sets q1 (by omega) n (xs.length - 1) (by omega) (by omega)
      dsimp only at r1 r2 r3 r4
      rw [e, Option.bind_some, appM_l (by omega), Option.map_some]
      refine ⟨_, rfl, r1.mono (by omega), an_a q2 (an_c (nv_sets (yy_r (rs := ss) (by omega) fun r hr => by have := (r4 r hr).1; omega)) an_n), by simp; omega⟩
    · rintro ⟨c2, L'⟩ ⟨q1, q2, q3⟩
      dsimp only at q1 q2 q3
      refine ⟨_, rfl, q2, q1.mono ?_⟩
      rw [List.length_map, List.length_range]
      omega
end Law

set_option maxHeartbeats 4000000
namespace Law
open PySem L2 Tr
theorem sh_nil : SeqAt.shaped (.str "") = true := by decide +kernel
theorem nil_lack : ("" : Str) ≠ "lack" := by decide +kernel
theorem nil_sets : ("" : Str) ≠ "sets" := by decide +kernel
theorem eqS_of {x y : Str} (hx : SeqAt.shaped (.str x) = true) (hy : SeqAt.shaped (.str y) = true) : eqS x y = some (decide (x = y)) := by unfold eqS; rw [hx, hy]; rfl
theorem setsBy_mem (cs : List Int) (h0 : ∀ x ∈ cs, 0 ≤ x) (n : Nat) (hs : cs.sum ≤ n) : (setsBy cs).length = cs.length - 1 ∧ ∀ r ∈ setsBy cs, r.length ≤ n := by
  refine ⟨by simp [setsBy], fun r hr => ?_⟩
  obtain ⟨a, _, rfl⟩ := List.mem_map.mp hr
  rw [List.length_map]
  refine Nat.le_trans (List.length_filter_le _ _) ?_
  rw [List.length_range]
  have := oftL_len cs h0 cs.length (Nat.le_refl _)
  rw [List.take_length] at this
  omega
/-- the kind of the sums -/
def kind (xs : List Int) : Str := if lacks (cin xs) = [] then "sets" else "lack"
theorem lacks_mem {cs : List Int} {k : Nat} (hk : k < cs.length) (h : gt0 cs k < 0) : lacks cs ≠ [] := by
  intro e
  have := lacks_nil e _ (List.getElem_mem hk)
  rw [getD_lt hk] at h
  omega
theorem lacks_min {cs : List Int} (h : cs ≠ []) : ∃ m, cs.min? = some m ∧ (m < 0 ↔ lacks cs ≠ []) := by
  obtain ⟨m, hm⟩ : ∃ m, cs.min? = some m := by
    cases cs with
    | nil => exact absurd rfl h
    | cons x xs => exact ⟨_, rfl⟩
  refine ⟨m, hm, ?_⟩
  obtain ⟨h1, h2⟩ := List.min?_eq_some_iff.mp hm
  constructor
  · intro hn
    obtain ⟨i, hi, rfl⟩ := List.mem_iff_getElem.mp h1
    exact lacks_mem hi (by rw [getD_lt hi]; exact hn)
  · intro hn
    by_cases q : m < 0
    · exact q
    · exfalso
      apply hn
      unfold lacks
      rw [List.map_eq_nil_iff, List.filter_eq_nil_iff]
      intro k hk
      rw [List.mem_range] at hk
      rw [getD_lt hk]
      have := h2 _ (List.getElem_mem hk)
      simp; omega
/-- what is judged to be a paper is of the sums' kind -/
theorem judg_kind (xs : List Int) (f : Fit xs) (d : D) (h : NV d) (hj : judg xs d = true) : kindOf d = kind xs := by
  obtain ⟨h2, h7, hb, h0, h30⟩ := f
  have hl := cin_len xs
  unfold judg at hj
  split at hj
  · rename_i s y
    obtain ⟨k, y', e, _, ty, hs⟩ := h.2 _ rfl rfl
    cases e
    show s = _
    unfold kind
    rcases hs s rfl with rfl | rfl
    · rw [if_pos rfl, Bool.and_eq_true] at hj
      obtain ⟨j1, j2⟩ := hj
      cases y with
      | int i =>
        simp only [inR, Bool.and_eq_true, decide_eq_true_eq] at j1
        simp only [ltD, decide_eq_true_eq] at j2
        rw [if_neg (lacks_mem (by omega) j2)]
      | _ => cases j1
    · rw [if_neg ls_ne.symm] at hj
      unfold showS at hj
      simp only [Bool.and_eq_true, decide_eq_true_eq] at hj
      obtain ⟨_, _, j3⟩ := hj
      have : lacks (cin xs) = [] := by
        unfold lacks
        rw [List.map_eq_nil_iff, List.filter_eq_nil_iff]
        intro k hk
        rw [List.mem_range] at hk
        rw [getD_lt hk]
        have := (cby_le _ _ _ (by rw [j3]; exact List.getElem_mem hk)).1
        simp; omega
      rw [if_pos this]
  · cases hj
theorem fil_lt (v : Nat) : ∀ m : Nat, ((List.range m).filter fun (a : Nat) => decide (a < v)).length = min m v
  | 0 => by simp
  | m + 1 => by
    rw [List.range_succ, List.filter_append, List.length_append, fil_lt v m]
    by_cases h : m < v
    · simp [h]; omega
    · simp [h]; omega
theorem oftL_mem (cs : List Int) : ∀ n, ∀ x ∈ oftL cs n, ∃ k : Nat, k < n ∧ x = k
  | 0, x, h => by simp [oftL] at h
  | n + 1, x, h => by
    rw [oftL_s, List.mem_append] at h
    rcases h with h | h
    · obtain ⟨k, hk, e⟩ := oftL_mem cs n x h
      exact ⟨k, by omega, e⟩
    · rw [List.mem_replicate] at h
      exact ⟨n, by omega, h.2⟩
theorem oftL_count (cs : List Int) (k : Nat) : ∀ n, (oftL cs n).count (k : Int) = if k < n then (gt0 cs k).toNat else 0
  | 0 => by simp [oftL]
  | n + 1 => by
    rw [oftL_s, List.count_append, oftL_count cs k n, List.count_replicate]
    by_cases h : k < n
    · have : ¬ (n : Int) = k := by omega
      have h2 : k < n + 1 := by omega
      simp [h, h2, this]
    · by_cases e : n = k
      · subst e
        simp
      · have : ¬ (n : Int) = k := by omega
        have h2 : ¬ k < n + 1 := by omega
        simp [h, h2, this]
theorem mem_setsBy (L : List Int) (a t : Nat) : ((t : Int) ∈ ((List.range L.length).filter fun (t : Nat) => decide ((a : Int) < gt0 L t)).map fun (t : Nat) => (t : Int)) ↔ t < L.length ∧ (a : Int) < gt0 L t := by
  simp only [List.mem_map, List.mem_filter, List.mem_range, decide_eq_true_eq]
  constructor
  · rintro ⟨s, ⟨h1, h2⟩, h3⟩
    have : s = t := by omega
    subst this
    exact ⟨h1, h2⟩
  · rintro ⟨h1, h2⟩
    exact ⟨t, ⟨h1, h2⟩, rfl⟩
theorem oft_sets (cs : List Int) (h1 : 1 ≤ cs.length) (t : Nat) (ht : t < (oftL cs cs.length).length) : oft (setsBy cs) t = gt0 (oftL cs cs.length) t := by
  have hm : (oftL cs cs.length)[t] ∈ oftL cs cs.length := List.getElem_mem ht
  obtain ⟨v, hv, e⟩ := oftL_mem cs cs.length _ hm
  have e2 : gt0 (oftL cs cs.length) t = v := by rw [getD_lt ht]; exact e
  unfold oft setsBy
  rw [List.filter_map, List.length_map, e2]
  have : ((fun s : List Int => decide ((t : Int) ∈ s)) ∘ fun (a : Nat) => ((List.range (oftL cs cs.length).length).filter fun (t : Nat) => decide ((a : Int) < gt0 (oftL cs cs.length) t)).map fun (t : Nat) => (t : Int)) = fun (a : Nat) => decide (a < v) := by
    funext a
    show decide (_ ∈ _) = _
    rw [Bool.eq_iff_iff, decide_eq_true_eq, decide_eq_true_eq, mem_setsBy, e2]
    omega
  rw [this, fil_lt]
  omega
theorem cby_sets (cs : List Int) (h1 : 1 ≤ cs.length) (h0 : ∀ x ∈ cs, 0 ≤ x) (n : Nat) (hn : (n : Int) = cs.sum) : cby n (setsBy cs) = cs := by
  have hL := oftL_len cs h0 cs.length (Nat.le_refl _)
  rw [List.take_length] at hL
  have en : n = (oftL cs cs.length).length := by omega
  have sl : (setsBy cs).length = cs.length - 1 := by simp [setsBy]
  unfold cby
  rw [sl, show cs.length - 1 + 1 = cs.length by omega]
  have e : (List.range n).map (oft (setsBy cs)) = oftL cs cs.length := by
    apply List.ext_getElem
    · simp [en]
    · intro t h1' h2'
      rw [List.getElem_map, List.getElem_range, oft_sets cs h1 t h2', getD_lt h2']
  rw [e]
  apply List.ext_getElem
  · simp
  · intro k hk1 hk2
    rw [List.getElem_map, List.getElem_range, oftL_count, if_pos hk2, getD_lt hk2]
    have := h0 _ (List.getElem_mem hk2)
    omega
theorem areB_sets_by (cs : List Int) (n : Nat) (hn : (oftL cs cs.length).length ≤ n) : areB n (setD (setsBy cs)) = true := by
  show ((setsBy cs).map tI).all (setOk n) = true
  rw [List.all_map, List.all_eq_true]
  intro r hr
  obtain ⟨a, _, rfl⟩ := List.mem_map.mp hr
  generalize hf : (List.range (oftL cs cs.length).length).filter _ = l
  have hl : ∀ t ∈ l, t < n := fun t ht => by
    rw [← hf, List.mem_filter, List.mem_range] at ht; omega
  have hp : l.Pairwise (· < ·) := by rw [← hf]; exact List.pairwise_lt_range.filter _
  show setOk n (.tup ((l.map fun (t : Nat) => (t : Int)).map D.int)) = true
  show (((l.map fun (t : Nat) => (t : Int)).map D.int).all (inR 0 (n - 1)) && _) = true
  rw [ints_map, Bool.and_eq_true]
  constructor
  · rw [List.all_map, List.all_map, List.all_eq_true]
    intro t ht
    have := hl t ht
    show (decide ((0 : Int) ≤ t) && decide ((t : Int) ≤ n - 1)) = true
    simp; omega
  · refine pair_ris _ ?_
    rw [List.pairwise_map]
    exact hp.imp fun h => by omega
/-- the told paper is one -/
theorem told_judg (xs : List Int) (f : Fit xs) : judg xs (told xs) = true ∧ kindOf (told xs) = kind xs := by
  obtain ⟨h2, h7, hb, h0, h30⟩ := f
  have hl := cin_len xs
  have hs := cin_sum xs (by omega) h7
  unfold told kind
  by_cases hk : lacks (cin xs) = []
  · rw [if_pos hk, if_pos hk]
    refine ⟨?_, rfl⟩
    have hp := lacks_nil hk
    obtain ⟨n, hn⟩ : ∃ n : Nat, gt0 xs 0 = n := ⟨(gt0 xs 0).toNat, by omega⟩
    have hL := oftL_len (cin xs) hp (cin xs).length (Nat.le_refl _)
    rw [List.take_length] at hL
    have j : judg xs (.tup [.str "sets", setD (setsBy (cin xs))]) = showS xs (setD (setsBy (cin xs))) := by simp [judg, ls_ne.symm]
    rw [j]
    unfold showS
    have rr := rows_tI (setsBy (cin xs))
    rw [hn, areB_sets_by (cin xs) n (by omega), rr, Int.toNat_natCast, cby_sets (cin xs) (by omega) hp n (by omega)]
    simp [lenD, setsBy, hl]
  · rw [if_neg hk, if_neg hk]
    refine ⟨?_, rfl⟩
    have hp : 0 < (lacks (cin xs)).length := List.length_pos_iff.mpr hk
    have hm : gt0 (lacks (cin xs)) 0 ∈ lacks (cin xs) := by rw [getD_lt hp]; exact List.getElem_mem hp
    obtain ⟨k, hk1, hk2⟩ := List.mem_map.mp hm
    rw [List.mem_filter, List.mem_range, decide_eq_true_eq] at hk1
    have j : judg xs (.tup [.str "lack", .int (gt0 (lacks (cin xs)) 0)]) = (inR 0 (xs.length - 1) (.int (gt0 (lacks (cin xs)) 0)) && ltD (cin xs) (.int (gt0 (lacks (cin xs)) 0))) := by simp [judg]
    rw [j, ← hk2]
    have b1 : (k : Int) ≤ (xs.length : Int) - 1 := by omega
    simp [inR, ltD, b1, hk1.2]
end Law

set_option maxHeartbeats 4000000
namespace Law
open PySem L2 Tr
theorem sum_set : ∀ (F : List Int) (k : Nat) (x : Int), k < F.length → (F.set k x).sum = F.sum - gt0 F k + x
  | [], k, x, h => by simp at h
  | a :: F, 0, x, _ => by simp [gt0]; omega
  | a :: F, k + 1, x, h => by
    have := sum_set F k x (by simpa using h)
    simp only [List.set_cons_succ, List.sum_cons, this, gt0, List.getD_cons_succ]
    omega
theorem cby_sum (ss : List (List Int)) (n : Nat) : (cby n ss).sum = n := by
  rw [← just_cby]
  induction n with
  | zero =>
    have : ∀ k, (List.replicate k (0 : Int)).sum = 0 := by
      intro k
      induction k with
      | zero => rfl
      | succ k ih => rw [List.replicate_succ, List.sum_cons, ih]; rfl
    simp only [justF, List.range_zero, List.foldl_nil]
    exact this _
  | succ n ih =>
    have ho := oftN_le ss n
    rw [justF_s]
    unfold addAt
    rw [sum_set _ _ _ (by rw [justF_len]; omega), ih]
    omega
theorem in_two {a k : Str} (hk : k = "lack" ∨ k = "sets") (ha : a = "" ∨ a = k) : opB (dIn true (.str a) (eT2 D.str D.str (("" : Str), k))) = some false := by
  have key : ∀ x y : Str, inV (.str x) [.str "", .str y] = (decide (x = "") || decide (x = y)) := by
    intro x y
    unfold inV
    simp only [List.any_cons, List.any_nil, Bool.or_false]
    have e : ∀ u v : Str, eqV (.str u) (.str v) = decide (u = v) := by
      intro u v
      by_cases q : u = v
      · subst q; simp [eqV]
      · simp [eqV, q]
    rw [e, e]
    congr 1 <;> (rw [Bool.eq_iff_iff, decide_eq_true_eq, decide_eq_true_eq]; exact eq_comm)
  show opB (.ok (.bl (if true then !inV (.str a) [.str "", .str k] else inV (.str a) [.str "", .str k]))) = _
  rw [key]
  rcases ha with rfl | rfl <;> simp
theorem kind_or (xs : List Int) : kind xs = "lack" ∨ kind xs = "sets" := by
  unfold kind; split
  · exact .inr rfl
  · exact .inl rfl
theorem sh_kind {k : Str} (h : k = "lack" ∨ k = "sets") : SeqAt.shaped (.str k) = true := by
  rcases h with rfl | rfl
  · exact sh_lack
  · exact sh_sets
theorem kind_ne {k : Str} (h : k = "lack" ∨ k = "sets") : k ≠ "" := by
  rcases h with rfl | rfl
  · exact nil_lack.symm
  · exact nil_sets.symm
/-- one value near papers is judged alike -/
theorem one_value (xs : List Int) (f : Fit xs) (h5 : xs.length ≤ 5) (hB : ∀ x ∈ xs, -(10 ^ 12) ≤ x ∧ x ≤ 10 ^ 12) (v : U) (h : NV v.1) (s : List Int) :
    (((F__law_are_sets xs v)).bind fun (r2271 : Str) => ((((((((F_is_sums_paper xs v)).bind fun (r2272 : Bool) => (((eqS r2271 ("" : Str)).map fun b => !b)).map fun (r2273 : Bool) => (r2272, r2273))).bind fun (p2274 : (Bool × Bool)) => (some (!decide (p2274.1 = p2274.2))))).bind fun a => if a = true then some true else (opB (dIn true (D.str r2271) ((eT2 D.str D.str) (("" : Str), kind xs)))))).bind fun (r2277 : Bool) => if r2277 = true then some (Fl.rt (false, s)) else (some (Fl.go s) : Option (Fl (List Int) (Bool × List Int)))) = some (Fl.go s) := by
  rw [f_law_are xs f h5 hB v h, Option.bind_some, f_is_paper xs f v h, Option.bind_some]
  have ko := kind_or xs
  by_cases hj : judg xs v.1 = true
  · have e : lawS xs v.1 = kind xs := by unfold lawS; rw [if_pos hj, judg_kind xs f v.1 h hj]
    rw [e, hj, eqS_of (sh_kind ko) sh_nil, Option.map_some, Option.map_some, Option.bind_some, decide_eq_false (kind_ne ko), Option.bind_some]
    have t : (!decide (true = !false)) = false := rfl
    rw [t, if_neg Bool.false_ne_true, in_two ko (.inr rfl), Option.bind_some, if_neg Bool.false_ne_true]
  · rw [Bool.not_eq_true] at hj
    have e : lawS xs v.1 = "" := by unfold lawS; rw [hj, if_neg Bool.false_ne_true]
    rw [e, hj, eqS_of sh_nil sh_nil, Option.map_some, Option.map_some, Option.bind_some, decide_eq_true rfl, Option.bind_some]
    have t : (!decide (false = !true)) = false := rfl
    rw [t, if_neg Bool.false_ne_true, in_two ko (.inl rfl), Option.bind_some, if_neg Bool.false_ne_true]
/-- the sums that are asked about -/
theorem told_NV (xs : List Int) (f : Fit xs) (h25 : gt0 xs 0 ≤ 25) : ∃ (s : Str) (y : D), (s = "lack" ∨ s = "sets") ∧ TyY y ∧ (∀ s', y ≠ .str s') ∧ told xs = .tup [.str s, y] ∧ (s = "sets" → ∃ rs : List (List Int), y = setD rs ∧ rs.length ≤ 10 ∧ ∀ r ∈ rs, r.length ≤ 25) := by
  obtain ⟨h2, h7, hb, h0, h30⟩ := f
  have hl := cin_len xs
  have hs := cin_sum xs (by omega) h7
  unfold told
  by_cases hk : lacks (cin xs) = []
  · rw [if_pos hk]
    have m := setsBy_mem (cin xs) (lacks_nil hk) 25 (by omega)
    refine ⟨"sets", _, .inr rfl, yy_r (rs := setsBy (cin xs)) (by omega) (fun r hr => by have := m.2 r hr; omega), (fun s' e => by cases e), rfl, fun _ => ⟨_, rfl, by omega, m.2⟩⟩
  · rw [if_neg hk]
    exact ⟨"lack", .int (gt0 (lacks (cin xs)) 0), .inl rfl, yy_f ⟨rfl, rfl⟩ (fun ds e => by cases e), (fun s' e => by cases e), rfl, fun e => absurd e ls_ne⟩
theorem right_ok' (N : Nat) (hN : N ≤ 30000) (c : List Int) (hc : CrL N c) : Ok (F__law_right c) fun r => r.1 = true ∧ CrL (N + 3000) r.2 := by
  unfold F__law_right
  obtain ⟨⟨v, c1⟩, e1, ⟨v0, v1⟩, h1⟩ := f_ladle (t := 11) hc (by omega) (by omega) (by omega)
  dsimp only at v0 v1 h1
  obtain ⟨n, rfl⟩ : ∃ u : Nat, v = u := ⟨v.toNat, by omega⟩
  rw [e1, Option.bind_some]
  dsimp only
  obtain ⟨⟨ss, c2⟩, e2, h2, l1, l2, hg⟩ := f_sets h1 (by omega) n 4 (by omega) (by omega)
  dsimp only at h2 l1 l2 hg
  rw [show (4 : Int) = ((4 : Nat) : Int) from rfl, e2, Option.bind_some]
  dsimp only
  rw [f_meets n ss (by omega) (by omega), Option.map_some, Option.bind_some, Option.map_some, Option.bind_some]
  dsimp only
  obtain ⟨⟨w, c3⟩, e3, ⟨w0, w1⟩, h3⟩ := f_ladle (t := 3) h2 (by omega) (by omega) (by omega)
  dsimp only at w0 w1 h3
  obtain ⟨m, rfl⟩ : ∃ u : Nat, w = u := ⟨w.toNat, by omega⟩
  rw [e3, Option.bind_some]
  dsimp only
  rw [rng1_nat (by omega), Option.map_some, Option.bind_some]
  dsimp only
  have cl := cby_len n ss
  have cb := cby_le n ss
  have sl : (sin (cby n ss)).length = ss.length + 1 := by rw [sin_len, cl]
  have sb := sin_le (xs := cby n ss) (B := 30) (by omega) (by omega) (fun x hx => by have := cb x hx; omega)
  have s0 : gt0 (sin (cby n ss)) 0 = n := by
    rw [← cin_sum _ (by omega) (by omega), cin_sin _ (by omega), cby_sum]
  generalize sin (cby n ss) = S at *
  refine Ok.bind (P := fun s : List Int × List Int => CrL (N + 310) s.1 ∧ s.2.length = ss.length + 1 ∧ gt0 s.2 0 ≤ 20 ∧ ∀ x ∈ s.2, -30000 ≤ x ∧ x ≤ 30000) ?_ ?_
  · refine Ok.mono (Ok.foldO (fun i s => CrL (N + 302 + 2 * i) s.1 ∧ s.2.length = ss.length + 1 ∧ gt0 s.2 0 ≤ n + 2 * i ∧ ∀ x ∈ s.2, -24000 - 2 * (i : Int) ≤ x ∧ x ≤ 24000 + 2 * (i : Int)) ⟨h3.mono (by omega), sl, by simp [s0], fun x hx => by have := sb x hx; simp; omega⟩ ?_) ?_
    · rintro j x ⟨c4, F⟩ hx ⟨g1, g2, g3, g4⟩
      obtain ⟨hj, rfl⟩ := at_rng hx
      dsimp only at g1 g2 g3 g4 ⊢
      obtain ⟨⟨a, c5⟩, e4, ⟨a0, a1⟩, h4⟩ := f_ladle (t := (F.length : Int)) g1 (by omega) (by omega) (by omega)
      dsimp only at a0 a1 h4
      obtain ⟨k, rfl⟩ : ∃ u : Nat, a = u := ⟨a.toNat, by omega⟩
      have hk : k < F.length := by omega
      obtain ⟨⟨b, c6⟩, e5, ⟨b0, b1⟩, h5⟩ := f_ladle (t := 5) h4 (by omega) (by omega) (by omega)
      dsimp only at b0 b1 h5
      rw [e4, Option.bind_some]
      dsimp only
      rw [atI_gt0 hk, Option.bind_some, e5, Option.map_some, Option.bind_some, Option.map_some, Option.bind_some, Option.map_some, Option.bind_some]
      dsimp only
      rw [setM_nat hk, Option.map_some, Option.map_some]
      have gk := g4 _ (show gt0 F k ∈ F by rw [getD_lt hk]; exact List.getElem_mem hk)
      refine ⟨_, rfl, h5.mono (by omega), by simpa using g2, ?_, ?_⟩
      · dsimp only
        rw [gt0_set hk]
        by_cases h : k = 0
        · subst h; rw [if_pos rfl]; omega
        · rw [if_neg h]; omega
      · intro x hx
        rcases List.mem_or_eq_of_mem_set hx with h | h
        · have := g4 x h; omega
        · omega
    · rintro ⟨c4, F⟩ ⟨g1, g2, g3, g4⟩
      rw [List.length_map, List.length_range] at g1 g3 g4
      exact ⟨g1.mono (by omega), g2, by dsimp only at g3 ⊢; omega, fun x hx => by have := g4 x hx; omega⟩
  rintro ⟨c4, F⟩ ⟨g1, g2, g3, g4⟩
  dsimp only at g1 g2 g3 g4 ⊢
  obtain ⟨x0, F', rfl⟩ : ∃ x0 F', F = x0 :: F' := by
    cases F with
    | nil => simp at g2
    | cons x F' => exact ⟨x, F', rfl⟩
  have a0 : atI (x0 :: F') 0 = some x0 := atI_gt0 (xs := x0 :: F') (k := 0) (by simp)
  have cu : cutD (x0 :: F') (some 1) none = F' := cutD_nat (xs := x0 :: F') 1
  simp only [List.length_cons] at g2
  rw [a0, Option.bind_some, Option.bind_some, cu, catM_l (by simp; omega), Option.bind_some, Option.bind_some]
  rw [List.singleton_append]
  generalize hxs : max 0 x0 :: F' = xs
  have xl : xs.length = ss.length + 1 := by rw [← hxs]; simp; omega
  have x00 : gt0 xs 0 = max 0 x0 := by rw [← hxs]; rfl
  have g30 : x0 ≤ 20 := g3
  have xb : ∀ x ∈ xs, -30000 ≤ x ∧ x ≤ 30000 := fun x hx => by
    rw [← hxs] at hx
    rcases List.mem_cons.mp hx with h | h
    · have := g4 x0 (by simp); omega
    · exact g4 x (by simp [h])
  have fit : Fit xs := ⟨by omega, by omega, fun x hx => by have := xb x hx; omega, by omega, by omega⟩
  have hB : ∀ x ∈ xs, -(10 ^ 12) ≤ x ∧ x ≤ 10 ^ 12 := fun x hx => by have := xb x hx; omega
  obtain ⟨mn, hm1, hm2⟩ := lacks_min (cs := cin xs) (by intro e; have := cin_len xs; rw [e] at this; simp at this; omega)
  rw [f_sums_paper xs fit, Option.bind_some, f_counts xs (by omega) (by omega) hB, Option.bind_some, hm1, Option.bind_some, Option.bind_some]
  have ek : (if decide (mn < 0) = true then some ("lack" : Str) else some ("sets" : Str)) = some (kind xs) := by
    unfold kind
    by_cases h : mn < 0
    · rw [decide_eq_true h, if_pos rfl, if_neg (hm2.mp h)]
    · have : lacks (cin xs) = [] := by
        by_cases q : lacks (cin xs) = []
        · exact q
        · exact absurd (hm2.mpr q) h
      rw [decide_eq_false h, if_neg Bool.false_ne_true, if_pos this]
  rw [ek, Option.bind_some]
  obtain ⟨s, y, hs, hy, hyn, ht, hsets⟩ := told_NV xs fit (by omega)
  have nv : NV (told xs) := by rw [ht]; exact nv_p ⟨rfl, rfl⟩ hy fun s' e => by cases e; exact hs
  obtain ⟨tj, tk⟩ := told_judg xs fit
  have ko := kind_or xs
  have el : lawS xs (told xs) = kind xs := by unfold lawS; rw [if_pos tj, tk]
  rw [f_law_are xs fit (by omega) hB ⟨told xs, told_nf xs⟩ nv, Option.bind_some, el, eqS_of (sh_kind ko) (sh_kind ko), Option.map_some, decide_eq_true rfl, Option.bind_some]
  rw [if_neg (by decide)]
  have hp : (⟨told xs, told_nf xs⟩ : U) = ⟨.tup [.str s, y], rfl⟩ := Subtype.ext ht
  obtain ⟨⟨L, c5⟩, e5, aL, h5⟩ := f_near (N + 310) (by omega) c4 g1 xs fit (by omega) (by omega) _ s y hs hy hyn hp hsets
  dsimp only at aL h5
  rw [e5, Option.bind_some]
  dsimp only
  refine Ok.orR (P := fun s => s = c5) (Ok.mono (Ok.forF (fun _ s => s = c5) rfl ?_) ?_) ?_
  · rintro j v s hv rfl
    exact ⟨_, one_value xs fit (by omega) hB v (aL v (List.mem_of_getElem? hv)) s, rfl⟩
  · intro o h
    cases o with
    | inl s => exact h
    | inr r => exact h
  · rintro s rfl
    exact ⟨_, rfl, rfl, h5.mono (by omega)⟩
end Law

set_option maxHeartbeats 4000000
namespace Law
open PySem L2 Tr
theorem law_ok (ns : List Int) : Ok (F_law ns) fun r => r = true := by
  unfold F_law
  obtain ⟨k, hk, hk3⟩ : ∃ k : Nat, (max 1 (min 3 (ns.length : Int))) = k ∧ k ≤ 3 := ⟨(max 1 (min 3 (ns.length : Int))).toNat, by omega, by omega⟩
  rw [hk, rng1_nat (by omega), Option.bind_some]
  refine Ok.orR (P := fun _ => True) (Ok.mono (Ok.forF (fun _ _ => True) trivial ?_) ?_) ?_
  · rintro j x s hx _
    obtain ⟨hj, rfl⟩ := at_rng hx
    refine Ok.bind (f_crock ns j (by omega)) fun c hc => ?_
    rw [show (4 : Int) = ((4 : Nat) : Int) from rfl, rng1_nat (by omega), Option.bind_some]
    refine Ok.orR (P := fun _ => True) (Ok.mono (Ok.forF (fun i s => CrL (i * 3000) s) (by simpa using hc) ?_) ?_) ?_
    · rintro i x s hx h
      have hi : i < 4 := by
        obtain ⟨h, _⟩ := List.getElem?_eq_some_iff.mp hx
        simpa using h
      obtain ⟨⟨b, c'⟩, e, h1, h2⟩ := right_ok' (i * 3000) (by omega) s h
      dsimp only at h1 h2
      rw [e, Option.bind_some, h1]
      exact ⟨_, rfl, h2.mono (by omega)⟩
    · intro o h
      cases o with
      | inl s => trivial
      | inr r => exact h.elim
    · intro s _
      exact ⟨_, rfl, trivial⟩
  · intro o h
    cases o with
    | inl s => trivial
    | inr r => exact h.elim
  · intro s _
    exact ⟨true, by decide +kernel, rfl⟩
theorem law_true (ns : List Int) (hns : ns.length ≤ 63) : ∃ ds' : List D, G_law [.scr ns] = .ok (.bl true) ds' := by
  obtain ⟨r, h, rfl⟩ := law_ok ns
  obtain ⟨ds', h1, _⟩ := sp_law ns [.scr ns] ⟨rfl, trivial⟩ true h
  exact ⟨ds', h1⟩
end Law

set_option maxHeartbeats 0

open PySem PySem.W PySem.Calls PyProof.Rows
theorem PySem.Challenge.cw_countwide_k70_whole_sets_or_a_lack_judge_holds : PySem.Challenge.rw_countwide_k70_whole_sets_or_a_lack_judge.Holds := by
  w_on; o_law
  refine HandSHeadRun.head_any (r := OpenLaw.row PySem.Challenge.rw_countwide_k70_whole_sets_or_a_lack_judge) (q := view (OpenLaw.row PySem.Challenge.rw_countwide_k70_whole_sets_or_a_lack_judge).prog [37]) (H := Law.hk) (ob := Law.hob) (M := 4000) (loose := Law.hloose) (d := HandSHeadRun.topDef (OpenLaw.row PySem.Challenge.rw_countwide_k70_whole_sets_or_a_lack_judge).prog 37) (kwd := []) Law.hob_eq
    (by kernel_rfl) (fun s => by kernel_rfl) Law.hrun (by kernel_rfl) (by kernel_rfl) (by kernel_rfl) (by rfl) (by first | assumption | decide +kernel) (by decide +kernel) ⟨rfl, rfl, rfl, rfl, rfl, by decide +kernel⟩ ?hw ?hc
  case hw => w_witness2
  case hc =>
    refine Tr.walk_trees (l := PySem.Challenge.rw_countwide_k70_whole_sets_or_a_lack_judge) (k := 6) (G := Law.G_law) rfl (by kernel_rfl) ⟨rfl, by decide, by decide⟩ ?_ Law.law_true
    intro w mg f h Y G hm0
    obtain ⟨K, KX, c⟩ := Y
    have hm : mg ("law" : PySem.Str) = some (.ref f) := by
      have e : (HandSHeadRun.topDef (OpenLaw.row PySem.Challenge.rw_countwide_k70_whole_sets_or_a_lack_judge).prog 37).name = ("law" : PySem.Str) := by kernel_rfl
      rw [← e]
      exact hm0
    obtain ⟨fd, hb, hF⟩ := Law.facts (P := (PySem.Challenge.rw_countwide_k70_whole_sets_or_a_lack_judge).prog) (w := w) KX G hm c
    exact ⟨K, fd, KX, hb, hF⟩


