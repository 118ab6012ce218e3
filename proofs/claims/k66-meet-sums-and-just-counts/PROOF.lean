import PyProof.Rows.All
import Wide.All
import OpenK.AllK
import Wide.FinOn
import HandS.ForMost
import HandS.ForExc
import HandS.Defaults
import HandS.CallSlots
import HandS.Wide
import HandS.Deep
import HandS.TupAny
import HandS.IsInst
import HandS.SetFor
import HandS.Zip
import HandS.Conv
import KE.KTupSum
import HandS.Style
import HandS.Head0
import HandS.Head1
import HandS.Head2
import HandS.HeadEnd
import HandS.HeadHook1
import HandS.HeadHook2
import PySem.Challenge.RW_countwide_k66_whole_meet_sums_and_just_c
set_option Elab.async false
set_option linter.all false
set_option maxRecDepth 100000
set_option maxHeartbeats 2000000
/-! The tree layer 1: values as trees, what is held. -/
namespace Tr
open PySem PySem.Spec PyProof.Rows L2

inductive KD where
  | k (x : Key) | t (xs : List Key)

/-- values as trees; o: owned by its holder alone -/
inductive D where
  | non | bl (b : Bool) | int (i : Int) | str (x : Str) | ty (n : String) | obj (a : Addr)
  | tup (ds : List D) | lst (o : Bool) (ds : List D) | scr (ns : List Int)
  | ins (o : Bool) (C : Addr) (ns : List Str) (ds : List D)

def D.flag : D → Bool
  | .lst o _ => o
  | .ins o _ _ _ => o
  | _ => false
mutual
def D.frz : D → D
  | .lst true ds => .lst false (frzL ds)
  | .ins true C ns ds => .ins false C ns (frzL ds)
  | d => d
def frzL : List D → List D
  | [] => []
  | d :: ds => d.frz :: frzL ds
end

abbrev AS := Addr → Prop
def LkL (K : PySem.W.Frag) (H : Hp) (a : Addr) (xs : List V) : Prop :=
  (∃ o, H a = some (.frz o (.lst xs))) ∨
    ∃ (o : Obj) (its : Array Value) (n : Nat), K.lookup a = some o ∧ o.cls = .type "list" ∧ o.dict = none ∧ o.data = .seq its n ∧ its.size ≤ sizeLine ∧ Vals xs its.toList
theorem LkL.seq {K : PySem.W.Frag} {H : Hp} {a : Addr} {xs : List V} (h : LkL K H a xs) : SqL K H a xs := by
  rcases h with ⟨o, h⟩ | h
  · exact .inl (.inr ⟨o, h⟩)
  · exact .inr h

def TkT (K : PySem.W.Frag) (H : Hp) (a : Addr) (xs : List V) : Prop :=
  H a = some (.tup xs) ∨
    ∃ (o : Obj) (its : Array Value) (n : Nat), K.lookup a = some o ∧ o.cls = .type "tuple" ∧ o.data = .seq its n ∧ its.size ≤ sizeLine ∧ Vals xs its.toList
theorem TkT.seq {K : PySem.W.Frag} {H : Hp} {a : Addr} {xs : List V} (h : TkT K H a xs) : SqT K H a xs := by
  rcases h with h | h
  · exact .inl (.inl h)
  · exact .inr h
mutual
def Rp (K : PySem.W.Frag) (Z : AS) (H : Hp) : D → V → List Addr → Prop
  | .non, v, fp => v = .non ∧ fp = []
  | .bl b, v, fp => v = .bl b ∧ fp = []
  | .int i, v, fp => v = .int i ∧ fp = []
  | .str x, v, fp => v = .str x ∧ fp = []
  | .ty n, v, fp => v = .ty n ∧ fp = []
  | .obj a, v, fp => v = .ref a ∧ fp = []
  | .tup ds, v, fp => fp = [] ∧ ∃ a vs, v = .ref a ∧ TkT K H a vs ∧ RpL K Z H ds vs []
  | .scr ns, v, fp => fp = [] ∧ ∃ a, v = .ref a ∧ LkL K H a (ns.map V.int)
  | .lst o ds, v, fp => (o = false ∧ fp = [] ∧ ∃ a vs, v = .ref a ∧ Z a ∧ H a = some (.lst vs) ∧ RpL K Z H ds vs []) ∨
      (o = true ∧ ∃ a vs fp', v = .ref a ∧ fp = a :: fp' ∧ ¬ Z a ∧ H a = some (.lst vs) ∧ RpL K Z H ds vs fp')
  | .ins o C ns ds, v, fp => (o = false ∧ fp = [] ∧ ∃ a dx fs, v = .ref a ∧ Z a ∧ H a = some (.ins C dx fs) ∧ fs.map (·.1) = ns ∧ ns.Nodup ∧ RpL K Z H ds (fs.map (·.2)) []) ∨
      (o = true ∧ ∃ a dx fs fp', v = .ref a ∧ fp = a :: fp' ∧ ¬ Z a ∧ H a = some (.ins C dx fs) ∧ fs.map (·.1) = ns ∧ ns.Nodup ∧ RpL K Z H ds (fs.map (·.2)) fp')
def RpL (K : PySem.W.Frag) (Z : AS) (H : Hp) : List D → List V → List Addr → Prop
  | [], vs, fp => vs = [] ∧ fp = []
  | d :: ds, vs, fp => ∃ v vr f1 f2, vs = v :: vr ∧ fp = f1 ++ f2 ∧ Rp K Z H d v f1 ∧ RpL K Z H ds vr f2
end

theorem RpL_nil {K : PySem.W.Frag} {Z : AS} {H : Hp} {vs : List V} {fp : List Addr} : RpL K Z H [] vs fp ↔ vs = [] ∧ fp = [] := Iff.rfl
theorem RpL_cons {K : PySem.W.Frag} {Z : AS} {H : Hp} {d : D} {ds : List D} {vs : List V} {fp : List Addr} : RpL K Z H (d :: ds) vs fp ↔ ∃ v vr f1 f2, vs = v :: vr ∧ fp = f1 ++ f2 ∧ Rp K Z H d v f1 ∧ RpL K Z H ds vr f2 := Iff.rfl
theorem Rp_non {K : PySem.W.Frag} {Z : AS} {H : Hp} {v : V} {fp : List Addr} : Rp K Z H .non v fp ↔ v = .non ∧ fp = [] := Iff.rfl
theorem Rp_bl {K : PySem.W.Frag} {Z : AS} {H : Hp} {v : V} {fp : List Addr} {b : Bool} : Rp K Z H (.bl b) v fp ↔ v = .bl b ∧ fp = [] := Iff.rfl
theorem Rp_int {K : PySem.W.Frag} {Z : AS} {H : Hp} {v : V} {fp : List Addr} {i : Int} : Rp K Z H (.int i) v fp ↔ v = .int i ∧ fp = [] := Iff.rfl
theorem Rp_str {K : PySem.W.Frag} {Z : AS} {H : Hp} {v : V} {fp : List Addr} {x : Str} : Rp K Z H (.str x) v fp ↔ v = .str x ∧ fp = [] := Iff.rfl
theorem Rp_ty {K : PySem.W.Frag} {Z : AS} {H : Hp} {v : V} {fp : List Addr} {n : String} : Rp K Z H (.ty n) v fp ↔ v = .ty n ∧ fp = [] := Iff.rfl
theorem Rp_obj {K : PySem.W.Frag} {Z : AS} {H : Hp} {v : V} {fp : List Addr} {a : Addr} : Rp K Z H (.obj a) v fp ↔ v = .ref a ∧ fp = [] := Iff.rfl
theorem Rp_tup {K : PySem.W.Frag} {Z : AS} {H : Hp} {v : V} {fp : List Addr} {ds : List D} : Rp K Z H (.tup ds) v fp ↔ fp = [] ∧ ∃ a vs, v = .ref a ∧ TkT K H a vs ∧ RpL K Z H ds vs [] := Iff.rfl
theorem Rp_scr {K : PySem.W.Frag} {Z : AS} {H : Hp} {v : V} {fp : List Addr} {ns : List Int} : Rp K Z H (.scr ns) v fp ↔ fp = [] ∧ ∃ a, v = .ref a ∧ LkL K H a (ns.map V.int) := Iff.rfl
theorem Rp_lst {K : PySem.W.Frag} {Z : AS} {H : Hp} {v : V} {fp : List Addr} {o : Bool} {ds : List D} : Rp K Z H (.lst o ds) v fp ↔ (o = false ∧ fp = [] ∧ ∃ a vs, v = .ref a ∧ Z a ∧ H a = some (.lst vs) ∧ RpL K Z H ds vs []) ∨
      (o = true ∧ ∃ a vs fp', v = .ref a ∧ fp = a :: fp' ∧ ¬ Z a ∧ H a = some (.lst vs) ∧ RpL K Z H ds vs fp') := Iff.rfl
theorem Rp_ins {K : PySem.W.Frag} {Z : AS} {H : Hp} {v : V} {fp : List Addr} {o : Bool} {C : Addr} {ns : List Str} {ds : List D} : Rp K Z H (.ins o C ns ds) v fp ↔ (o = false ∧ fp = [] ∧ ∃ a dx fs, v = .ref a ∧ Z a ∧ H a = some (.ins C dx fs) ∧ fs.map (·.1) = ns ∧ ns.Nodup ∧ RpL K Z H ds (fs.map (·.2)) []) ∨
      (o = true ∧ ∃ a dx fs fp', v = .ref a ∧ fp = a :: fp' ∧ ¬ Z a ∧ H a = some (.ins C dx fs) ∧ fs.map (·.1) = ns ∧ ns.Nodup ∧ RpL K Z H ds (fs.map (·.2)) fp') := Iff.rfl

/-- never changed -/
def Stab : HO → Prop
  | .tup _ => True
  | .frz _ _ => True
  | _ => False
section
variable {K : PySem.W.Frag} {Z Z' : AS} {H H' : Hp}
theorem TkT.keep {a : Addr} {xs : List V} (h : TkT K H a xs) (k : ∀ a o, H a = some o → Stab o → H' a = some o) : TkT K H' a xs := by
  rcases h with h | h
  · exact .inl (k _ _ h trivial)
  · exact .inr h
theorem LkL.keep {a : Addr} {xs : List V} (h : LkL K H a xs) (k : ∀ a o, H a = some o → Stab o → H' a = some o) : LkL K H' a xs := by
  rcases h with ⟨o, h⟩ | h
  · exact .inl ⟨o, k _ _ h trivial⟩
  · exact .inr h
/- what is kept is held on -/
mutual
theorem Rp.keep (kz : ∀ a, Z a → Z' a) (ks : ∀ a o, H a = some o → Stab o → H' a = some o) (kh : ∀ a o, H a = some o → Z a → H' a = some o) :
    ∀ (d : D) (v : V) (fp : List Addr), (∀ a ∈ fp, ¬ Z' a ∧ ∀ o, H a = some o → H' a = some o) → Rp K Z H d v fp → Rp K Z' H' d v fp
  | .non, v, fp, _, h => by simp only [Rp] at h ⊢; exact h
  | .bl b, v, fp, _, h => by simp only [Rp] at h ⊢; exact h
  | .int i, v, fp, _, h => by simp only [Rp] at h ⊢; exact h
  | .str x, v, fp, _, h => by simp only [Rp] at h ⊢; exact h
  | .ty n, v, fp, _, h => by simp only [Rp] at h ⊢; exact h
  | .obj a, v, fp, _, h => by simp only [Rp] at h ⊢; exact h
  | .scr ns, v, fp, _, h => by
    simp only [Rp] at h ⊢
    obtain ⟨e, a, ev, q⟩ := h
    exact ⟨e, a, ev, q.keep ks⟩
  | .tup ds, v, fp, kf, h => by
    simp only [Rp] at h ⊢
    obtain ⟨e, a, vs, ev, q, r⟩ := h
    exact ⟨e, a, vs, ev, q.keep ks, RpL.keep kz ks kh ds vs [] (fun a h => nomatch h) r⟩
  | .lst o ds, v, fp, kf, h => by
    simp only [Rp] at h ⊢
    rcases h with ⟨e, e2, a, vs, ev, za, q, r⟩ | ⟨e, a, vs, fp', ev, e2, za, q, r⟩
    · exact .inl ⟨e, e2, a, vs, ev, kz a za, kh a _ q za, RpL.keep kz ks kh ds vs [] (fun a h => nomatch h) r⟩
    · subst e2
      exact .inr ⟨e, a, vs, fp', ev, rfl, (kf a List.mem_cons_self).1, (kf a List.mem_cons_self).2 _ q, RpL.keep kz ks kh ds vs fp' (fun b hb => kf b (List.mem_cons_of_mem _ hb)) r⟩
  | .ins o C ns ds, v, fp, kf, h => by
    simp only [Rp] at h ⊢
    rcases h with ⟨e, e2, a, dx, fs, ev, za, q, en, nd, r⟩ | ⟨e, a, dx, fs, fp', ev, e2, za, q, en, nd, r⟩
    · exact .inl ⟨e, e2, a, dx, fs, ev, kz a za, kh a _ q za, en, nd, RpL.keep kz ks kh ds _ [] (fun a h => nomatch h) r⟩
    · subst e2
      exact .inr ⟨e, a, dx, fs, fp', ev, rfl, (kf a List.mem_cons_self).1, (kf a List.mem_cons_self).2 _ q, en, nd, RpL.keep kz ks kh ds _ fp' (fun b hb => kf b (List.mem_cons_of_mem _ hb)) r⟩
theorem RpL.keep (kz : ∀ a, Z a → Z' a) (ks : ∀ a o, H a = some o → Stab o → H' a = some o) (kh : ∀ a o, H a = some o → Z a → H' a = some o) :
    ∀ (ds : List D) (vs : List V) (fp : List Addr), (∀ a ∈ fp, ¬ Z' a ∧ ∀ o, H a = some o → H' a = some o) → RpL K Z H ds vs fp → RpL K Z' H' ds vs fp
  | [], vs, fp, _, h => by simp only [RpL] at h ⊢; exact h
  | d :: ds, vs, fp, kf, h => by
    simp only [RpL] at h ⊢
    obtain ⟨v, vr, f1, f2, e1, e2, r1, r2⟩ := h
    subst e2
    exact ⟨v, vr, f1, f2, e1, rfl, Rp.keep kz ks kh d v f1 (fun a ha => kf a (List.mem_append_left _ ha)) r1, RpL.keep kz ks kh ds vr f2 (fun a ha => kf a (List.mem_append_right _ ha)) r2⟩
end
/- what is held, frozen -/
mutual
theorem Rp.frz (kz : ∀ a, Z a → Z' a) : ∀ (d : D) (v : V) (fp : List Addr), (∀ a ∈ fp, Z' a) → Rp K Z H d v fp → Rp K Z' H d.frz v []
  | .non, v, fp, _, h => by have h := Rp_non.mp h; refine Rp_non.mpr ?_; exact ⟨h.1, rfl⟩
  | .bl b, v, fp, _, h => by have h := Rp_bl.mp h; refine Rp_bl.mpr ?_; exact ⟨h.1, rfl⟩
  | .int i, v, fp, _, h => by have h := Rp_int.mp h; refine Rp_int.mpr ?_; exact ⟨h.1, rfl⟩
  | .str x, v, fp, _, h => by have h := Rp_str.mp h; refine Rp_str.mpr ?_; exact ⟨h.1, rfl⟩
  | .ty n, v, fp, _, h => by have h := Rp_ty.mp h; refine Rp_ty.mpr ?_; exact ⟨h.1, rfl⟩
  | .obj a, v, fp, _, h => by have h := Rp_obj.mp h; refine Rp_obj.mpr ?_; exact ⟨h.1, rfl⟩
  | .scr ns, v, fp, _, h => by
    have h := Rp_scr.mp h; refine Rp_scr.mpr ?_
    exact ⟨rfl, h.2⟩
  | .tup ds, v, fp, _, h => by
    have h := Rp_tup.mp h; refine Rp_tup.mpr ?_
    obtain ⟨e, a, vs, ev, q, r⟩ := h
    have r' := RpL.keep kz (fun _ _ q _ => q) (fun _ _ q _ => q) ds vs [] (fun a h => nomatch h) r
    exact ⟨rfl, a, vs, ev, q, r'⟩
  | .lst true ds, v, fp, kf, h => by
    have h := Rp_lst.mp h; refine Rp_lst.mpr ?_
    rcases h with ⟨e, _⟩ | ⟨e, a, vs, fp', ev, e2, za, q, r⟩
    · cases e
    · subst e2
      exact .inl ⟨rfl, rfl, a, vs, ev, kf a List.mem_cons_self, q, RpL.frz kz ds vs fp' (fun b hb => kf b (List.mem_cons_of_mem _ hb)) r⟩
  | .lst false ds, v, fp, kf, h => by
    have h := Rp_lst.mp h; refine Rp_lst.mpr ?_
    rcases h with ⟨e, e2, a, vs, ev, za, q, r⟩ | ⟨e, _⟩
    · exact .inl ⟨rfl, rfl, a, vs, ev, kz a za, q, RpL.keep kz (fun _ _ q _ => q) (fun _ _ q _ => q) ds vs [] (fun a h => nomatch h) r⟩
    · cases e
  | .ins true C ns ds, v, fp, kf, h => by
    have h := Rp_ins.mp h; refine Rp_ins.mpr ?_
    rcases h with ⟨e, _⟩ | ⟨e, a, dx, fs, fp', ev, e2, za, q, en, nd, r⟩
    · cases e
    · subst e2
      exact .inl ⟨rfl, rfl, a, dx, fs, ev, kf a List.mem_cons_self, q, en, nd, RpL.frz kz ds _ fp' (fun b hb => kf b (List.mem_cons_of_mem _ hb)) r⟩
  | .ins false C ns ds, v, fp, kf, h => by
    have h := Rp_ins.mp h; refine Rp_ins.mpr ?_
    rcases h with ⟨e, e2, a, dx, fs, ev, za, q, en, nd, r⟩ | ⟨e, _⟩
    · exact .inl ⟨rfl, rfl, a, dx, fs, ev, kz a za, q, en, nd, RpL.keep kz (fun _ _ q _ => q) (fun _ _ q _ => q) ds _ [] (fun a h => nomatch h) r⟩
    · cases e
theorem RpL.frz (kz : ∀ a, Z a → Z' a) : ∀ (ds : List D) (vs : List V) (fp : List Addr), (∀ a ∈ fp, Z' a) → RpL K Z H ds vs fp → RpL K Z' H (frzL ds) vs []
  | [], vs, fp, _, h => by simp only [RpL, frzL] at h ⊢; first | exact ⟨h.1, trivial⟩ | exact ⟨h.1, rfl⟩ | exact h.1
  | d :: ds, vs, fp, kf, h => by
    obtain ⟨v, vr, f1, f2, e1, e2, r1, r2⟩ := RpL_cons.mp h
    subst e2
    refine RpL_cons.mpr ⟨v, vr, [], [], e1, rfl, Rp.frz kz d v f1 (fun a ha => kf a (List.mem_append_left _ ha)) r1, RpL.frz kz ds vr f2 (fun a ha => kf a (List.mem_append_right _ ha)) r2⟩
end
mutual
theorem Rp.fp : ∀ (d : D) (v : V) (fp : List Addr), Rp K Z H d v fp → ∀ a ∈ fp, ¬ Z a ∧ ∃ o, H a = some o ∧ ¬ Stab o
  | .non, v, fp, h, a, ha => by simp only [Rp] at h; rw [h.2] at ha; cases ha
  | .bl b, v, fp, h, a, ha => by simp only [Rp] at h; rw [h.2] at ha; cases ha
  | .int i, v, fp, h, a, ha => by simp only [Rp] at h; rw [h.2] at ha; cases ha
  | .str x, v, fp, h, a, ha => by simp only [Rp] at h; rw [h.2] at ha; cases ha
  | .ty n, v, fp, h, a, ha => by simp only [Rp] at h; rw [h.2] at ha; cases ha
  | .obj _, v, fp, h, a, ha => by simp only [Rp] at h; rw [h.2] at ha; cases ha
  | .scr ns, v, fp, h, a, ha => by simp only [Rp] at h; rw [h.1] at ha; cases ha
  | .tup ds, v, fp, h, a, ha => by simp only [Rp] at h; rw [h.1] at ha; cases ha
  | .lst o ds, v, fp, h, b, hb => by
    simp only [Rp] at h
    rcases h with ⟨e, e2, _⟩ | ⟨e, a, vs, fp', ev, e2, za, q, r⟩
    · rw [e2] at hb; cases hb
    · subst e2
      rcases List.mem_cons.mp hb with rfl | hb
      · exact ⟨za, _, q, fun z => z⟩
      · exact RpL.fp ds vs fp' r b hb
  | .ins o C ns ds, v, fp, h, b, hb => by
    simp only [Rp] at h
    rcases h with ⟨e, e2, _⟩ | ⟨e, a, dx, fs, fp', ev, e2, za, q, en, nd, r⟩
    · rw [e2] at hb; cases hb
    · subst e2
      rcases List.mem_cons.mp hb with rfl | hb
      · exact ⟨za, _, q, fun z => z⟩
      · exact RpL.fp ds _ fp' r b hb
theorem RpL.fp : ∀ (ds : List D) (vs : List V) (fp : List Addr), RpL K Z H ds vs fp → ∀ a ∈ fp, ¬ Z a ∧ ∃ o, H a = some o ∧ ¬ Stab o
  | [], vs, fp, h, a, ha => by simp only [RpL] at h; rw [h.2] at ha; cases ha
  | d :: ds, vs, fp, h, a, ha => by
    simp only [RpL] at h
    obtain ⟨v, vr, f1, f2, e1, e2, r1, r2⟩ := h
    subst e2
    rcases List.mem_append.mp ha with ha | ha
    · exact Rp.fp d v f1 r1 a ha
    · exact RpL.fp ds vr f2 r2 a ha
end
theorem Rp.noflag {d : D} {v : V} {fp : List Addr} (h : Rp K Z H d v fp) (hf : d.flag = false) : fp = [] := by
  cases d <;> simp only [Rp, D.flag] at h hf <;> first
    | exact h.2
    | exact h.1
    | (subst hf; rcases h with ⟨_, e, _⟩ | ⟨e, _⟩; exact e; cases e)
theorem RpL.noflag : ∀ {ds : List D} {vs : List V} {fp : List Addr}, RpL K Z H ds vs fp → (∀ d ∈ ds, d.flag = false) → fp = []
  | [], vs, fp, h, _ => by simp only [RpL] at h; exact h.2
  | d :: ds, vs, fp, h, hf => by
    simp only [RpL] at h
    obtain ⟨v, vr, f1, f2, e1, e2, r1, r2⟩ := h
    rw [e2, r1.noflag (hf d List.mem_cons_self), RpL.noflag r2 fun x hx => hf x (List.mem_cons_of_mem _ hx)]
    rfl
theorem RpL.length : ∀ {ds : List D} {vs : List V} {fp : List Addr}, RpL K Z H ds vs fp → vs.length = ds.length
  | [], vs, fp, h => by rw [(RpL_nil.mp h).1]; rfl
  | d :: ds, vs, fp, h => by
    obtain ⟨v, vr, f1, f2, e1, e2, r1, r2⟩ := RpL_cons.mp h
    subst e1
    simp [RpL.length r2]
theorem RpL.app : ∀ {ds es : List D} {vs ws : List V} {f g : List Addr}, RpL K Z H ds vs f → RpL K Z H es ws g → RpL K Z H (ds ++ es) (vs ++ ws) (f ++ g)
  | [], es, vs, ws, f, g, h, r => by
    simp only [RpL] at h
    rw [h.1, h.2]; exact r
  | d :: ds, es, vs, ws, f, g, h, r => by
    simp only [RpL] at h
    obtain ⟨v, vr, f1, f2, e1, e2, r1, r2⟩ := h
    subst e1 e2
    show RpL K Z H (d :: (ds ++ es)) (v :: (vr ++ ws)) _
    simp only [RpL]
    exact ⟨v, vr ++ ws, f1, f2 ++ g, rfl, by simp, r1, RpL.app r2 r⟩
theorem RpL.cut : ∀ {ds es : List D} {vs : List V} {f : List Addr}, RpL K Z H (ds ++ es) vs f → ∃ v1 v2 f1 f2, vs = v1 ++ v2 ∧ f = f1 ++ f2 ∧ RpL K Z H ds v1 f1 ∧ RpL K Z H es v2 f2
  | [], es, vs, f, h => ⟨[], vs, [], f, rfl, rfl, by simp [RpL], h⟩
  | d :: ds, es, vs, f, h => by
    have h : RpL K Z H (d :: (ds ++ es)) vs f := h
    simp only [RpL] at h
    obtain ⟨v, vr, g1, g2, e1, e2, r1, r2⟩ := h
    obtain ⟨v1, v2, f1, f2, e3, e4, q1, q2⟩ := RpL.cut r2
    subst e1 e2 e3 e4
    refine ⟨v :: v1, v2, g1 ++ f1, f2, rfl, by simp, ?_, q2⟩
    simp only [RpL]
    exact ⟨v, v1, g1, f1, rfl, rfl, r1, q1⟩
/-- where none is owned, each can be read -/
theorem RpL.at : ∀ {ds : List D} {vs : List V} {fp : List Addr} {i : Nat} {d : D}, RpL K Z H ds vs fp → ds[i]? = some d → ∃ v f, vs[i]? = some v ∧ Rp K Z H d v f ∧ ∀ a ∈ f, a ∈ fp
  | [], vs, fp, i, d, h, e => by simp at e
  | d :: ds, vs, fp, 0, d', h, e => by
    simp only [RpL] at h
    obtain ⟨v, vr, f1, f2, e1, e2, r1, r2⟩ := h
    simp at e
    subst e e1 e2
    exact ⟨v, f1, rfl, r1, fun a ha => List.mem_append_left _ ha⟩
  | d :: ds, vs, fp, i + 1, d', h, e => by
    simp only [RpL] at h
    obtain ⟨v, vr, f1, f2, e1, e2, r1, r2⟩ := h
    subst e1 e2
    obtain ⟨w, f, q1, q2, q3⟩ := RpL.at (i := i) r2 (by simpa using e)
    exact ⟨w, f, by simpa using q1, q2, fun a ha => List.mem_append_right _ (q3 a ha)⟩
end

/-! ### what is held: a bag of values with their trees -/
abbrev Bag := List (V × D)
def RpB (K : PySem.W.Frag) (Z : AS) (H : Hp) (L : Bag) (M : List Addr) : Prop := RpL K Z H (L.map (·.2)) (L.map (·.1)) M
structure Hold (K : PySem.W.Frag) (ex : List Addr) (Z : AS) (H : Hp) (L : Bag) : Prop where
  rp : ∃ M, RpB K Z H L M ∧ M.Nodup ∧ ∀ a ∈ ex, a ∉ M
  ez : ∀ a ∈ ex, ¬ Z a ∧ ∀ o, H a = some o → ¬ Stab o
  zd : ∀ a, Z a → H a ≠ none
section
variable {K : PySem.W.Frag} {Z Z' : AS} {H H' : Hp} {ex : List Addr} {L L' : Bag}
theorem RpB.perm (p : L.Perm L') : ∀ {M : List Addr}, RpB K Z H L M → ∃ M', RpB K Z H L' M' ∧ M.Perm M' := by
  induction p with
  | nil => exact fun {M} h => ⟨M, h, .refl _⟩
  | @cons x l l' _ ih =>
    intro M h
    simp only [RpB, List.map_cons, RpL] at h
    obtain ⟨v, vr, f1, f2, e1, e2, r1, r2⟩ := h
    obtain ⟨rfl, rfl⟩ := List.cons.inj e1
    subst e2
    obtain ⟨M', q, p'⟩ := ih r2
    refine ⟨f1 ++ M', ?_, p'.append_left f1⟩
    simp only [RpB, List.map_cons, RpL]
    exact ⟨x.1, _, f1, M', rfl, rfl, r1, q⟩
  | swap x y l =>
    intro M h
    simp only [RpB, List.map_cons, RpL] at h
    obtain ⟨v, vr, f1, f2, e1, e2, r1, v', vr', g1, g2, e3, e4, r3, r4⟩ := h
    obtain ⟨rfl, rfl⟩ := List.cons.inj e1
    obtain ⟨rfl, rfl⟩ := List.cons.inj e3
    subst e2 e4
    refine ⟨g1 ++ (f1 ++ g2), ?_, ?_⟩
    · simp only [RpB, List.map_cons, RpL]
      exact ⟨_, _, g1, f1 ++ g2, rfl, rfl, r3, _, _, f1, g2, rfl, rfl, r1, r4⟩
    · rw [← List.append_assoc, ← List.append_assoc]
      exact List.Perm.append_right g2 List.perm_append_comm
  | trans _ _ ih1 ih2 =>
    intro M h
    obtain ⟨M1, q1, p1⟩ := ih1 h
    obtain ⟨M2, q2, p2⟩ := ih2 q1
    exact ⟨M2, q2, p1.trans p2⟩
theorem Hold.perm (h : Hold K ex Z H L) (p : L.Perm L') : Hold K ex Z H L' := by
  obtain ⟨M, r, nd, ne⟩ := h.rp
  obtain ⟨M', r', p'⟩ := RpB.perm p r
  exact ⟨⟨M', r', p'.nodup_iff.mp nd, fun a ha hm => ne a ha (p'.mem_iff.mpr hm)⟩, h.ez, h.zd⟩
theorem RpB.cons {x : V × D} {M : List Addr} : RpB K Z H (x :: L) M ↔ ∃ f1 f2, M = f1 ++ f2 ∧ Rp K Z H x.2 x.1 f1 ∧ RpB K Z H L f2 := by
  simp only [RpB, List.map_cons, RpL]
  constructor
  · rintro ⟨v, vr, f1, f2, e1, e2, r1, r2⟩
    obtain ⟨rfl, rfl⟩ := List.cons.inj e1
    exact ⟨f1, f2, e2, r1, r2⟩
  · rintro ⟨f1, f2, e2, r1, r2⟩
    exact ⟨_, _, f1, f2, rfl, e2, r1, r2⟩
theorem Hold.tail {x : V × D} (h : Hold K ex Z H (x :: L)) : Hold K ex Z H L := by
  obtain ⟨M, r, nd, ne⟩ := h.rp
  obtain ⟨f1, f2, e, _, r2⟩ := RpB.cons.mp r
  subst e
  exact ⟨⟨f2, r2, (List.nodup_append.mp nd).2.1, fun a ha hm => ne a ha (List.mem_append_right _ hm)⟩, h.ez, h.zd⟩
theorem Hold.drop {L1 : Bag} (h : Hold K ex Z H (L1 ++ L)) : Hold K ex Z H L := by
  induction L1 with
  | nil => exact h
  | cons x L1 ih => exact ih h.tail
theorem Hold.sub (h : Hold K ex Z H L) (s : ∃ L1, (L1 ++ L').Perm L) : Hold K ex Z H L' := by
  obtain ⟨L1, p⟩ := s
  exact (h.perm p.symm).drop
theorem Hold.less {a : Addr} (h : Hold K (a :: ex) Z H L) : Hold K ex Z H L := by
  obtain ⟨M, r, nd, ne⟩ := h.rp
  exact ⟨⟨M, r, nd, fun b hb => ne b (List.mem_cons_of_mem _ hb)⟩, fun b hb => h.ez b (List.mem_cons_of_mem _ hb), h.zd⟩
/-- a shared thing is held twice -/
theorem Hold.dup {v : V} {d : D} (h : Hold K ex Z H ((v, d) :: L)) (hf : d.flag = false) : Hold K ex Z H ((v, d) :: (v, d) :: L) := by
  obtain ⟨M, r, nd, ne⟩ := h.rp
  obtain ⟨f1, f2, e, r1, r2⟩ := RpB.cons.mp r
  have e1 : f1 = [] := r1.noflag hf
  subst e1
  subst e
  exact ⟨⟨[] ++ ([] ++ _), RpB.cons.mpr ⟨[], _, rfl, r1, RpB.cons.mpr ⟨[], _, rfl, r1, r2⟩⟩, nd, ne⟩, h.ez, h.zd⟩
theorem Hold.rep {v : V} {d : D} (h : Hold K ex Z H ((v, d) :: L)) : ∃ fp, Rp K Z H d v fp := by
  obtain ⟨M, r, nd, ne⟩ := h.rp
  obtain ⟨f1, f2, e, r1, r2⟩ := RpB.cons.mp r
  exact ⟨f1, r1⟩
/-- a shared thing that may be read besides -/
theorem Hold.add {v : V} {d : D} (h : Hold K ex Z H L) (r : Rp K Z H d v []) : Hold K ex Z H ((v, d) :: L) := by
  obtain ⟨M, q, nd, ne⟩ := h.rp
  exact ⟨⟨[] ++ M, RpB.cons.mpr ⟨[], M, rfl, r, q⟩, nd, ne⟩, h.ez, h.zd⟩
theorem Hold.freeze {v : V} {d : D} (h : Hold K ex Z H ((v, d) :: L)) : ∃ Z', (∀ a, Z a → Z' a) ∧ Hold K ex Z' H ((v, d.frz) :: L) := by
  obtain ⟨M, r, nd, ne⟩ := h.rp
  obtain ⟨f1, f2, e, r1, r2⟩ := RpB.cons.mp r
  subst e
  have nd2 := List.nodup_append.mp nd
  refine ⟨fun a => Z a ∨ a ∈ f1, fun a z => .inl z, ⟨f2, ?_, nd2.2.1, fun a ha hm => ne a ha (List.mem_append_right _ hm)⟩, fun a ha => ⟨fun z => ?_, (h.ez a ha).2⟩, fun a z => ?_⟩
  · refine RpB.cons.mpr ⟨[], _, rfl, Rp.frz (fun a z => .inl z) d v f1 (fun a z => .inr z) r1, ?_⟩
    refine RpL.keep (fun a z => .inl z) (fun _ _ q _ => q) (fun _ _ q _ => q) _ _ f2 (fun a ha => ⟨fun z => ?_, fun _ q => q⟩) r2
    rcases z with z | z
    · exact (RpL.fp _ _ _ r2 a ha).1 z
    · exact nd2.2.2 a z a ha rfl
  · rcases z with z | z
    · exact (h.ez a ha).1 z
    · exact ne a ha (List.mem_append_left _ z)
  · rcases z with z | z
    · exact h.zd a z
    · obtain ⟨_, o, q, _⟩ := Rp.fp d v f1 r1 a z
      rw [q]
      exact fun q => nomatch q
/-! ### objects made and changed: taken in hand, then laid down -/
/-- a new address is in hand -/
theorem Hold.new {p : Addr} (h : Hold K ex Z H L) (hp : H p = none) : Hold K (p :: ex) Z H L := by
  obtain ⟨M, r, nd, ne⟩ := h.rp
  refine ⟨⟨M, r, nd, fun a ha hm => ?_⟩, fun a ha => ?_, h.zd⟩
  · rcases List.mem_cons.mp ha with rfl | ha
    · obtain ⟨_, o, q, _⟩ := RpL.fp _ _ _ r a hm
      rw [hp] at q; cases q
    · exact ne a ha hm
  · rcases List.mem_cons.mp ha with rfl | ha
    · exact ⟨fun z => h.zd a z hp, fun o q => by rw [hp] at q; cases q⟩
    · exact h.ez a ha
/-- the heap changes at what is in hand alone -/
theorem Hold.at {p : Addr} {o : HO} (h : Hold K (p :: ex) Z H L) (hns : ¬ Stab o) : Hold K (p :: ex) Z (upd H p o) L := by
  obtain ⟨M, r, nd, ne⟩ := h.rp
  have hz := h.ez p List.mem_cons_self
  have k : ∀ a u, a ≠ p → H a = some u → upd H p o a = some u := fun a u n q => by rw [upd_ne n]; exact q
  refine ⟨⟨M, ?_, nd, ne⟩, fun a ha => ⟨(h.ez a ha).1, fun u q => ?_⟩, fun a z => ?_⟩
  · refine RpL.keep (fun a z => z) (fun a u q s => k a u (fun e => ?_) q) (fun a u q z => k a u (fun e => ?_) q) _ _ M (fun a ha => ⟨(RpL.fp _ _ _ r a ha).1, fun u q => k a u (fun e => ?_) q⟩) r
    · subst e; exact hz.2 u q s
    · subst e; exact hz.1 z
    · subst e; exact ne a List.mem_cons_self ha
  · by_cases e : a = p
    · subst e; rw [upd_same] at q; cases q; exact hns
    · rw [upd_ne e] at q; exact (h.ez a ha).2 u q
  · by_cases e : a = p
    · subst e; rw [upd_same]; exact fun q => nomatch q
    · rw [upd_ne e]; exact h.zd a z
/-- the heap grows elsewhere (or changes where nothing is held) -/
theorem Hold.grow {p : Addr} {o : HO} (h : Hold K ex Z H L) (hp : H p = none) (hns : ¬ Stab o) : Hold K ex Z (upd H p o) L := ((h.new hp).at hns).less
theorem Hold.growS {p : Addr} {o : HO} (h : Hold K [] Z H L) (hp : H p = none) : Hold K [] Z (upd H p o) L := by
  obtain ⟨M, r, nd, ne⟩ := h.rp
  have k : ∀ a u, H a = some u → upd H p o a = some u := fun a u q => by rw [upd_ne (ne_of_none q hp)]; exact q
  refine ⟨⟨M, RpL.keep (fun a z => z) (fun a u q s => k a u q) (fun a u q z => k a u q) _ _ M (fun a ha => ⟨(RpL.fp _ _ _ r a ha).1, fun u q => k a u q⟩) r, nd, ne⟩, (fun a ha => absurd ha (by simp)), fun a z => ?_⟩
  by_cases e : a = p
  · subst e; rw [upd_same]; exact fun q => nomatch q
  · rw [upd_ne e]; exact h.zd a z
theorem RpB.app {L1 : Bag} {M : List Addr} : RpB K Z H (L1 ++ L) M ↔ ∃ f1 f2, M = f1 ++ f2 ∧ RpB K Z H L1 f1 ∧ RpB K Z H L f2 := by
  induction L1 generalizing M with
  | nil =>
    constructor
    · exact fun h => ⟨[], M, rfl, ⟨rfl, rfl⟩, h⟩
    · rintro ⟨f1, f2, e, ⟨_, e1⟩, r⟩
      subst e e1
      exact r
  | cons x L1 ih =>
    show RpB K Z H (x :: (L1 ++ L)) M ↔ _
    rw [RpB.cons]
    constructor
    · rintro ⟨f1, f2, e, r1, r2⟩
      obtain ⟨g1, g2, e2, q1, q2⟩ := ih.mp r2
      subst e e2
      exact ⟨f1 ++ g1, g2, by simp, RpB.cons.mpr ⟨f1, g1, rfl, r1, q1⟩, q2⟩
    · rintro ⟨f1, f2, e, r1, r2⟩
      obtain ⟨g1, g2, e2, q1, q2⟩ := RpB.cons.mp r1
      subst e e2
      exact ⟨g1, g2 ++ f2, by simp, q1, ih.mpr ⟨g2, f2, rfl, q2, r2⟩⟩
/-- an owned list is taken in hand -/
theorem Hold.takeL {v : V} {ds : List D} (h : Hold K ex Z H ((v, .lst true ds) :: L)) : ∃ a vs, v = .ref a ∧ H a = some (.lst vs) ∧ vs.length = ds.length ∧ Hold K (a :: ex) Z H (vs.zip ds ++ L) := by
  obtain ⟨M, r, nd, ne⟩ := h.rp
  obtain ⟨f1, f2, e, r1, r2⟩ := RpB.cons.mp r
  subst e
  simp only [Rp] at r1
  rcases r1 with ⟨e, _⟩ | ⟨_, a, vs, fp', ev, e2, za, q, r3⟩
  · cases e
  subst e2
  have hl := r3.length
  have hb : RpB K Z H (vs.zip ds) fp' := by
    show RpL K Z H ((vs.zip ds).map (·.2)) ((vs.zip ds).map (·.1)) fp'
    have e1 : (vs.zip ds).map (·.2) = ds := by rw [← List.unzip_snd, List.unzip_zip hl]
    have e2 : (vs.zip ds).map (·.1) = vs := by rw [← List.unzip_fst, List.unzip_zip hl]
    rw [e1, e2]; exact r3
  have nd' : (a :: (fp' ++ f2)).Nodup := nd
  have ndc := List.nodup_cons.mp nd'
  refine ⟨a, vs, ev, q, hl, ⟨fp' ++ f2, RpB.app.mpr ⟨fp', f2, rfl, hb, r2⟩, ndc.2, fun b hb hm => ?_⟩, fun b hb => ?_, h.zd⟩
  · rcases List.mem_cons.mp hb with rfl | hb
    · exact ndc.1 hm
    · exact ne b hb (List.mem_cons_of_mem _ hm)
  · rcases List.mem_cons.mp hb with rfl | hb
    · exact ⟨za, fun o e => by rw [q] at e; cases e; exact fun z => z⟩
    · exact h.ez b hb
/-- a list is laid down -/
theorem Hold.layL {p : Addr} {vs : List V} {ds : List D} (h : Hold K (p :: ex) Z H (vs.zip ds ++ L)) (hl : vs.length = ds.length) (hx : p ∉ ex) : Hold K ex Z (upd H p (.lst vs)) ((.ref p, .lst true ds) :: L) := by
  have h' := h.at (o := .lst vs) (fun z => z)
  obtain ⟨M, r, nd, ne⟩ := h'.rp
  obtain ⟨f1, f2, e, r1, r2⟩ := RpB.app.mp r
  subst e
  have e1 : (vs.zip ds).map (·.2) = ds := by rw [← List.unzip_snd, List.unzip_zip hl]
  have e2 : (vs.zip ds).map (·.1) = vs := by rw [← List.unzip_fst, List.unzip_zip hl]
  have r1' : RpL K Z (upd H p (.lst vs)) ds vs f1 := by
    have q : RpL K Z (upd H p (.lst vs)) ((vs.zip ds).map (·.2)) ((vs.zip ds).map (·.1)) f1 := r1
    rw [e1, e2] at q; exact q
  refine ⟨⟨p :: (f1 ++ f2), ?_, List.nodup_cons.mpr ⟨ne p List.mem_cons_self, nd⟩, fun a ha hm => ?_⟩, fun a ha => h'.ez a (List.mem_cons_of_mem _ ha), h'.zd⟩
  · refine RpB.cons.mpr ⟨p :: f1, f2, rfl, ?_, r2⟩
    exact Rp_lst.mpr (.inr ⟨rfl, p, vs, f1, rfl, rfl, (h'.ez p List.mem_cons_self).1, upd_same, r1'⟩)
  · rcases List.mem_cons.mp hm with rfl | hm
    · exact hx ha
    · exact ne a (List.mem_cons_of_mem _ ha) hm
/-- a tuple is made -/
theorem Hold.mkTup {p : Addr} {vs : List V} {ds : List D} (h : Hold K [] Z H (vs.zip ds ++ L)) (hp : H p = none) (hl : vs.length = ds.length) (hf : ∀ d ∈ ds, d.flag = false) : Hold K [] Z (upd H p (.tup vs)) ((.ref p, .tup ds) :: L) := by
  have h' := h.growS (o := .tup vs) hp
  obtain ⟨M, r, nd, ne⟩ := h'.rp
  obtain ⟨f1, f2, e, r1, r2⟩ := RpB.app.mp r
  subst e
  have e1 : (vs.zip ds).map (·.2) = ds := by rw [← List.unzip_snd, List.unzip_zip hl]
  have e2 : (vs.zip ds).map (·.1) = vs := by rw [← List.unzip_fst, List.unzip_zip hl]
  have r1' : RpL K Z (upd H p (.tup vs)) ds vs f1 := by
    have q : RpL K Z (upd H p (.tup vs)) ((vs.zip ds).map (·.2)) ((vs.zip ds).map (·.1)) f1 := r1
    rw [e1, e2] at q; exact q
  have e0 : f1 = [] := RpL.noflag r1' hf
  subst e0
  refine ⟨⟨f2, RpB.cons.mpr ⟨[], f2, rfl, ?_, r2⟩, nd, ne⟩, h'.ez, h'.zd⟩
  exact Rp_tup.mpr ⟨rfl, p, vs, rfl, .inl upd_same, r1'⟩
end
end Tr

set_option maxHeartbeats 2000000
/-! The tree layer 2: a frame's slots, the judgements. -/
namespace Tr
abbrev Sg := L2.St
open PySem PySem.Spec PyProof.Rows L2

abbrev DE := List (Option D)
def slots : Sg → DE → Bag
  | x :: σ, some d :: e => (x.getD .non, d) :: slots σ e
  | _ :: σ, none :: e => slots σ e
  | _, _ => []
def fits : Sg → DE → Prop
  | [], [] => True
  | x :: σ, some _ :: e => (∃ v, x = some v) ∧ fits σ e
  | _ :: σ, none :: e => fits σ e
  | _, _ => False
structure SR (K : PySem.W.Frag) (Z : AS) (H : Hp) (σ : Sg) (e : DE) (tmp : Bag) : Prop where
  fit : fits σ e
  hold : Hold K [] Z H (slots σ e ++ tmp)
theorem fits.len : ∀ {σ : Sg} {e : DE}, fits σ e → σ.length = e.length
  | [], [], _ => rfl
  | x :: σ, some _ :: e, h => by simp [fits.len h.2]
  | x :: σ, none :: e, h => by simp [fits.len (σ := σ) (e := e) h]
  | [], _ :: _, h => h.elim
  | _ :: _, [], h => h.elim
/-- a slot is emptied -/
theorem slot_out : ∀ {σ : Sg} {e : DE} {i : Nat} {d : D}, fits σ e → e[i]? = some (some d) → ∃ v, σ[i]? = some (some v) ∧ fits σ (e.set i none) ∧ (slots σ e).Perm ((v, d) :: slots σ (e.set i none))
  | [], [], i, d, _, h => by simp at h
  | [], _ :: _, _, _, h, _ => h.elim
  | _ :: _, [], _, _, h, _ => h.elim
  | x :: σ, some d' :: e, 0, d, h, hi => by
    simp at hi
    subst hi
    obtain ⟨⟨v, rfl⟩, h2⟩ := h
    exact ⟨v, rfl, h2, .refl _⟩
  | x :: σ, none :: e, 0, d, h, hi => by simp at hi
  | x :: σ, some d' :: e, i + 1, d, h, hi => by
    obtain ⟨v, h1, h2, h3⟩ := slot_out (i := i) h.2 (by simpa using hi)
    refine ⟨v, by simpa using h1, ⟨h.1, h2⟩, ?_⟩
    show ((x.getD .non, d') :: slots σ e).Perm ((v, d) :: (x.getD .non, d') :: slots σ (e.set i none))
    exact (h3.cons _).trans (List.Perm.swap _ _ _)
  | x :: σ, none :: e, i + 1, d, h, hi => by
    obtain ⟨v, h1, h2, h3⟩ := slot_out (i := i) (σ := σ) (e := e) h (by simpa using hi)
    exact ⟨v, by simpa using h1, h2, h3⟩
/-- an empty slot is filled -/
theorem slot_in : ∀ {σ : Sg} {e : DE} {i : Nat} {v : V} {d : D}, fits σ e → e[i]? = some none → fits (σ.set i (some v)) (e.set i (some d)) ∧ (slots (σ.set i (some v)) (e.set i (some d))).Perm ((v, d) :: slots σ e)
  | [], [], i, v, d, _, h => by simp at h
  | [], _ :: _, _, _, _, h, _ => h.elim
  | _ :: _, [], _, _, _, h, _ => h.elim
  | x :: σ, some d' :: e, 0, v, d, h, hi => by simp at hi
  | x :: σ, none :: e, 0, v, d, h, hi => ⟨⟨⟨v, rfl⟩, h⟩, .refl _⟩
  | x :: σ, some d' :: e, i + 1, v, d, h, hi => by
    obtain ⟨h2, h3⟩ := slot_in (i := i) (v := v) (d := d) h.2 (by simpa using hi)
    refine ⟨⟨h.1, h2⟩, ?_⟩
    show ((x.getD .non, d') :: slots _ _).Perm ((v, d) :: (x.getD .non, d') :: slots σ e)
    exact (h3.cons _).trans (List.Perm.swap _ _ _)
  | x :: σ, none :: e, i + 1, v, d, h, hi => slot_in (i := i) (σ := σ) (e := e) (v := v) (d := d) h (by simpa using hi)
theorem set_same {α : Type} : ∀ {l : List α} {i : Nat} {x : α}, l[i]? = some x → l.set i x = l
  | [], _, _, h => by simp at h
  | _ :: _, 0, _, h => by simp at h; subst h; rfl
  | _ :: l, i + 1, x, h => by
    show _ :: l.set i x = _
    rw [set_same (by simpa using h)]
section
variable {K : PySem.W.Frag} {Z Z' : AS} {H H' : Hp} {σ σ' : Sg} {e e' : DE} {tmp tmp' : Bag} {i : Nat} {v : V} {d : D}
theorem SR.out (h : SR K Z H σ e tmp) (hi : e[i]? = some (some d)) : ∃ v, σ[i]? = some (some v) ∧ SR K Z H σ (e.set i none) ((v, d) :: tmp) := by
  obtain ⟨v, h1, h2, h3⟩ := slot_out h.fit hi
  refine ⟨v, h1, h2, h.hold.perm ?_⟩
  exact (h3.append_right tmp).trans (List.perm_middle (a := (v, d))).symm
theorem SR.put (h : SR K Z H σ e ((v, d) :: tmp)) (hi : e[i]? = some none) : SR K Z H (σ.set i (some v)) (e.set i (some d)) tmp := by
  obtain ⟨h1, h2⟩ := slot_in (v := v) (d := d) h.fit hi
  exact ⟨h1, h.hold.perm ((List.perm_middle (a := (v, d))).trans (h2.symm.append_right tmp))⟩
theorem SR.back (h : SR K Z H σ e ((v, d) :: tmp)) (hi : e[i]? = some none) (hv : σ[i]? = some (some v)) : SR K Z H σ (e.set i (some d)) tmp := by
  have q := h.put hi
  rwa [set_same hv] at q
/-- a slot's holding is dropped -/
theorem SR.clear (h : SR K Z H σ e tmp) (i : Nat) : SR K Z H σ (e.set i none) tmp := by
  cases hi : e[i]? with
  | none =>
    have : e.length ≤ i := List.getElem?_eq_none_iff.mp hi
    rw [List.set_eq_of_length_le this]; exact h
  | some x =>
    cases x with
    | none => rw [set_same hi]; exact h
    | some d =>
      obtain ⟨v, h1, h2⟩ := h.out hi
      exact ⟨h2.fit, h2.hold.sub ⟨[(v, d)], (List.perm_middle (l₁ := slots σ (e.set i none)) (l₂ := tmp) (a := (v, d))).symm⟩⟩
theorem SR.assign (h : SR K Z H σ e ((v, d) :: tmp)) (hi : i < e.length) : SR K Z H (σ.set i (some v)) (e.set i (some d)) tmp := by
  have q := (h.clear i).put (i := i) (by rw [List.getElem?_set_self hi])
  rwa [List.set_set] at q
theorem SR.perm (h : SR K Z H σ e tmp) (p : tmp.Perm tmp') : SR K Z H σ e tmp' := ⟨h.fit, h.hold.perm (p.append_left _)⟩
theorem SR.tail {x : V × D} (h : SR K Z H σ e (x :: tmp)) : SR K Z H σ e tmp := ⟨h.fit, (h.hold.perm (List.perm_middle (a := x))).tail⟩
theorem SR.drop {l : Bag} (h : SR K Z H σ e (l ++ tmp)) : SR K Z H σ e tmp := by
  induction l with
  | nil => exact h
  | cons x l ih => exact ih h.tail
theorem SR.take {l : Bag} (h : SR K Z H σ e (tmp ++ l)) : SR K Z H σ e tmp := (h.perm List.perm_append_comm).drop
theorem SR.bag (h : SR K Z H σ e tmp) : Hold K [] Z H (tmp ++ slots σ e) := h.hold.perm List.perm_append_comm
theorem SR.of (f : fits σ e) (h : Hold K [] Z H (tmp ++ slots σ e)) : SR K Z H σ e tmp := ⟨f, h.perm List.perm_append_comm⟩
theorem SR.rd (h : SR K Z H σ e tmp) (hi : e[i]? = some (some d)) : ∃ v fp, σ[i]? = some (some v) ∧ Rp K Z H d v fp := by
  obtain ⟨v, h1, h2⟩ := h.out hi
  obtain ⟨fp, r⟩ := h2.bag.rep
  exact ⟨v, fp, h1, r⟩
theorem SR.freeze (h : SR K Z H σ e ((v, d) :: tmp)) : ∃ Z', SR K Z' H σ e ((v, d.frz) :: tmp) := by
  obtain ⟨Z', _, q⟩ := Hold.freeze h.bag
  exact ⟨Z', .of h.fit q⟩
end

/-! ### results -/
/-- what is wanted of an exception, at the slots -/
abbrev XW := Sg → XK
structure Exn where
  cls : Addr
  arg : Option (Str × D)
inductive Rs (α : Type) where
  | ok (a : α) | exn (x : Exn) | stuck
inductive Res (α : Type) where
  | ok (a : α) (e : DE) | exn (x : Exn) (e : DE) | stuck
def Res.bind {α β : Type} (r : Res α) (k : α → DE → Res β) : Res β := match r with
  | .ok a e => k a e
  | .exn x e => .exn x e
  | .stuck => .stuck
def Rs.at {α : Type} (r : Rs α) (e : DE) : Res α := match r with
  | .ok a => .ok a e
  | .exn x => .exn x e
  | .stuck => .stuck
inductive SRes where
  | nx (e : DE) | rt (d : D) (e : DE) | bk (e : DE) | ct (e : DE) | exn (x : Exn) (e : DE) | stuck
def Res.toS {α : Type} (r : Res α) (k : α → DE → SRes) : SRes := match r with
  | .ok a e => k a e
  | .exn x e => .exn x e
  | .stuck => .stuck
@[simp] theorem Res.bind_ok {α β : Type} (a : α) (e : DE) (k : α → DE → Res β) : (Res.ok a e).bind k = k a e := (rfl)
@[simp] theorem Res.bind_exn {α β : Type} (x : Exn) (e : DE) (k : α → DE → Res β) : (Res.exn x e).bind k = .exn x e := (rfl)
@[simp] theorem Res.bind_stuck {α β : Type} (k : α → DE → Res β) : (Res.stuck : Res α).bind k = .stuck := (rfl)
@[simp] theorem Res.toS_ok {α : Type} (a : α) (e : DE) (k : α → DE → SRes) : (Res.ok a e).toS k = k a e := (rfl)
@[simp] theorem Res.toS_exn {α : Type} (x : Exn) (e : DE) (k : α → DE → SRes) : (Res.exn x e : Res α).toS k = .exn x e := (rfl)
@[simp] theorem Res.toS_stuck {α : Type} (k : α → DE → SRes) : (Res.stuck : Res α).toS k = .stuck := (rfl)
@[simp] theorem Rs.at_ok {α : Type} (a : α) (e : DE) : (Rs.ok a).at e = .ok a e := (rfl)
@[simp] theorem Rs.at_exn {α : Type} (x : Exn) (e : DE) : (Rs.exn x : Rs α).at e = .exn x e := (rfl)
@[simp] theorem Rs.at_stuck {α : Type} (e : DE) : (Rs.stuck : Rs α).at e = .stuck := (rfl)

def XR (K : PySem.W.Frag) (Z : AS) (H : Hp) (x : Exn) (c : Value) (o : Option Addr) : Prop :=
  c = .ref x.cls ∧ match x.arg with
    | none => o = none
    | some (n, d) => ∃ a v, o = some a ∧ H a = some (.xd [(n, v)]) ∧ Rp K Z H d v []

/-- an operand: a value at hand, or a slot that is read late -/
inductive L where
  | v (d : D) | s (i : Nat)
def lget : L → DE → Option D
  | .v d, _ => some d
  | .s i, e => e.getD i none
def lbag : L → V → Bag
  | .v d, x => [(x, d)]
  | .s _, _ => []
def lok (σ : Sg) : L → V → Prop
  | .v _, _ => True
  | .s i, x => σ[i]? = some (some x)
theorem getD_some {e : DE} {i : Nat} {d : D} (h : e.getD i none = some d) : e[i]? = some (some d) := by
  rw [List.getD_eq_getElem?_getD] at h
  cases q : e[i]? with
  | none => rw [q] at h; cases h
  | some x => rw [q] at h; exact congrArg some h

section
variable {K : PySem.W.Frag} {Z : AS} {H : Hp} {σ : Sg} {e : DE} {tmp : Bag}
theorem lread {l : L} {v : V} {d : D} (h : SR K Z H σ e (lbag l v ++ tmp)) (k : lok σ l v) (g : lget l e = some d) : ∃ fp, Rp K Z H d v fp := by
  cases l with
  | v d' =>
    cases g
    exact Hold.rep (L := tmp ++ slots σ e) h.bag
  | s i =>
    have h : SR K Z H σ e tmp := h
    obtain ⟨w, fp, q, r⟩ := h.rd (getD_some g)
    have k : σ[i]? = some (some v) := k
    rw [k] at q
    cases q
    exact ⟨fp, r⟩
end

def PostE (K : PySem.W.Frag) (W : XW) (σ : Sg) (tmp : Bag) (Q : VK) : Res D → Prop
  | .ok d e' => ∀ Z' H' v, SR K Z' H' σ e' ((v, d) :: tmp) → Q v H'
  | .exn x e' => ∀ Z' H' c o, SR K Z' H' σ e' tmp → XR K Z' H' x c o → W σ c o H'
  | .stuck => False
def PostX (K : PySem.W.Frag) (W : XW) (σ : Sg) (tmp : Bag) (Q : VK) : Res L → Prop
  | .ok l e' => ∀ Z' H' v, SR K Z' H' σ e' (lbag l v ++ tmp) → lok σ l v → Q v H'
  | .exn x e' => ∀ Z' H' c o, SR K Z' H' σ e' tmp → XR K Z' H' x c o → W σ c o H'
  | .stuck => False
def PostT (K : PySem.W.Frag) (W : XW) (σ : Sg) (tmp : Bag) (Q : Bool → Hp → Prop) : Res Bool → Prop
  | .ok b e' => ∀ Z' H', SR K Z' H' σ e' tmp → Q b H'
  | .exn x e' => ∀ Z' H' c o, SR K Z' H' σ e' tmp → XR K Z' H' x c o → W σ c o H'
  | .stuck => False
def lbags : List L → List V → Bag
  | l :: ls, v :: vs => lbag l v ++ lbags ls vs
  | _, _ => []
def loks (σ : Sg) : List L → List V → Prop
  | l :: ls, v :: vs => lok σ l v ∧ loks σ ls vs
  | [], [] => True
  | _, _ => False
def PostA (K : PySem.W.Frag) (W : XW) (σ : Sg) (tmp : Bag) (Q : List V → Hp → Prop) : Res (List L) → Prop
  | .ok ls e' => ∀ Z' H' vs, SR K Z' H' σ e' (lbags ls vs ++ tmp) → loks σ ls vs → Q vs H'
  | .exn x e' => ∀ Z' H' c o, SR K Z' H' σ e' tmp → XR K Z' H' x c o → W σ c o H'
  | .stuck => False
def Fx (fx : List Nat) (σ σ' : Sg) : Prop := ∀ i ∈ fx, σ'[i]? = σ[i]?
theorem Fx.refl {fx : List Nat} {σ : Sg} : Fx fx σ σ := fun _ _ => rfl
theorem Fx.trans {fx : List Nat} {σ σ1 σ2 : Sg} (a : Fx fx σ σ1) (b : Fx fx σ1 σ2) : Fx fx σ σ2 := fun i hi => (b i hi).trans (a i hi)
def PostS (K : PySem.W.Frag) (W : XW) (fx : List Nat) (σ : Sg) (tmp : Bag) (D : Ends) : SRes → Prop
  | .nx e' => ∀ Z' H' σ', SR K Z' H' σ' e' tmp → Fx fx σ σ' → D.nx σ' H'
  | .rt d e' => ∀ Z' H' σ' v, SR K Z' H' σ' e' ((v, d) :: tmp) → Fx fx σ σ' → D.rt v H'
  | .bk e' => ∀ Z' H' σ', SR K Z' H' σ' e' tmp → Fx fx σ σ' → D.bk σ' H'
  | .ct e' => ∀ Z' H' σ', SR K Z' H' σ' e' tmp → Fx fx σ σ' → D.ct σ' H'
  | .exn x e' => ∀ Z' H' σ' c o, SR K Z' H' σ' e' tmp → Fx fx σ σ' → XR K Z' H' x c o → W σ' c o H'
  | .stuck => False

def SndE (K : PySem.W.Frag) (W : XW) (t : TE) (f : DE → Res D) : Prop := ∀ Z σ H e tmp Q, SR K Z H σ e tmp → PostE K W σ tmp Q (f e) → t σ H Q
def SndX (K : PySem.W.Frag) (W : XW) (t : TE) (f : DE → Res L) : Prop := ∀ Z σ H e tmp Q, SR K Z H σ e tmp → PostX K W σ tmp Q (f e) → t σ H Q
def SndT (K : PySem.W.Frag) (W : XW) (t : TT) (f : DE → Res Bool) : Prop := ∀ Z σ H e tmp Q, SR K Z H σ e tmp → PostT K W σ tmp Q (f e) → t σ H Q
def SndA (K : PySem.W.Frag) (W : XW) (t : TA) (f : DE → Res (List L)) : Prop := ∀ Z σ H e tmp Q, SR K Z H σ e tmp → PostA K W σ tmp Q (f e) → t σ H Q
def SndS (K : PySem.W.Frag) (W : XW) (fx : List Nat) (t : TS) (f : DE → SRes) : Prop := ∀ Z σ H e tmp D, SR K Z H σ e tmp → PostS K W fx σ tmp D (f e) → t D σ H

structure VE (X : Cx) (W : XW) (e : Expr) (f : DE → Res D) : Prop where
  ex : ∃ t, PE X e t ∧ SndE X.K W t f
structure VX (X : Cx) (W : XW) (e : Expr) (f : DE → Res L) : Prop where
  ex : ∃ t, PE X e t ∧ SndX X.K W t f
structure VT (X : Cx) (W : XW) (e : Expr) (f : DE → Res Bool) : Prop where
  ex : ∃ t, PT X e t ∧ SndT X.K W t f
structure VW (X : Cx) (W : XW) (e : Expr) (f : DE → Res Bool) : Prop where
  ex : ∃ t, PW X e t ∧ SndT X.K W t f
structure VA (X : Cx) (W : XW) (es : List Expr) (f : DE → Res (List L)) : Prop where
  ex : ∃ t, PA X es t ∧ SndA X.K W t f
  len : ∀ e ls e1, f e = .ok ls e1 → ls.length = es.length
structure VS (X : Cx) (W : XW) (fx : List Nat) (st : Stmt) (f : DE → SRes) : Prop where
  ex : ∃ t, PS X st t ∧ SndS X.K W fx t f
structure VSs (X : Cx) (W : XW) (fx : List Nat) (st : List Stmt) (f : DE → SRes) : Prop where
  ex : ∃ t, PSs X st t ∧ SndS X.K W fx t f

/-! ### the operators, by values -/
def PostV (K : PySem.W.Frag) (W : XK) (B : Bag) (Q : VK) : Rs D → Prop
  | .ok d => ∀ Z' H' v, Hold K [] Z' H' ((v, d) :: B) → Q v H'
  | .exn x => ∀ Z' H' c o, Hold K [] Z' H' B → XR K Z' H' x c o → W c o H'
  | .stuck => False
def OpS (K : PySem.W.Frag) (r : R2) (g : D → D → Rs D) : Prop :=
  ∀ Z H B Q W d1 v1 f1 d2 v2 f2, Hold K [] Z H B → Rp K Z H d1 v1 f1 → Rp K Z H d2 v2 f2 → PostV K W B Q (g d1 d2) → r v1 v2 H Q
def UnS (K : PySem.W.Frag) (r : V → Hp → VK → Prop) (g : D → Rs D) : Prop :=
  ∀ Z H B Q W d1 v1 f1, Hold K [] Z H B → Rp K Z H d1 v1 f1 → PostV K W B Q (g d1) → r v1 H Q
inductive RpF (K : PySem.W.Frag) (Z : AS) (H : Hp) : List D → List V → Prop where
  | nil : RpF K Z H [] []
  | cons {d v fp ds vs} (h : Rp K Z H d v fp) (t : RpF K Z H ds vs) : RpF K Z H (d :: ds) (v :: vs)
def CallS (K : PySem.W.Frag) (r : List V → Hp → VK → Prop) (g : List D → Rs D) : Prop :=
  ∀ Z H B Q W ds vs, Hold K [] Z H B → RpF K Z H ds vs → PostV K W B Q (g ds) → r vs H Q

theorem PostV.to {K : PySem.W.Frag} {W : XW} {σ : Sg} {e : DE} {tmp1 tmp : Bag} {Q : VK} {r : Rs D} (f : fits σ e) (h : PostE K W σ tmp Q (r.at e)) : PostV K (W σ) (tmp1 ++ tmp ++ slots σ e) Q r := by
  cases r with
  | ok d =>
    intro Z' H' v q
    refine h Z' H' v (.of f ?_)
    refine q.sub ⟨tmp1, ?_⟩
    simp only [List.cons_append, List.append_assoc]
    exact List.perm_middle
  | exn x => exact fun Z' H' c o q xr => h Z' H' c o (.of f (Hold.drop (by rw [List.append_assoc] at q; exact q))) xr
  | stuck => exact h

def eOp2 (g : D → D → Rs D) (fa fb : DE → Res L) : DE → Res D := fun e => (fa e).bind fun la e1 => (fb e1).bind fun lb e2 => match lget la e2, lget lb e2 with
  | some da, some db => (g da db).at e2
  | _, _ => .stuck
section
variable {X : Cx} {W : XW} {a b c : Expr} {fa fb fc : DE → Res L} {pos : Pos}
theorem snd_op2 {K : PySem.W.Frag} {ta tb : TE} {r : R2} {g : D → D → Rs D} (ha : SndX K W ta fa) (hb : SndX K W tb fb) (hr : OpS K r g) : SndE K W (tOp r ta tb) (eOp2 g fa fb) := by
  intro Z σ H e tmp Q sr po
  refine ha Z σ H e tmp _ sr ?_
  unfold eOp2 at po
  cases h1 : fa e with
  | stuck => rw [h1] at po; exact po
  | exn x e1 => rw [h1] at po; exact po
  | ok la e1 =>
    rw [h1] at po
    intro Z1 H1 v1 sr1 k1
    refine hb Z1 σ H1 e1 (lbag la v1 ++ tmp) _ sr1 ?_
    have po : PostE K W σ tmp Q ((fb e1).bind _) := po
    cases h2 : fb e1 with
    | stuck => rw [h2] at po; exact po
    | exn x e2 => rw [h2] at po; exact fun Z' H' c o q xr => po Z' H' c o q.drop xr
    | ok lb e2 =>
      rw [h2] at po
      intro Z2 H2 v2 sr2 k2
      have po : PostE K W σ tmp Q (match lget la e2, lget lb e2 with
        | some da, some db => (g da db).at e2
        | _, _ => .stuck) := po
      cases ga : lget la e2 with
      | none => rw [ga] at po; exact po.elim
      | some da =>
        cases gb : lget lb e2 with
        | none => rw [ga, gb] at po; exact po.elim
        | some db =>
          rw [ga, gb] at po
          obtain ⟨f2, r2⟩ := lread sr2 k2 gb
          have sr3 : SR K Z2 H2 σ e2 (lbag la v1 ++ (lbag lb v2 ++ tmp)) := sr2.perm (by
            rw [← List.append_assoc, ← List.append_assoc]
            exact List.Perm.append_right _ List.perm_append_comm)
          obtain ⟨f1, r1⟩ := lread sr3 k1 ga
          refine hr Z2 H2 ((lbag la v1 ++ lbag lb v2) ++ tmp ++ slots σ e2) Q (W σ) da v1 f1 db v2 f2 ?_ r1 r2 (PostV.to sr2.fit po)
          have q := sr3.bag
          rw [← List.append_assoc] at q
          exact q
theorem ve_op {op : Operator} {r : R2} {g : D → D → Rs D} (ho : OpR X (binaryOp op) r) (hr : OpS X.K r g) (ha : VX X W a fa) (hb : VX X W b fb) : VE X W (.BinOp a op b pos) (eOp2 g fa fb) := by
  obtain ⟨ta, pa, sa⟩ := ha.ex
  obtain ⟨tb, pb, sb⟩ := hb.ex
  exact ⟨_, pe_op ho pa pb, snd_op2 sa sb hr⟩
theorem ve_cmp {op : CmpOp} {r : R2} {g : D → D → Rs D} (ho : OpR X (compareOp op) r) (hr : OpS X.K r g) (ha : VX X W a fa) (hb : VX X W b fb) (hm : behindInMarks op b = false) : VE X W (.Compare a [op] [b] pos) (eOp2 g fa fb) := by
  obtain ⟨ta, pa, sa⟩ := ha.ex
  obtain ⟨tb, pb, sb⟩ := hb.ex
  exact ⟨_, pe_cmpR ho pa pb hm, snd_op2 sa sb hr⟩
end
end Tr

set_option maxHeartbeats 2000000
/-! The tree layer 3: calls of own defs. -/
namespace Tr
open PySem PySem.Spec PyProof.Rows L2

/-! ### a def's promise -/
inductive FR where
  | ok (d : D) (ds : List D) | exn (x : Exn) (ds : List D) | stuck
def PostF (K : PySem.W.Frag) (vs : List V) (tmp : Bag) (Q : VK) (E : XK) : FR → Prop
  | .ok d ds' => ∀ Z' H' v, Hold K [] Z' H' ((v, d) :: (vs.zip ds' ++ tmp)) → Q v H'
  | .exn x ds' => ∀ Z' H' c o, Hold K [] Z' H' (vs.zip ds' ++ tmp) → XR K Z' H' x c o → E c o H'
  | .stuck => False
def spG (K : PySem.W.Frag) (n : Nat) (G : List D → FR) : Sp := fun vs H Q E =>
  ∃ Z ds tmp, ds.length = n ∧ vs.length = n ∧ Hold K [] Z H (vs.zip ds ++ tmp) ∧ PostF K vs tmp Q E (G ds)

def take : List L → DE → Option (List D × DE)
  | [], e => some ([], e)
  | .v d :: ls, e => (take ls e).map fun p => (d :: p.1, p.2)
  | .s i :: ls, e => match e.getD i none with
    | some d => if d.flag = true then (take ls (e.set i none)).map fun p => (d :: p.1, p.2) else (take ls e).map fun p => (d :: p.1, p.2)
    | none => none
def give : List L → List D → List D → DE → DE
  | .s i :: ls, d :: ds, d' :: ds', e => if d.flag = true then (give ls ds ds' e).set i (some d') else give ls ds ds' e
  | .v _ :: ls, _ :: ds, _ :: ds', e => give ls ds ds' e
  | _, _, _, e => e
section
variable {K : PySem.W.Frag} {Z : AS} {H : Hp} {σ : Sg}
theorem zip_mid {v : V} {d : D} {vs : List V} {ds : List D} {tmp : Bag} : (vs.zip ds ++ (v, d) :: tmp).Perm ((v :: vs).zip (d :: ds) ++ tmp) := List.perm_middle
theorem SR.add {e : DE} {tmp : Bag} {v : V} {d : D} (h : SR K Z H σ e tmp) (r : Rp K Z H d v []) : SR K Z H σ e ((v, d) :: tmp) := .of h.fit (h.bag.add r)
theorem RpF.length {ds : List D} {vs : List V} (h : RpF K Z H ds vs) : vs.length = ds.length := by
  induction h with
  | nil => rfl
  | cons _ _ ih => simp [ih]
theorem zip_cut {α β : Type} : ∀ (vs ws : List α) (es : List β), (vs ++ ws).zip es = vs.zip es ++ ws.zip (es.drop vs.length)
  | [], ws, es => rfl
  | v :: vs, ws, [] => by simp
  | v :: vs, ws, e :: es => by
    show (v, e) :: (vs ++ ws).zip es = (v, e) :: (vs.zip es ++ ws.zip (es.drop vs.length))
    rw [zip_cut vs ws es]
theorem take_ok : ∀ {ls : List L} {vs : List V} {e e' : DE} {ds : List D} {tmp : Bag}, SR K Z H σ e (lbags ls vs ++ tmp) → loks σ ls vs → take ls e = some (ds, e') → SR K Z H σ e' (vs.zip ds ++ tmp) ∧ vs.length = ds.length
  | [], [], e, e', ds, tmp, h, _, t => by
    simp only [take, Option.some.injEq, Prod.mk.injEq] at t
    obtain ⟨rfl, rfl⟩ := t
    exact ⟨h, rfl⟩
  | [], _ :: _, _, _, _, _, _, k, _ => k.elim
  | .v d :: ls, [], _, _, _, _, _, k, _ => k.elim
  | .s i :: ls, [], _, _, _, _, _, k, _ => k.elim
  | .v d :: ls, v :: vs, e, e', ds, tmp, h, k, t => by
    simp only [take, Option.map_eq_some_iff] at t
    obtain ⟨⟨ds1, e1⟩, t1, t2⟩ := t
    obtain ⟨rfl, rfl⟩ := Prod.mk.inj t2
    have h' : SR K Z H σ e (lbags ls vs ++ (v, d) :: tmp) := h.perm (List.perm_middle (a := (v, d))).symm
    obtain ⟨q, ql⟩ := take_ok h' k.2 t1
    exact ⟨q.perm zip_mid, by simp [ql]⟩
  | .s i :: ls, v :: vs, e, e', ds, tmp, h, k, t => by
    have h : SR K Z H σ e (lbags ls vs ++ tmp) := h
    have kv : σ[i]? = some (some v) := k.1
    unfold take at t
    cases g : e.getD i none with
    | none => rw [g] at t; cases t
    | some d =>
      rw [g] at t
      have gi := getD_some g
      by_cases hf : d.flag = true
      · simp only [hf, if_true, Option.map_eq_some_iff] at t
        obtain ⟨⟨ds1, e1⟩, t1, t2⟩ := t
        obtain ⟨rfl, rfl⟩ := Prod.mk.inj t2
        obtain ⟨w, hw, h1⟩ := h.out gi
        rw [kv] at hw; cases hw
        have h' : SR K Z H σ (e.set i none) (lbags ls vs ++ (v, d) :: tmp) := h1.perm (List.perm_middle (a := (v, d))).symm
        obtain ⟨q, ql⟩ := take_ok h' k.2 t1
        exact ⟨q.perm zip_mid, by simp [ql]⟩
      · have hf : d.flag = false := by simpa using hf
        simp only [hf, Bool.false_eq_true, if_false, Option.map_eq_some_iff] at t
        obtain ⟨⟨ds1, e1⟩, t1, t2⟩ := t
        obtain ⟨rfl, rfl⟩ := Prod.mk.inj t2
        obtain ⟨w, fp, hw, r⟩ := h.rd gi
        rw [kv] at hw; cases hw
        have e0 := r.noflag hf
        subst e0
        have h' : SR K Z H σ e (lbags ls vs ++ (v, d) :: tmp) := (h.add r).perm (List.perm_middle (a := (v, d))).symm
        obtain ⟨q, ql⟩ := take_ok h' k.2 t1
        exact ⟨q.perm zip_mid, by simp [ql]⟩
theorem give_none : ∀ {ls : List L} {e e' : DE} {ds ds' : List D} {i : Nat}, take ls e = some (ds, e') → e[i]? = some none → (give ls ds ds' e')[i]? = some none
  | [], e, e', ds, ds', i, t, h => by
    simp only [take, Option.some.injEq, Prod.mk.injEq] at t
    obtain ⟨rfl, rfl⟩ := t
    simpa [give] using h
  | .v d :: ls, e, e', ds, ds', i, t, h => by
    simp only [take, Option.map_eq_some_iff] at t
    obtain ⟨⟨ds1, e1⟩, t1, t2⟩ := t
    obtain ⟨rfl, rfl⟩ := Prod.mk.inj t2
    cases ds' with
    | nil =>
      have q := give_none (ds' := []) t1 h
      cases ls <;> cases ds1 <;> first | exact q | (rename_i l _; cases l <;> exact q) | (rename_i l _ _ _; cases l <;> exact q)
    | cons d' ds' => exact give_none (ds' := ds') t1 h
  | .s j :: ls, e, e', ds, ds', i, t, h => by
    unfold take at t
    cases g : e.getD j none with
    | none => rw [g] at t; cases t
    | some d =>
      rw [g] at t
      have gi := getD_some g
      have hij : j ≠ i := by rintro rfl; rw [h] at gi; cases gi
      by_cases hf : d.flag = true
      · simp only [hf, if_true, Option.map_eq_some_iff] at t
        obtain ⟨⟨ds1, e1⟩, t1, t2⟩ := t
        obtain ⟨rfl, rfl⟩ := Prod.mk.inj t2
        have h1 : (e.set j none)[i]? = some none := by rw [List.getElem?_set_ne hij]; exact h
        cases ds' with
        | nil =>
          have q := give_none (ds' := []) t1 h1
          cases ls <;> cases ds1 <;> first | exact q | (rename_i l _; cases l <;> exact q) | (rename_i l _ _ _; cases l <;> exact q)
        | cons d' ds' =>
          have q := give_none (ds' := ds') t1 h1
          simp only [give, hf, if_true]
          rw [List.getElem?_set_ne hij]; exact q
      · have hf : d.flag = false := by simpa using hf
        simp only [hf, Bool.false_eq_true, if_false, Option.map_eq_some_iff] at t
        obtain ⟨⟨ds1, e1⟩, t1, t2⟩ := t
        obtain ⟨rfl, rfl⟩ := Prod.mk.inj t2
        cases ds' with
        | nil =>
          have q := give_none (ds' := []) t1 h
          cases ls <;> cases ds1 <;> first | exact q | (rename_i l _; cases l <;> exact q) | (rename_i l _ _ _; cases l <;> exact q)
        | cons d' ds' =>
          have q := give_none (ds' := ds') t1 h
          simp only [give, hf, Bool.false_eq_true, if_false]
          exact q
theorem give_nil : ∀ {ls : List L} {ds : List D} {e : DE}, give ls ds [] e = e
  | [], ds, e => by simp [give]
  | .v _ :: ls, [], e => by simp [give]
  | .v _ :: ls, _ :: ds, e => by simp [give]
  | .s _ :: ls, [], e => by simp [give]
  | .s _ :: ls, _ :: ds, e => by simp [give]
theorem give_ok : ∀ {ls : List L} {vs : List V} {e e' : DE} {ds ds' : List D} {tmp : Bag}, SR K Z H σ e' (vs.zip ds' ++ tmp) → loks σ ls vs → take ls e = some (ds, e') → SR K Z H σ (give ls ds ds' e') tmp
  | [], vs, e, e', ds, ds', tmp, h, _, t => by
    have : give [] ds ds' e' = e' := by simp [give]
    rw [this]; exact h.drop
  | .v d :: ls, [], _, _, _, _, _, _, k, _ => k.elim
  | .s i :: ls, [], _, _, _, _, _, _, k, _ => k.elim
  | l :: ls, v :: vs, e, e', ds, [], tmp, h, k, t => by rw [give_nil]; exact h.drop
  | .v d :: ls, v :: vs, e, e', ds, d' :: ds', tmp, h, k, t => by
    simp only [take, Option.map_eq_some_iff] at t
    obtain ⟨⟨ds1, e1⟩, t1, t2⟩ := t
    obtain ⟨rfl, rfl⟩ := Prod.mk.inj t2
    show SR K Z H σ (give ls ds1 ds' e1) tmp
    exact give_ok (vs := vs) (tmp := tmp) (show SR K Z H σ e1 (vs.zip ds' ++ tmp) from SR.tail (x := (v, d')) h) k.2 t1
  | .s i :: ls, v :: vs, e, e', ds, d' :: ds', tmp, h, k, t => by
    have kv : σ[i]? = some (some v) := k.1
    unfold take at t
    cases g : e.getD i none with
    | none => rw [g] at t; cases t
    | some d =>
      rw [g] at t
      have gi := getD_some g
      have hil : i < e.length := (List.getElem?_eq_some_iff.mp gi).1
      by_cases hf : d.flag = true
      · simp only [hf, if_true, Option.map_eq_some_iff] at t
        obtain ⟨⟨ds1, e1⟩, t1, t2⟩ := t
        obtain ⟨rfl, rfl⟩ := Prod.mk.inj t2
        have q := give_ok (tmp := (v, d') :: tmp) (h.perm zip_mid.symm) k.2 t1
        have z := give_none (ds' := ds') t1 (i := i) (by rw [List.getElem?_set_self hil])
        simp only [give, hf, if_true]
        exact q.back z kv
      · have hf : d.flag = false := by simpa using hf
        simp only [hf, Bool.false_eq_true, if_false, Option.map_eq_some_iff] at t
        obtain ⟨⟨ds1, e1⟩, t1, t2⟩ := t
        obtain ⟨rfl, rfl⟩ := Prod.mk.inj t2
        have q := give_ok (tmp := tmp) (show SR K Z H σ e1 (vs.zip ds' ++ tmp) from SR.tail (x := (v, d')) h) k.2 t1
        simp only [give, hf, Bool.false_eq_true, if_false]
        exact q
end

def eCall (G : List D → FR) (dds : List D) (fa : DE → Res (List L)) : DE → Res D := fun e => (fa e).bind fun ls e1 => match take ls e1 with
  | some (ds, e2) => match G (ds ++ dds) with
    | .ok d ds' => .ok d (give ls ds ds' e2)
    | .exn x ds' => .exn x (give ls ds ds' e2)
    | .stuck => .stuck
  | none => .stuck
section
variable {X : Cx} {W : XW} {CX : CXT} {k n : Nat} {f : Addr} {fd : FuncData} {ps : List Str} {dvs : List V} {dsv : List Value} {x : Str} {p pos : Pos} {e : Expr} {es : List Expr} {G : List D → FR} {dds : List D} {fa : DE → Res (List L)}
/-- what a call asks, met: ls the operands, dvs further values that are held -/
theorem call_post2 {K : PySem.W.Frag} {σ : Sg} {tmp : Bag} {Q : VK} {ls : List L} {vs : List V} {e1 : DE} {Z : AS} {H : Hp} {dvs : List V} (sr : SR K Z H σ e1 (lbags ls vs ++ (dvs.zip dds ++ tmp))) (kk : loks σ ls vs) (hdl : dvs.length = dds.length)
    (po : PostE K W σ tmp Q (match take ls e1 with
      | some (ds, e2) => match G (ds ++ dds) with
        | .ok d ds' => .ok d (give ls ds ds' e2)
        | .exn x ds' => .exn x (give ls ds ds' e2)
        | .stuck => .stuck
      | none => .stuck)) (hl : vs.length + dvs.length = n) : spG K n G (vs ++ dvs) H Q (W σ) := by
  cases t : take ls e1 with
  | none => rw [t] at po; exact po.elim
  | some q =>
    obtain ⟨ds, e2⟩ := q
    rw [t] at po
    obtain ⟨sr2, ql⟩ := take_ok sr kk t
    have hz : ∀ (es : List D), (vs ++ dvs).zip (ds ++ es) = vs.zip ds ++ dvs.zip es := fun es => List.zip_append ql
    have hold : Hold K [] Z H ((vs ++ dvs).zip (ds ++ dds) ++ (tmp ++ slots σ e2)) := by
      rw [hz]
      have b := sr2.bag
      simpa [List.append_assoc] using b
    refine ⟨Z, ds ++ dds, tmp ++ slots σ e2, by rw [List.length_append, ← ql, ← hdl]; exact hl, by rw [List.length_append]; exact hl, hold, ?_⟩
    have po : PostE K W σ tmp Q (match G (ds ++ dds) with
        | .ok d ds' => .ok d (give ls ds ds' e2)
        | .exn x ds' => .exn x (give ls ds ds' e2)
        | .stuck => .stuck) := po
    -- the arguments' part of what is held behind
    have split : ∀ {Z' : AS} {H' : Hp} {ds' : List D} {B : Bag}, Hold K [] Z' H' ((vs ++ dvs).zip ds' ++ B) → Hold K [] Z' H' (vs.zip ds' ++ B) := by
      intro Z' H' ds' B h
      have z : (vs ++ dvs).zip ds' = vs.zip ds' ++ dvs.zip (ds'.drop vs.length) := zip_cut vs dvs ds'
      rw [z, List.append_assoc] at h
      exact h.sub ⟨dvs.zip (ds'.drop vs.length), by rw [← List.append_assoc, ← List.append_assoc]; exact List.Perm.append_right _ List.perm_append_comm⟩
    cases g : G (ds ++ dds) with
    | stuck => rw [g] at po; exact po
    | ok d ds' =>
      rw [g] at po
      intro Z' H' v hh
      have h1 : Hold K [] Z' H' (vs.zip ds' ++ ((v, d) :: tmp ++ slots σ e2)) := split (hh.perm (by
        simp only [List.cons_append]
        exact (List.perm_middle (a := (v, d))).symm))
      have s1 : SR K Z' H' σ e2 (vs.zip ds' ++ (v, d) :: tmp) := .of sr2.fit (by rw [List.append_assoc]; exact h1)
      exact po Z' H' v (give_ok s1 kk t)
    | exn x ds' =>
      rw [g] at po
      intro Z' H' c o hh xr
      have s1 : SR K Z' H' σ e2 (vs.zip ds' ++ tmp) := .of sr2.fit (by rw [List.append_assoc]; exact split hh)
      exact po Z' H' c o (give_ok s1 kk t) xr
theorem Hold.addF {K : PySem.W.Frag} {Z : AS} {H : Hp} {dds : List D} {dvs : List V} {B : Bag} (h : RpF K Z H dds dvs) : (∀ d ∈ dds, d.flag = false) → Hold K [] Z H B → Hold K [] Z H (dvs.zip dds ++ B) := by
  induction h with
  | nil => exact fun _ b => b
  | @cons d v fp ds' vs' h t ih =>
    intro hf b
    have e0 := h.noflag (hf d List.mem_cons_self)
    subst e0
    exact (ih (fun x hx => hf x (List.mem_cons_of_mem _ hx)) b).add h
theorem call_post {K : PySem.W.Frag} {σ : Sg} {tmp : Bag} {Q : VK} {ls : List L} {vs : List V} {e1 : DE} {Z : AS} {H : Hp} {dvs : List V} (sr : SR K Z H σ e1 (lbags ls vs ++ tmp)) (kk : loks σ ls vs) (hd : RpF K Z H dds dvs) (hd0 : ∀ d ∈ dds, d.flag = false)
    (po : PostE K W σ tmp Q (match take ls e1 with
      | some (ds, e2) => match G (ds ++ dds) with
        | .ok d ds' => .ok d (give ls ds ds' e2)
        | .exn x ds' => .exn x (give ls ds ds' e2)
        | .stuck => .stuck
      | none => .stuck)) (hl : vs.length + dvs.length = n) : spG K n G (vs ++ dvs) H Q (W σ) := by
  refine call_post2 (Z := Z) (.of sr.fit ?_) kk hd.length po hl
  have b := Hold.addF hd hd0 sr.bag
  refine b.perm ?_
  simp only [List.append_assoc]
  exact List.perm_append_comm_assoc _ _ _
theorem ve_call (F : FnOk X.prog X.w X.K X.mg X.base CX k f fd ps (spG X.K n G)) (hr : Room k X.A) (hg : Gl X x) (hm : X.mg x = some (.ref f)) (hk : PySem.W.keepIn X.K (.ref f) = true) (hb : Binds X.K fd ps dsv) (hd : Vals dvs dsv)
    (hdd : ∀ Z H, RpF X.K Z H dds dvs) (hd0 : ∀ d ∈ dds, d.flag = false) (hx : ∀ σ, PassesAt CX X σ (W σ)) (ha : VA X W (e :: es) fa) (hn : (e :: es).length + dds.length = n)
    (hdb : (x == ("__debug__" : Str)) = false := by decide) (he : starEach (e :: es) X.env = (false, eval e X.env) :: starEach es X.env := by rfl) (hpl : (backTo pos (starEach es X.env)).any (·.1) = false := by rfl) :
    VE X W (.Call (.Name x p) (e :: es) [] pos) (eCall G dds fa) := by
  obtain ⟨ta, pa, sa⟩ := ha.ex
  refine ⟨_, pe_callSD F hr hg hm hk hb hd hx pa hdb he hpl, fun Z σ H e' tmp Q sr po => ?_⟩
  refine sa Z σ H e' tmp _ sr ?_
  unfold eCall at po
  cases h1 : fa e' with
  | stuck => rw [h1] at po; exact po
  | exn x e1 => rw [h1] at po; exact po
  | ok ls e1 =>
    rw [h1] at po
    intro Z1 H1 vs sr1 kk
    have hlen : vs.length = ls.length := by
      clear po sr1 h1
      induction ls generalizing vs with
      | nil => cases vs with
        | nil => rfl
        | cons _ _ => exact kk.elim
      | cons l ls ih => cases vs with
        | nil => exact kk.elim
        | cons v vs => simp [ih vs kk.2]
    have hdl : dvs.length = dds.length := by
      exact (hdd Z H).length
    exact call_post sr1 kk (hdd Z1 H1) hd0 po (by rw [hlen, hdl, ha.len _ _ _ h1]; exact hn)
end

/-! ### a def's body -/
def back (fx : List Nat) : Nat → List D → DE → Option (List D)
  | _, [], _ => some []
  | i, d :: ds, o :: e => (if fx.contains i = true then o else if d.flag = true then none else some d).bind fun d' => (back fx (i + 1) ds e).map (d' :: ·)
  | _, _ :: _, [] => none
def fin (fx : List Nat) (ds : List D) (e : DE) (k : List D → FR) : FR := match back fx 0 ds e with
  | some ds' => k ds'
  | none => .stuck
def fnG0 (fx : List Nat) (n m : Nat) (fb : DE → SRes) : List D → FR := fun ds => match fb (ds.map some ++ List.replicate (m - n) none) with
  | .nx e => fin fx ds e (.ok .non)
  | .rt d e => fin fx ds e (.ok d)
  | .exn x e => fin fx ds e (.exn x)
  | _ => .stuck
/-- the same, sealed against unfolding -/
noncomputable def fnG (fx : List Nat) (n m : Nat) (fb : DE → SRes) : List D → FR := Classical.choose (p := fun f => f = fnG0 fx n m fb) ⟨_, rfl⟩
theorem fnG_eq (fx : List Nat) (n m : Nat) (fb : DE → SRes) : fnG fx n m fb = fnG0 fx n m fb := Classical.choose_spec (p := fun f => f = fnG0 fx n m fb) ⟨_, rfl⟩
def keepB (fx : List Nat) : Nat → List V → List D → Bag
  | i, v :: vs, d :: ds => if fx.contains i = true then keepB fx (i + 1) vs ds else if d.flag = true then keepB fx (i + 1) vs ds else (v, d) :: keepB fx (i + 1) vs ds
  | _, _, _ => []
section
variable {K : PySem.W.Frag} {Z : AS} {H : Hp}
theorem back_ok {fx : List Nat} : ∀ {ds : List D} {vs : List V} {i : Nat} {σ : Sg} {e : DE} {ds' : List D} {B : Bag}, fits σ e → vs.length = ds.length → (∀ k, fx.contains (i + k) = true → ∀ v, vs[k]? = some v → σ[k]? = some (some v)) →
    back fx i ds e = some ds' → Hold K [] Z H (slots σ e ++ (keepB fx i vs ds ++ B)) → Hold K [] Z H (vs.zip ds' ++ B)
  | [], [], i, σ, e, ds', B, f, _, hv, hb, h => by
    have e1 : ds' = [] := by cases e <;> (simp [back] at hb; exact hb)
    subst e1
    exact h.drop
  | [], _ :: _, _, _, _, _, _, _, l, _, _, _ => by simp at l
  | _ :: _, [], _, _, _, _, _, _, l, _, _, _ => by simp at l
  | d :: ds, v :: vs, i, σ, [], ds', B, f, l, hv, hb, h => by simp [back] at hb
  | d :: ds, v :: vs, i, [], _ :: _, ds', B, f, l, hv, hb, h => f.elim
  | d :: ds, v :: vs, i, x :: σ, o :: e, ds', B, f, l, hv, hb, h => by
    simp only [back, Option.bind_eq_some_iff, Option.map_eq_some_iff] at hb
    obtain ⟨d', h1, ds1, h2, rfl⟩ := hb
    have l' : vs.length = ds.length := by simpa using l
    have hv' : ∀ k, fx.contains (i + 1 + k) = true → ∀ w, vs[k]? = some w → σ[k]? = some (some w) := fun k hk w hw => by
      have q := hv (k + 1) (by rw [show i + (k + 1) = i + 1 + k by omega]; exact hk) w (by simpa using hw)
      simpa using q
    have f' : fits σ e := by
      cases o with
      | none => exact f
      | some _ => exact f.2
    by_cases hc : fx.contains i = true
    · rw [if_pos hc] at h1
      subst h1
      have hx := hv 0 (by simpa using hc) v rfl
      have hx : x = some v := by simpa using hx
      subst hx
      have hk : keepB fx i (v :: vs) (d :: ds) = keepB fx (i + 1) vs ds := by simp only [keepB, hc, if_true]
      rw [hk] at h
      have h3 : Hold K [] Z H (slots σ e ++ (keepB fx (i + 1) vs ds ++ (v, d') :: B)) := by
        refine h.perm ?_
        show ((v, d') :: (slots σ e ++ (keepB fx (i + 1) vs ds ++ B))).Perm _
        rw [← List.append_assoc, ← List.append_assoc]
        exact (List.perm_middle (a := (v, d'))).symm
      exact (back_ok f' l' hv' h2 h3).perm List.perm_middle
    · rw [if_neg hc] at h1
      by_cases hf : d.flag = true
      · rw [if_pos hf] at h1; cases h1
      · rw [if_neg hf] at h1
        cases h1
        have hk : keepB fx i (v :: vs) (d :: ds) = (v, d) :: keepB fx (i + 1) vs ds := by simp only [keepB, hc, hf, if_false]; rfl
        rw [hk] at h
        have h3 : Hold K [] Z H (slots σ e ++ (keepB fx (i + 1) vs ds ++ (v, d) :: B)) := by
          have h4 : Hold K [] Z H (slots σ e ++ ((v, d) :: keepB fx (i + 1) vs ds ++ B)) := by
            cases o with
            | none => exact h
            | some d2 => exact Hold.tail h
          refine h4.perm (List.Perm.append_left _ ?_)
          exact (List.perm_middle (a := (v, d))).symm
        exact (back_ok f' l' hv' h2 h3).perm List.perm_middle
theorem keep_in {fx : List Nat} : ∀ {ds : List D} {vs : List V} {i : Nat} {B : Bag}, vs.length = ds.length → Hold K [] Z H (vs.zip ds ++ B) → Hold K [] Z H (vs.zip ds ++ (keepB fx i vs ds ++ B))
  | [], [], i, B, _, h => h
  | [], _ :: _, _, _, l, _ => by simp at l
  | _ :: _, [], _, _, l, _ => by simp at l
  | d :: ds, v :: vs, i, B, l, h => by
    have l' : vs.length = ds.length := by simpa using l
    have h0 : Hold K [] Z H (vs.zip ds ++ (v, d) :: B) := h.perm (List.perm_middle (a := (v, d))).symm
    have h1 := keep_in (fx := fx) (i := i + 1) l' h0
    have h2 : Hold K [] Z H ((v, d) :: (vs.zip ds ++ (keepB fx (i + 1) vs ds ++ B))) := by
      refine h1.perm ?_
      rw [← List.append_assoc, ← List.append_assoc]
      exact List.perm_middle
    by_cases hc : fx.contains i = true
    · have hk : keepB fx i (v :: vs) (d :: ds) = keepB fx (i + 1) vs ds := by simp only [keepB, hc, if_true]
      rw [hk]; exact h2
    · by_cases hf : d.flag = true
      · have hk : keepB fx i (v :: vs) (d :: ds) = keepB fx (i + 1) vs ds := by simp only [keepB, hc, hf, if_false, if_true]; rfl
        rw [hk]; exact h2
      · have hk : keepB fx i (v :: vs) (d :: ds) = (v, d) :: keepB fx (i + 1) vs ds := by simp only [keepB, hc, hf, if_false]; rfl
        rw [hk]
        have h3 := h2.dup (by simpa using hf)
        refine h3.perm ?_
        show ((v, d) :: (v, d) :: (vs.zip ds ++ (keepB fx (i + 1) vs ds ++ B))).Perm ((v, d) :: (vs.zip ds ++ ((v, d) :: keepB fx (i + 1) vs ds ++ B)))
        exact (List.perm_middle (a := (v, d))).symm.cons _
theorem slots_none : ∀ {n : Nat} {σ : Sg}, slots σ (List.replicate n none) = []
  | 0, [] => rfl
  | 0, _ :: _ => rfl
  | n + 1, [] => rfl
  | n + 1, _ :: σ => slots_none (n := n) (σ := σ)
theorem start_slots : ∀ {vs : List V} {ds : List D} {n : Nat}, vs.length = ds.length → slots (vs.map some ++ List.replicate n none) (ds.map some ++ List.replicate n none) = vs.zip ds ∧ fits (vs.map some ++ List.replicate n none) (ds.map some ++ List.replicate n none)
  | [], [], n, _ => by
    refine ⟨slots_none, ?_⟩
    show fits (List.replicate n none) (List.replicate n none)
    induction n with
    | zero => trivial
    | succ n ih => exact ih
  | [], _ :: _, _, l => by simp at l
  | _ :: _, [], _, l => by simp at l
  | v :: vs, d :: ds, n, l => by
    obtain ⟨h1, h2⟩ := start_slots (vs := vs) (ds := ds) (n := n) (by simpa using l)
    exact ⟨congrArg ((v, d) :: ·) h1, ⟨v, rfl⟩, h2⟩
end
section
variable {P : Program} {w : World} {K : PySem.W.Frag} {mg : Str → Option Value} {base : Heap} {CX : CXT}
theorem fn_ok {x qual : Str} {params : Arguments} {body : List Stmt} {scope : Scope} {dvs : List V} {kws : List (Str × V)} {f : Addr} {fd : FuncData} {N ps : List Str} {k : Nat} {fx : List Nat} {fb : DE → SRes}
    (F : FunD K x qual params body scope dvs kws f fd) (S : FnScope N ps scope)
    (hb : ∀ (cdv : Value) (A : Around) (outer : List Env) (s : Shared) (H : Hp) (E : XK), Room k (A.deeper (envOfC qual scope s.heap.objs.size f cdv)) → VSs (cxOf CX P w K mg base N qual scope f cdv A outer s H E) (fun _ => E) fx body fb) :
    FnOk P w K mg base CX (k + 1) f fd ps (spG K ps.length (fnG fx ps.length N.length fb)) := by
  refine F.ok S (fun vs H Q E h => ?_) (fun cdv A outer s H vs Q E hr h => ?_)
  · obtain ⟨Z, ds, tmp, _, e, _⟩ := h
    exact e
  · obtain ⟨t, pt, st⟩ := (hb cdv A outer s H E hr).ex
    refine ⟨t, pt, ?_⟩
    obtain ⟨Z, ds, tmp, l1, l2, hold, po⟩ := h
    have l3 : vs.length = ds.length := l2.trans l1.symm
    obtain ⟨s1, s2⟩ := start_slots (n := N.length - ps.length) l3
    have hst : L2.start N vs = vs.map some ++ List.replicate (N.length - ps.length) none := by unfold L2.start; rw [l2]
    rw [hst]
    have sr : SR K Z H (vs.map some ++ List.replicate (N.length - ps.length) none) (ds.map some ++ List.replicate (N.length - ps.length) none) (keepB fx 0 vs ds ++ tmp) := ⟨s2, by rw [s1]; exact keep_in l3 hold⟩
    refine st Z _ H _ _ _ sr ?_
    have fin_ok : ∀ {Z' : AS} {H' : Hp} {σ' : Sg} {e' : DE} {B : Bag} {ds' : List D}, SR K Z' H' σ' e' (B ++ (keepB fx 0 vs ds ++ tmp)) → Fx fx (vs.map some ++ List.replicate (N.length - ps.length) none) σ' → back fx 0 ds e' = some ds' → Hold K [] Z' H' (B ++ (vs.zip ds' ++ tmp)) := by
      intro Z' H' σ' e' B ds' q fxh hb
      have h1 : Hold K [] Z' H' (slots σ' e' ++ (keepB fx 0 vs ds ++ (B ++ tmp))) := q.hold.perm (List.Perm.append_left _ (List.perm_append_comm_assoc _ _ _))
      have h2 := back_ok q.fit l3 (fun k hk v hv => ?_) hb h1
      · exact h2.perm (List.perm_append_comm_assoc _ _ _)
      · rw [Nat.zero_add] at hk
        have hm : k ∈ fx := by simpa using hk
        rw [fxh k hm]
        have hlt : k < vs.length := (List.getElem?_eq_some_iff.mp hv).1
        rw [List.getElem?_append_left (by simpa using hlt), List.getElem?_map, hv]
        rfl
    rw [fnG_eq] at po
    unfold fnG0 at po
    cases hfb : fb (ds.map some ++ List.replicate (N.length - ps.length) none) with
    | stuck => rw [hfb] at po; exact po
    | bk e' => rw [hfb] at po; exact po.elim
    | ct e' => rw [hfb] at po; exact po.elim
    | nx e' =>
      rw [hfb] at po
      have po : PostF K vs tmp Q E (fin fx ds e' (.ok .non)) := po
      unfold fin at po
      cases hb : back fx 0 ds e' with
      | none => rw [hb] at po; exact po.elim
      | some ds' =>
        rw [hb] at po
        intro Z' H' σ' q fxh
        refine po Z' H' V.non ?_
        have q2 : SR K Z' H' σ' e' ([(V.non, D.non)] ++ (keepB fx 0 vs ds ++ tmp)) := q.add (Rp_non.mpr ⟨rfl, rfl⟩)
        exact fin_ok q2 fxh hb
    | rt d e' =>
      rw [hfb] at po
      have po : PostF K vs tmp Q E (fin fx ds e' (.ok d)) := po
      unfold fin at po
      cases hb : back fx 0 ds e' with
      | none => rw [hb] at po; exact po.elim
      | some ds' =>
        rw [hb] at po
        intro Z' H' σ' v q fxh
        refine po Z' H' v ?_
        have q2 : SR K Z' H' σ' e' ([(v, d)] ++ (keepB fx 0 vs ds ++ tmp)) := q
        exact fin_ok q2 fxh hb
    | exn xx e' =>
      rw [hfb] at po
      have po : PostF K vs tmp Q E (fin fx ds e' (.exn xx)) := po
      unfold fin at po
      cases hb : back fx 0 ds e' with
      | none => rw [hb] at po; exact po.elim
      | some ds' =>
        rw [hb] at po
        intro Z' H' σ' c o q fxh xr
        refine po Z' H' c o ?_ xr
        have q2 : SR K Z' H' σ' e' ([] ++ (keepB fx 0 vs ds ++ tmp)) := q
        exact fin_ok q2 fxh hb
end
end Tr

set_option maxHeartbeats 2000000
/-! The tree layer 4: expressions. -/
namespace Tr
open PySem PySem.Spec PyProof.Rows L2
section
variable {X : Cx} {W : XW} {a b c e : Expr} {es : List Expr} {pos : Pos}

/-! ### operands, names, constants -/
def xSlot (i : Nat) : DE → Res L := fun e => match e.getD i none with
  | some _ => .ok (.s i) e
  | none => .stuck
def xOf (f : DE → Res D) : DE → Res L := fun e => (f e).bind fun d e1 => .ok (.v d) e1
theorem vx_slot (i : Nat) {x : Str} (hN : X.N[i]? = some x := by rfl) (hv : Vis X.env.scope x := by first | exact Or.inl rfl | exact Or.inr (Or.inl rfl) | exact Or.inr (Or.inr rfl)) (hd : (x == ("__debug__" : Str)) = false := by decide)
    (hcd : (x == ("__classdict__" : Str)) = false := by decide) : VX X W (.Name x pos) (xSlot i) := by
  refine ⟨_, pe_var hN hv hd hcd, fun Z σ H e tmp Q sr po => ?_⟩
  unfold xSlot at po
  cases g : e.getD i none with
  | none => rw [g] at po; exact po.elim
  | some d =>
    rw [g] at po
    obtain ⟨v, fp, hs, r⟩ := sr.rd (getD_some g)
    exact ⟨v, hs, po Z H v sr hs⟩
theorem vx_of {f : DE → Res D} (h : VE X W e f) : VX X W e (xOf f) := by
  obtain ⟨t, p, s⟩ := h.ex
  refine ⟨t, p, fun Z σ H e' tmp Q sr po => s Z σ H e' tmp Q sr ?_⟩
  unfold xOf at po
  cases h1 : f e' with
  | stuck => rw [h1] at po; exact po
  | exn x e1 => rw [h1] at po; exact po
  | ok d e1 => rw [h1] at po; exact fun Z' H' v q => po Z' H' v q trivial
def eC (d : D) : DE → Res D := fun e => .ok d e
theorem snd_c {K : PySem.W.Frag} {v : V} {d : D} (h : ∀ Z H, Rp K Z H d v []) : SndE K W (tC v) (eC d) := fun Z σ H e tmp Q sr po => po Z H v (sr.add (h Z H))
theorem ve_int {i j} : VE X W (.Constant (.int i) j pos) (eC (.int i)) := ⟨_, pe_int, snd_c fun _ _ => Rp_int.mpr ⟨rfl, rfl⟩⟩
theorem ve_bl {i j} : VE X W (.Constant (.bool i) j pos) (eC (.bl i)) := ⟨_, pe_bl, snd_c fun _ _ => Rp_bl.mpr ⟨rfl, rfl⟩⟩
theorem ve_non {j} : VE X W (.Constant .none j pos) (eC .non) := ⟨_, pe_non, snd_c fun _ _ => Rp_non.mpr ⟨rfl, rfl⟩⟩
theorem ve_str {i j} : VE X W (.Constant (.str i) j pos) (eC (.str i)) := ⟨_, pe_str, snd_c fun _ _ => Rp_str.mpr ⟨rfl, rfl⟩⟩
theorem ve_globI {x : Str} {i : Int} {u : Value} (hg : Gl X x) (hm : X.mg x = some u) (r : RelV (.int i) u) (hd : (x == ("__debug__" : Str)) = false := by decide) : VE X W (.Name x pos) (eC (.int i)) := ⟨_, pe_glob hg hm r hd, snd_c fun _ _ => Rp_int.mpr ⟨rfl, rfl⟩⟩
theorem ve_globS {x : Str} {i : Str} {u : Value} (hg : Gl X x) (hm : X.mg x = some u) (r : RelV (.str i) u) (hd : (x == ("__debug__" : Str)) = false := by decide) : VE X W (.Name x pos) (eC (.str i)) := ⟨_, pe_glob hg hm r hd, snd_c fun _ _ => Rp_str.mpr ⟨rfl, rfl⟩⟩
theorem ve_globO {x : Str} {i : Addr} (hg : Gl X x) (hm : X.mg x = some (.ref i)) (hd : (x == ("__debug__" : Str)) = false := by decide) : VE X W (.Name x pos) (eC (.obj i)) := ⟨_, pe_glob (v := .ref i) hg hm rfl hd, snd_c fun _ _ => Rp_obj.mpr ⟨rfl, rfl⟩⟩
theorem ve_bltT {x : Str} {n : String} (hg : Gl X x) (hm : X.mg x = none) (hv : bootBuiltins x = some (.type n)) (hn : x ≠ "__name__" := by decide) (hd : (x == ("__debug__" : Str)) = false := by decide) : VE X W (.Name x pos) (eC (.ty n)) :=
  ⟨_, pe_bltn (v := .ty n) hg hm hv rfl hn hd, snd_c fun _ _ => Rp_ty.mpr ⟨rfl, rfl⟩⟩
/-- a name's value used: what it owned is frozen -/
def eUse (i : Nat) : DE → Res D := fun e => match e.getD i none with
  | some d => if d.flag = true then .ok d.frz (e.set i (some d.frz)) else .ok d e
  | none => .stuck
theorem ve_use (i : Nat) {x : Str} (hN : X.N[i]? = some x := by rfl) (hv : Vis X.env.scope x := by first | exact Or.inl rfl | exact Or.inr (Or.inl rfl) | exact Or.inr (Or.inr rfl)) (hd : (x == ("__debug__" : Str)) = false := by decide)
    (hcd : (x == ("__classdict__" : Str)) = false := by decide) : VE X W (.Name x pos) (eUse i) := by
  refine ⟨_, pe_var hN hv hd hcd, fun Z σ H e tmp Q sr po => ?_⟩
  unfold eUse at po
  cases g : e.getD i none with
  | none => rw [g] at po; exact po.elim
  | some d =>
    rw [g] at po
    have gi := getD_some g
    by_cases hf : d.flag = true
    · simp only [hf, if_true] at po
      obtain ⟨v, hs, h1⟩ := sr.out gi
      obtain ⟨Z', h2⟩ := h1.freeze
      have ff : d.frz.flag = false := by cases d <;> first | rfl | (rename_i o _; cases o <;> rfl) | (rename_i o _ _ _; cases o <;> rfl)
      have h3 : SR X.K Z' H σ (e.set i none) ((v, d.frz) :: (v, d.frz) :: tmp) := .of h2.fit (Hold.dup h2.bag ff)
      have h4 := h3.back (i := i) (by rw [List.getElem?_set_self (List.getElem?_eq_some_iff.mp gi).1]) hs
      rw [List.set_set] at h4
      exact ⟨v, hs, po Z' H v h4⟩
    · simp only [hf, if_false] at po
      have hf : d.flag = false := by simpa using hf
      obtain ⟨v, fp, hs, r⟩ := sr.rd gi
      have e0 := r.noflag hf
      subst e0
      exact ⟨v, hs, po Z H v (sr.add r)⟩
/-- a name's value handed on, with what it owns; the slot is empty then -/
def eMove (i : Nat) : DE → Res D := fun e => match e.getD i none with
  | some d => .ok d (e.set i none)
  | none => .stuck
theorem ve_move (i : Nat) {x : Str} (hN : X.N[i]? = some x := by rfl) (hv : Vis X.env.scope x := by first | exact Or.inl rfl | exact Or.inr (Or.inl rfl) | exact Or.inr (Or.inr rfl)) (hd : (x == ("__debug__" : Str)) = false := by decide)
    (hcd : (x == ("__classdict__" : Str)) = false := by decide) : VE X W (.Name x pos) (eMove i) := by
  refine ⟨_, pe_var hN hv hd hcd, fun Z σ H e tmp Q sr po => ?_⟩
  unfold eMove at po
  cases g : e.getD i none with
  | none => rw [g] at po; exact po.elim
  | some d =>
    rw [g] at po
    obtain ⟨v, hs, h1⟩ := sr.out (getD_some g)
    exact ⟨v, hs, po Z H v h1⟩

/-! ### tests -/
def tOfE (f : DE → Res D) : DE → Res Bool := fun e => (f e).bind fun d e1 => match d with
  | .bl b => .ok b e1
  | _ => .stuck
theorem snd_test {K : PySem.W.Frag} {t : TE} {f : DE → Res D} (h : SndE K W t f) : SndT K W (tTest t) (tOfE f) := by
  intro Z σ H e tmp Q sr po
  refine h Z σ H e tmp _ sr ?_
  unfold tOfE at po
  cases h1 : f e with
  | stuck => rw [h1] at po; exact po
  | exn x e1 => rw [h1] at po; exact po
  | ok d e1 =>
    rw [h1] at po
    intro Z' H' v q
    cases d with
    | bl b =>
      obtain ⟨fp, r⟩ := q.bag.rep
      obtain ⟨rfl, _⟩ := Rp_bl.mp r
      exact ⟨b, rfl, po Z' H' q.tail⟩
    | _ => exact po.elim
theorem vt_val {f : DE → Res D} (h : VE X W e f) (he : ∀ whole, isTrue e X.env whole = (do let v ← whole; standAt e.pos; holding [v] (truthy v)) := by intro _; rfl) : VT X W e (tOfE f) := by
  obtain ⟨t, p, s⟩ := h.ex
  exact ⟨_, pt_val p he, snd_test s⟩
theorem vt_cmp {op : CmpOp} {r : R2} {g : D → D → Rs D} {fa fb : DE → Res L} (ho : OpR X (compareOp op) r) (hr : OpS X.K r g) (ha : VX X W a fa) (hb : VX X W b fb) (hm : behindInMarks op b = false) : VT X W (.Compare a [op] [b] pos) (tOfE (eOp2 g fa fb)) := by
  obtain ⟨ta, pa, sa⟩ := ha.ex
  obtain ⟨tb, pb, sb⟩ := hb.ex
  exact ⟨_, pt_cmpR ho pa pb hm, snd_test (snd_op2 sa sb hr)⟩
def tNotF (f : DE → Res Bool) : DE → Res Bool := fun e => (f e).bind fun b e1 => .ok (!b) e1
theorem vt_not {f : DE → Res Bool} (h : VT X W a f) : VT X W (.UnaryOp .Not a pos) (tNotF f) := by
  obtain ⟨t, p, s⟩ := h.ex
  refine ⟨_, pt_not p, fun Z σ H e tmp Q sr po => s Z σ H e tmp _ sr ?_⟩
  unfold tNotF at po
  cases h1 : f e with
  | stuck => rw [h1] at po; exact po
  | exn x e1 => rw [h1] at po; exact po
  | ok d e1 => rw [h1] at po; exact po
theorem vw_and1 {f : DE → Res Bool} (h : VT X W a f) : VW X W (.BoolOp .And [a] pos) f := by
  obtain ⟨t, p, s⟩ := h.ex
  exact ⟨_, pw_and1 p, s⟩
theorem vw_or1 {f : DE → Res Bool} (h : VT X W a f) : VW X W (.BoolOp .Or [a] pos) f := by
  obtain ⟨t, p, s⟩ := h.ex
  exact ⟨_, pw_or1 p, s⟩
def tAndF (f g : DE → Res Bool) : DE → Res Bool := fun e => (f e).bind fun b e1 => if b = true then g e1 else .ok false e1
def tOrF (f g : DE → Res Bool) : DE → Res Bool := fun e => (f e).bind fun b e1 => if b = true then .ok true e1 else g e1
theorem vw_and {rest : List Expr} {f g : DE → Res Bool} (h : VT X W a f) (h2 : VW X W (.BoolOp .And (b :: rest) pos) g) : VW X W (.BoolOp .And (a :: b :: rest) pos) (tAndF f g) := by
  obtain ⟨t, p, s⟩ := h.ex
  obtain ⟨t2, p2, s2⟩ := h2.ex
  refine ⟨_, pw_and p p2, fun Z σ H e tmp Q sr po => s Z σ H e tmp _ sr ?_⟩
  unfold tAndF at po
  cases h1 : f e with
  | stuck => rw [h1] at po; exact po
  | exn x e1 => rw [h1] at po; exact po
  | ok d e1 =>
    rw [h1] at po
    intro Z' H' q
    cases d with
    | true => rw [if_pos rfl]; exact s2 Z' σ H' e1 tmp Q q po
    | false => rw [if_neg Bool.false_ne_true]; exact po Z' H' q
theorem vw_or {rest : List Expr} {f g : DE → Res Bool} (h : VT X W a f) (h2 : VW X W (.BoolOp .Or (b :: rest) pos) g) : VW X W (.BoolOp .Or (a :: b :: rest) pos) (tOrF f g) := by
  obtain ⟨t, p, s⟩ := h.ex
  obtain ⟨t2, p2, s2⟩ := h2.ex
  refine ⟨_, pw_or p p2, fun Z σ H e tmp Q sr po => s Z σ H e tmp _ sr ?_⟩
  unfold tOrF at po
  cases h1 : f e with
  | stuck => rw [h1] at po; exact po
  | exn x e1 => rw [h1] at po; exact po
  | ok d e1 =>
    rw [h1] at po
    intro Z' H' q
    cases d with
    | true => rw [if_pos rfl]; exact po Z' H' q
    | false => rw [if_neg Bool.false_ne_true]; exact s2 Z' σ H' e1 tmp Q q po
theorem vt_w {f : DE → Res Bool} (h : VW X W e f) : VT X W e f := by
  obtain ⟨t, p, s⟩ := h.ex
  exact ⟨_, p.pt, s⟩
/-- a op b op' c -/
def eChain (g g' : D → D → Rs D) (fa fb fc : DE → Res L) : DE → Res D := fun e => (fa e).bind fun la e1 => (fb e1).bind fun lb e2 => match lget la e2, lget lb e2 with
  | some da, some db => ((g da db).at e2).bind fun d e3 => match d with
    | .bl true => (fc e3).bind fun lc e4 => match lget lb e4, lget lc e4 with
      | some db, some dc => (g' db dc).at e4
      | _, _ => .stuck
    | .bl false => .ok (.bl false) e3
    | _ => .stuck
  | _, _ => .stuck
theorem snd_chain {K : PySem.W.Frag} {fa fb fc : DE → Res L} {ta tb tc : TE} {r r' : R2} {g g' : D → D → Rs D} (ha : SndX K W ta fa) (hb : SndX K W tb fb) (hc : SndX K W tc fc) (hr : OpS K r g) (hr' : OpS K r' g') : SndE K W (tChain r r' ta tb tc) (eChain g g' fa fb fc) := by
  intro Z σ H e tmp Q sr po
  refine ha Z σ H e tmp _ sr ?_
  unfold eChain at po
  cases h1 : fa e with
  | stuck => rw [h1] at po; exact po
  | exn x e1 => rw [h1] at po; exact po
  | ok la e1 =>
    rw [h1, Res.bind_ok] at po
    intro Z1 H1 v1 sr1 k1
    refine hb Z1 σ H1 e1 (lbag la v1 ++ tmp) _ sr1 ?_
    cases h2 : fb e1 with
    | stuck => rw [h2] at po; exact po
    | exn x e2 => rw [h2] at po; exact fun Z' H' c o q xr => po Z' H' c o q.drop xr
    | ok lb e2 =>
      rw [h2, Res.bind_ok] at po
      intro Z2 H2 v2 sr2 k2
      cases ga : lget la e2 with
      | none => simp only [ga] at po; exact po.elim
      | some da =>
        cases gb : lget lb e2 with
        | none => simp only [ga, gb] at po; exact po.elim
        | some db =>
          simp only [ga, gb] at po
          obtain ⟨f2, r2⟩ := lread sr2 k2 gb
          have sr3 : SR K Z2 H2 σ e2 (lbag la v1 ++ (lbag lb v2 ++ tmp)) := sr2.perm (by
            rw [← List.append_assoc, ← List.append_assoc]
            exact List.Perm.append_right _ List.perm_append_comm)
          obtain ⟨f1, r1⟩ := lread sr3 k1 ga
          refine hr Z2 H2 ((lbag la v1) ++ (lbag lb v2 ++ tmp) ++ slots σ e2) _ (W σ) da v1 f1 db v2 f2 sr3.bag r1 r2 ?_
          cases hg : g da db with
          | stuck => rw [hg] at po; exact po
          | exn x =>
            rw [hg] at po
            exact fun Z' H' c o q xr => po Z' H' c o (SR.of sr2.fit (Hold.drop (L1 := lbag la v1 ++ lbag lb v2) (by simpa [List.append_assoc] using q))) xr
          | ok d =>
            rw [hg, Rs.at_ok, Res.bind_ok] at po
            intro Z' H' v q
            cases d with
            | bl k =>
              obtain ⟨fp, rb⟩ := q.rep
              obtain ⟨rfl, _⟩ := Rp_bl.mp rb
              refine ⟨k, rfl, ?_⟩
              have sr4 : SR K Z' H' σ e2 (lbag lb v2 ++ tmp) := .of sr2.fit (Hold.drop (L1 := lbag la v1) (by simpa [List.append_assoc] using q.tail))
              cases k with
              | false =>
                rw [if_neg Bool.false_ne_true]
                exact po Z' H' _ (sr4.drop.add (Rp_bl.mpr ⟨rfl, rfl⟩))
              | true =>
                rw [if_pos rfl]
                have po : PostE K W σ tmp Q ((fc e2).bind fun lc e4 => match lget lb e4, lget lc e4 with
                  | some db, some dc => (g' db dc).at e4
                  | _, _ => .stuck) := po
                refine hc Z' σ H' e2 (lbag lb v2 ++ tmp) _ sr4 ?_
                cases h4 : fc e2 with
                | stuck => rw [h4] at po; exact po
                | exn x e4 => rw [h4] at po; exact fun Z' H' c o q xr => po Z' H' c o q.drop xr
                | ok lc e4 =>
                  rw [h4, Res.bind_ok] at po
                  intro Z5 H5 v5 sr5 k5
                  cases gb5 : lget lb e4 with
                  | none => simp only [gb5] at po; exact po.elim
                  | some db5 =>
                    cases gc : lget lc e4 with
                    | none => simp only [gb5, gc] at po; exact po.elim
                    | some dc =>
                      simp only [gb5, gc] at po
                      obtain ⟨f5, r5⟩ := lread sr5 k5 gc
                      have sr6 : SR K Z5 H5 σ e4 (lbag lb v2 ++ (lbag lc v5 ++ tmp)) := sr5.perm (by
                        rw [← List.append_assoc, ← List.append_assoc]
                        exact List.Perm.append_right _ List.perm_append_comm)
                      obtain ⟨f6, r6⟩ := lread sr6 k2 gb5
                      refine hr' Z5 H5 ((lbag lb v2 ++ lbag lc v5) ++ tmp ++ slots σ e4) Q (W σ) db5 v2 f6 dc v5 f5 ?_ r6 r5 (PostV.to sr5.fit po)
                      have q := sr6.bag
                      rw [← List.append_assoc] at q
                      exact q
            | _ => exact po.elim
theorem ve_chain {op op' : CmpOp} {r r' : R2} {g g' : D → D → Rs D} {fa fb fc : DE → Res L} (ho : OpR X (compareOp op) r) (ho' : OpR X (compareOp op') r') (hr : OpS X.K r g) (hr' : OpS X.K r' g') (ha : VX X W a fa) (hb : VX X W b fb) (hc : VX X W c fc)
    (hm : lastMarks [op, op'] [b, c] = false := by with_unfolding_all rfl) : VE X W (.Compare a [op, op'] [b, c] pos) (eChain g g' fa fb fc) := by
  obtain ⟨ta, pa, sa⟩ := ha.ex
  obtain ⟨tb, pb, sb⟩ := hb.ex
  obtain ⟨tc, pc, sc⟩ := hc.ex
  exact ⟨_, pe_chain ho ho' pa pb pc hm, snd_chain sa sb sc hr hr'⟩
theorem vt_chain {op op' : CmpOp} {r r' : R2} {g g' : D → D → Rs D} {fa fb fc : DE → Res L} (ho : OpR X (compareOp op) r) (ho' : OpR X (compareOp op') r') (hr : OpS X.K r g) (hr' : OpS X.K r' g') (ha : VX X W a fa) (hb : VX X W b fb) (hc : VX X W c fc)
    (hm : lastMarks [op, op'] [b, c] = false := by with_unfolding_all rfl) : VT X W (.Compare a [op, op'] [b, c] pos) (tOfE (eChain g g' fa fb fc)) := by
  obtain ⟨ta, pa, sa⟩ := ha.ex
  obtain ⟨tb, pb, sb⟩ := hb.ex
  obtain ⟨tc, pc, sc⟩ := hc.ex
  exact ⟨_, pt_chain ho ho' pa pb pc hm, snd_test (snd_chain sa sb sc hr hr')⟩

/-! ### and, or, not, if as values -/
theorem ve_one {op} {f : DE → Res D} (h : VE X W a f) : VE X W (.BoolOp op [a] pos) f := by
  obtain ⟨t, p, s⟩ := h.ex
  exact ⟨_, pe_one p, s⟩
def eAnd (f g : DE → Res D) : DE → Res D := fun e => (f e).bind fun d e1 => match d with
  | .bl b => if b = true then g e1 else .ok (.bl false) e1
  | _ => .stuck
def eOr (f g : DE → Res D) : DE → Res D := fun e => (f e).bind fun d e1 => match d with
  | .bl b => if b = true then .ok (.bl true) e1 else g e1
  | _ => .stuck
def eNot (f : DE → Res D) : DE → Res D := fun e => (f e).bind fun d e1 => match d with
  | .bl b => .ok (.bl (!b)) e1
  | _ => .stuck
theorem ve_and {rest : List Expr} {f g : DE → Res D} (h : VE X W a f) (h2 : VE X W (.BoolOp .And (b :: rest) pos) g) : VE X W (.BoolOp .And (a :: b :: rest) pos) (eAnd f g) := by
  obtain ⟨t, p, s⟩ := h.ex
  obtain ⟨t2, p2, s2⟩ := h2.ex
  refine ⟨_, pe_and p p2, fun Z σ H e tmp Q sr po => s Z σ H e tmp _ sr ?_⟩
  unfold eAnd at po
  cases h1 : f e with
  | stuck => rw [h1] at po; exact po
  | exn x e1 => rw [h1] at po; exact po
  | ok d e1 =>
    rw [h1] at po
    intro Z' H' v q
    cases d with
    | bl k =>
      obtain ⟨fp, r⟩ := q.bag.rep
      obtain ⟨rfl, _⟩ := Rp_bl.mp r
      refine ⟨k, rfl, ?_⟩
      cases k with
      | true => rw [if_pos rfl]; exact s2 Z' σ H' e1 tmp Q q.tail po
      | false => rw [if_neg Bool.false_ne_true]; exact po Z' H' _ q
    | _ => exact po.elim
theorem ve_or {rest : List Expr} {f g : DE → Res D} (h : VE X W a f) (h2 : VE X W (.BoolOp .Or (b :: rest) pos) g) : VE X W (.BoolOp .Or (a :: b :: rest) pos) (eOr f g) := by
  obtain ⟨t, p, s⟩ := h.ex
  obtain ⟨t2, p2, s2⟩ := h2.ex
  refine ⟨_, pe_or p p2, fun Z σ H e tmp Q sr po => s Z σ H e tmp _ sr ?_⟩
  unfold eOr at po
  cases h1 : f e with
  | stuck => rw [h1] at po; exact po
  | exn x e1 => rw [h1] at po; exact po
  | ok d e1 =>
    rw [h1] at po
    intro Z' H' v q
    cases d with
    | bl k =>
      obtain ⟨fp, r⟩ := q.bag.rep
      obtain ⟨rfl, _⟩ := Rp_bl.mp r
      refine ⟨k, rfl, ?_⟩
      cases k with
      | true => rw [if_pos rfl]; exact po Z' H' _ q
      | false => rw [if_neg Bool.false_ne_true]; exact s2 Z' σ H' e1 tmp Q q.tail po
    | _ => exact po.elim
theorem ve_not {f : DE → Res D} (h : VE X W a f) : VE X W (.UnaryOp .Not a pos) (eNot f) := by
  obtain ⟨t, p, s⟩ := h.ex
  refine ⟨_, pe_not p, fun Z σ H e tmp Q sr po => s Z σ H e tmp _ sr ?_⟩
  unfold eNot at po
  cases h1 : f e with
  | stuck => rw [h1] at po; exact po
  | exn x e1 => rw [h1] at po; exact po
  | ok d e1 =>
    rw [h1] at po
    intro Z' H' v q
    cases d with
    | bl k =>
      obtain ⟨fp, r⟩ := q.bag.rep
      obtain ⟨rfl, _⟩ := Rp_bl.mp r
      exact ⟨k, rfl, po Z' H' _ (q.tail.add (Rp_bl.mpr ⟨rfl, rfl⟩))⟩
    | _ => exact po.elim
def eIf (t : DE → Res Bool) (f g : DE → Res D) : DE → Res D := fun e => (t e).bind fun b e1 => if b = true then f e1 else g e1
theorem ve_if {t : DE → Res Bool} {f g : DE → Res D} (hc : VT X W c t) (ha : VE X W a f) (hb : VE X W b g) : VE X W (.IfExp c a b pos) (eIf t f g) := by
  obtain ⟨t0, p0, s0⟩ := hc.ex
  obtain ⟨t1, p1, s1⟩ := ha.ex
  obtain ⟨t2, p2, s2⟩ := hb.ex
  refine ⟨_, pe_ifExp p0 p1 p2, fun Z σ H e tmp Q sr po => s0 Z σ H e tmp _ sr ?_⟩
  unfold eIf at po
  cases h1 : t e with
  | stuck => rw [h1] at po; exact po
  | exn x e1 => rw [h1] at po; exact po
  | ok d e1 =>
    rw [h1] at po
    intro Z' H' q
    cases d with
    | true => rw [if_pos rfl]; exact s1 Z' σ H' e1 tmp Q q po
    | false => rw [if_neg Bool.false_ne_true]; exact s2 Z' σ H' e1 tmp Q q po
def eUn (g : D → Rs D) (fa : DE → Res L) : DE → Res D := fun e => (fa e).bind fun la e1 => match lget la e1 with
  | some da => (g da).at e1
  | none => .stuck
theorem snd_un {K : PySem.W.Frag} {ta : TE} {fa : DE → Res L} {r : V → Hp → VK → Prop} {g : D → Rs D} (ha : SndX K W ta fa) (hr : UnS K r g) : SndE K W (tUn r ta) (eUn g fa) := by
  intro Z σ H e tmp Q sr po
  refine ha Z σ H e tmp _ sr ?_
  unfold eUn at po
  cases h1 : fa e with
  | stuck => rw [h1] at po; exact po
  | exn x e1 => rw [h1] at po; exact po
  | ok la e1 =>
    rw [h1, Res.bind_ok] at po
    intro Z1 H1 v1 sr1 k1
    cases ga : lget la e1 with
    | none => simp only [ga] at po; exact po.elim
    | some da =>
      simp only [ga] at po
      obtain ⟨f1, r1⟩ := lread sr1 k1 ga
      exact hr Z1 H1 (lbag la v1 ++ tmp ++ slots σ e1) Q (W σ) da v1 f1 sr1.bag r1 (PostV.to sr1.fit po)
theorem ve_un {op : UnaryOp} {fa : DE → Res L} {r : V → Hp → VK → Prop} {g : D → Rs D} (ho : UnR X (unaryOp op) r) (hr : UnS X.K r g) (ha : VX X W a fa) : VE X W (.UnaryOp op a pos) (eUn g fa) := by
  obtain ⟨ta, pa, sa⟩ := ha.ex
  exact ⟨_, pe_un ho pa, snd_un sa hr⟩

/-! ### arguments, displays, calls of what is built in -/
def aNil : DE → Res (List L) := fun e => .ok [] e
def aCons (f : DE → Res L) (g : DE → Res (List L)) : DE → Res (List L) := fun e => (f e).bind fun l e1 => (g e1).bind fun ls e2 => .ok (l :: ls) e2
theorem va_nil : VA X W [] aNil := ⟨⟨_, pa_nil, fun Z σ H e tmp Q sr po => po Z H [] sr trivial⟩, fun e ls e1 h => by cases h; rfl⟩
theorem va_cons {f : DE → Res L} {g : DE → Res (List L)} (ha : VX X W e f) (hr : VA X W es g) (hs : starEach (e :: es) X.env = (false, eval e X.env) :: starEach es X.env := by rfl) : VA X W (e :: es) (aCons f g) := by
  obtain ⟨t, p, s⟩ := ha.ex
  obtain ⟨t2, p2, s2⟩ := hr.ex
  refine ⟨⟨_, pa_cons p p2 hs, fun Z σ H e tmp Q sr po => s Z σ H e tmp _ sr ?_⟩, fun e' ls e1 h => ?_⟩
  rotate_left
  · unfold aCons at h
    cases h1 : f e' with
    | stuck => rw [h1] at h; cases h
    | exn x e2 => rw [h1] at h; cases h
    | ok l e2 =>
      rw [h1, Res.bind_ok] at h
      cases h2 : g e2 with
      | stuck => rw [h2] at h; cases h
      | exn x e3 => rw [h2] at h; cases h
      | ok ls' e3 =>
        rw [h2, Res.bind_ok] at h
        cases h
        simp [hr.len _ _ _ h2]
  unfold aCons at po
  cases h1 : f e with
  | stuck => rw [h1] at po; exact po
  | exn x e1 => rw [h1] at po; exact po
  | ok l e1 =>
    rw [h1, Res.bind_ok] at po
    intro Z1 H1 v1 sr1 k1
    refine s2 Z1 σ H1 e1 (lbag l v1 ++ tmp) _ sr1 ?_
    cases h2 : g e1 with
    | stuck => rw [h2] at po; exact po
    | exn x e2 => rw [h2] at po; exact fun Z' H' c o q xr => po Z' H' c o q.drop xr
    | ok ls e2 =>
      rw [h2, Res.bind_ok] at po
      intro Z2 H2 vs sr2 k2
      refine po Z2 H2 (v1 :: vs) (sr2.perm ?_) ⟨k1, k2⟩
      show (lbags ls vs ++ (lbag l v1 ++ tmp)).Perm ((lbag l v1 ++ lbags ls vs) ++ tmp)
      rw [List.append_assoc]
      exact List.perm_append_comm_assoc _ _ _
/-- the operands' trees, all at hand -/
def vals : List L → Option (List D)
  | [] => some []
  | .v d :: ls => (vals ls).map (d :: ·)
  | .s _ :: _ => none
def lgets : List L → DE → Option (List D)
  | [], _ => some []
  | l :: ls, e => match lget l e with
    | some d => (lgets ls e).map (d :: ·)
    | none => none
theorem vals_ok {K : PySem.W.Frag} {Z : AS} {H : Hp} {σ : Sg} : ∀ {ls : List L} {vs : List V} {ds : List D}, vals ls = some ds → loks σ ls vs → lbags ls vs = vs.zip ds ∧ vs.length = ds.length
  | [], [], ds, h, _ => by simp only [vals, Option.some.injEq] at h; subst h; exact ⟨rfl, rfl⟩
  | [], _ :: _, _, _, k => k.elim
  | .v d :: ls, [], _, _, k => k.elim
  | .s i :: ls, _, _, h, _ => by simp [vals] at h
  | .v d :: ls, v :: vs, ds, h, k => by
    simp only [vals, Option.map_eq_some_iff] at h
    obtain ⟨ds1, h1, rfl⟩ := h
    obtain ⟨q1, q2⟩ := vals_ok (K := K) (Z := Z) (H := H) (σ := σ) h1 k.2
    exact ⟨by show (v, d) :: lbags ls vs = (v, d) :: vs.zip ds1; rw [q1], by simp [q2]⟩
theorem lgets_ok {K : PySem.W.Frag} {Z : AS} {H : Hp} {σ : Sg} {e : DE} : ∀ {ls : List L} {vs : List V} {ds : List D} {tmp : Bag}, SR K Z H σ e (lbags ls vs ++ tmp) → loks σ ls vs → lgets ls e = some ds → RpF K Z H ds vs
  | [], [], ds, tmp, _, _, h => by simp only [lgets, Option.some.injEq] at h; subst h; exact .nil
  | [], _ :: _, _, _, _, k, _ => k.elim
  | _ :: _, [], _, _, _, k, _ => k.elim
  | l :: ls, v :: vs, ds, tmp, sr, k, h => by
    unfold lgets at h
    cases g : lget l e with
    | none => rw [g] at h; cases h
    | some d =>
      rw [g] at h
      simp only [Option.map_eq_some_iff] at h
      obtain ⟨ds1, h1, rfl⟩ := h
      have sr1 : SR K Z H σ e (lbag l v ++ (lbags ls vs ++ tmp)) := by rw [← List.append_assoc]; exact sr
      obtain ⟨fp, r⟩ := lread sr1 k.1 g
      have sr2 : SR K Z H σ e (lbags ls vs ++ (lbag l v ++ tmp)) := sr1.perm (List.perm_append_comm_assoc _ _ _)
      exact .cons r (lgets_ok sr2 k.2 h1)
def eTup (fa : DE → Res (List L)) : DE → Res D := fun e => (fa e).bind fun ls e1 => match vals ls with
  | some ds => if ds.length ≤ sizeLine then .ok (.tup (frzL ds)) e1 else .stuck
  | none => .stuck
def eLst (fa : DE → Res (List L)) : DE → Res D := fun e => (fa e).bind fun ls e1 => match vals ls with
  | some ds => if ds.length ≤ sizeLine then .ok (.lst true ds) e1 else .stuck
  | none => .stuck
theorem frzL_length : ∀ ds : List D, (frzL ds).length = ds.length
  | [] => rfl
  | d :: ds => by show (d.frz :: frzL ds).length = _; simp [frzL_length ds]
theorem frz_flag (d : D) : d.frz.flag = false := by cases d <;> first | rfl | (rename_i o _; cases o <;> rfl) | (rename_i o _ _ _; cases o <;> rfl)
theorem frzL_flag : ∀ {ds : List D} {d : D}, d ∈ frzL ds → d.flag = false
  | [], d, h => by cases h
  | x :: ds, d, h => by
    have h : d ∈ x.frz :: frzL ds := h
    rcases List.mem_cons.mp h with rfl | h
    · exact frz_flag x
    · exact frzL_flag h
theorem Hold.freezes {K : PySem.W.Frag} {Z : AS} {H : Hp} : ∀ {vs : List V} {ds : List D} {B : Bag}, Hold K [] Z H (vs.zip ds ++ B) → ∃ Z', (∀ a, Z a → Z' a) ∧ Hold K [] Z' H (vs.zip (frzL ds) ++ B)
  | [], ds, B, h => ⟨Z, fun _ z => z, by cases ds <;> exact h⟩
  | _ :: _, [], B, h => ⟨Z, fun _ z => z, h⟩
  | v :: vs, d :: ds, B, h => by
    obtain ⟨Z1, z1, h1⟩ := Hold.freeze (v := v) (d := d) h
    obtain ⟨Z2, z2, h2⟩ := Hold.freezes (B := (v, d.frz) :: B) (h1.perm (List.perm_middle (a := (v, d.frz))).symm)
    exact ⟨Z2, fun a z => z2 a (z1 a z), h2.perm List.perm_middle⟩
theorem ve_tup {x1 : Nat} {fa : DE → Res (List L)} (ha : VA X W es fa) : VE X W (.Tuple es x1 pos) (eTup fa) := by
  obtain ⟨t, p, s⟩ := ha.ex
  refine ⟨_, pe_tup p, fun Z σ H e tmp Q sr po => s Z σ H e tmp _ sr ?_⟩
  unfold eTup at po
  cases h1 : fa e with
  | stuck => rw [h1] at po; exact po
  | exn x e1 => rw [h1] at po; exact po
  | ok ls e1 =>
    rw [h1, Res.bind_ok] at po
    intro Z1 H1 vs sr1 k1
    cases hv : vals ls with
    | none => simp only [hv] at po; exact po.elim
    | some ds =>
      simp only [hv] at po
      obtain ⟨q1, q2⟩ := vals_ok (K := X.K) (Z := Z1) (H := H1) hv k1
      by_cases hz : ds.length ≤ sizeLine
      · rw [if_pos hz] at po
        refine ⟨by rw [q2]; exact hz, fun p hp => ?_⟩
        rw [q1] at sr1
        have b := sr1.bag
        rw [List.append_assoc] at b
        obtain ⟨Z2, _, b2⟩ := Hold.freezes b
        exact po Z2 _ _ (.of sr1.fit (Hold.mkTup b2 hp (by rw [frzL_length, q2]) fun d hd => frzL_flag hd))
      · rw [if_neg hz] at po; exact po.elim
theorem ve_lst {fa : DE → Res (List L)} (ha : VA X W es fa) : VE X W (.List es pos) (eLst fa) := by
  obtain ⟨t, p, s⟩ := ha.ex
  refine ⟨_, pe_lst p, fun Z σ H e tmp Q sr po => s Z σ H e tmp _ sr ?_⟩
  unfold eLst at po
  cases h1 : fa e with
  | stuck => rw [h1] at po; exact po
  | exn x e1 => rw [h1] at po; exact po
  | ok ls e1 =>
    rw [h1, Res.bind_ok] at po
    intro Z1 H1 vs sr1 k1
    cases hv : vals ls with
    | none => simp only [hv] at po; exact po.elim
    | some ds =>
      simp only [hv] at po
      obtain ⟨q1, q2⟩ := vals_ok (K := X.K) (Z := Z1) (H := H1) hv k1
      by_cases hz : ds.length ≤ sizeLine
      · rw [if_pos hz] at po
        refine ⟨by rw [q2]; exact hz, fun p hp => ?_⟩
        rw [q1] at sr1
        have b := sr1.bag
        rw [List.append_assoc] at b
        exact po Z1 _ _ (.of sr1.fit (Hold.layL (b.new hp) q2 (by simp)))
      · rw [if_neg hz] at po; exact po.elim
/-- a built-in called: its operands' trees are read, nothing is changed -/
def eBlt (g : List D → Rs D) (fa : DE → Res (List L)) : DE → Res D := fun e => (fa e).bind fun ls e1 => match lgets ls e1 with
  | some ds => (g ds).at e1
  | none => .stuck
theorem snd_blt {K : PySem.W.Frag} {t : TA} {fa : DE → Res (List L)} {r : List V → Hp → VK → Prop} {g : List D → Rs D} (ha : SndA K W t fa) (hr : CallS K r g) : SndE K W (tCB r t) (eBlt g fa) := by
  intro Z σ H e tmp Q sr po
  refine ha Z σ H e tmp _ sr ?_
  unfold eBlt at po
  cases h1 : fa e with
  | stuck => rw [h1] at po; exact po
  | exn x e1 => rw [h1] at po; exact po
  | ok ls e1 =>
    rw [h1, Res.bind_ok] at po
    intro Z1 H1 vs sr1 k1
    cases hv : lgets ls e1 with
    | none => simp only [hv] at po; exact po.elim
    | some ds =>
      simp only [hv] at po
      exact hr Z1 H1 (lbags ls vs ++ tmp ++ slots σ e1) Q (W σ) ds vs sr1.bag (lgets_ok sr1 k1 hv) (PostV.to sr1.fit po)
theorem ve_callB {id : String} {x : Str} {p : Pos} {fa : DE → Res (List L)} {r : List V → Hp → VK → Prop} {g : List D → Rs D} (hc : CallR X (.builtin id) r) (hr : CallS X.K r g) (hg : Gl X x) (hm : X.mg x = none) (hv : bootBuiltins x = some (.builtin id)) (ha : VA X W (e :: es) fa) (hn : x ≠ "__name__" := by decide) (hdb : (x == ("__debug__" : Str)) = false := by decide)
    (he : starEach (e :: es) X.env = (false, eval e X.env) :: starEach es X.env := by rfl) (hpl : (backTo pos (starEach es X.env)).any (·.1) = false := by rfl) : VE X W (.Call (.Name x p) (e :: es) [] pos) (eBlt g fa) := by
  obtain ⟨t, p, s⟩ := ha.ex
  exact ⟨_, pe_callB hc hg hm hv p hn hdb he hpl, snd_blt s hr⟩
theorem ve_callTy {T : String} {x : Str} {p : Pos} {fa : DE → Res (List L)} {r : List V → Hp → VK → Prop} {g : List D → Rs D} (hc : CallR X (.type T) r) (hr : CallS X.K r g) (hg : Gl X x) (hm : X.mg x = none) (hv : bootBuiltins x = some (.type T)) (ha : VA X W (e :: es) fa) (hn : x ≠ "__name__" := by decide) (hdb : (x == ("__debug__" : Str)) = false := by decide)
    (he : starEach (e :: es) X.env = (false, eval e X.env) :: starEach es X.env := by rfl) (hpl : (backTo pos (starEach es X.env)).any (·.1) = false := by rfl) : VE X W (.Call (.Name x p) (e :: es) [] pos) (eBlt g fa) := by
  obtain ⟨t, p, s⟩ := ha.ex
  exact ⟨_, pe_callTy hc hg hm hv p hn hdb he hpl, snd_blt s hr⟩
theorem ve_ix {r : R2} {g : D → D → Rs D} {fa fb : DE → Res L} (hi : IxR X r) (hr : OpS X.K r g) (ha : VX X W a fa) (hb : VX X W b fb) (hs : PlainIx b := by exact fun _ _ => rfl) : VE X W (.Subscript a b pos) (eOp2 g fa fb) := by
  obtain ⟨ta, pa, sa⟩ := ha.ex
  obtain ⟨tb, pb, sb⟩ := hb.ex
  exact ⟨_, pe_ix hi pa pb hs, snd_op2 sa sb hr⟩
end
end Tr

set_option maxHeartbeats 2000000
/-! The tree layer 5: statements, loops, comprehensions. -/
namespace Tr
open PySem PySem.Spec PyProof.Rows L2

/-! ### canonical readings -/
def tF (K : PySem.W.Frag) (W : XW) (f : DE → Res D) : TE := fun σ H Q => ∃ Z e tmp, SR K Z H σ e tmp ∧ PostE K W σ tmp Q (f e)
def tFT (K : PySem.W.Frag) (W : XW) (f : DE → Res Bool) : TT := fun σ H Q => ∃ Z e tmp, SR K Z H σ e tmp ∧ PostT K W σ tmp Q (f e)
theorem VE.pe {X : Cx} {W : XW} {e : Expr} {f : DE → Res D} (h : VE X W e f) : PE X e (tF X.K W f) := by
  obtain ⟨t, p, s⟩ := h.ex
  exact ⟨fun pins s0 σ H Q I ⟨Z, e', tmp, sr, po⟩ => p.run pins s0 σ H Q I (s Z σ H e' tmp Q sr po)⟩
theorem VT.pt {X : Cx} {W : XW} {e : Expr} {f : DE → Res Bool} (h : VT X W e f) : PT X e (tFT X.K W f) := by
  obtain ⟨t, p, s⟩ := h.ex
  exact ⟨fun pins s0 σ H Q I ⟨Z, e', tmp, sr, po⟩ => p.run pins s0 σ H Q I (s Z σ H e' tmp Q sr po)⟩

section
variable {X : Cx} {W : XW} {fx : List Nat} {a b c e : Expr} {es : List Expr} {pos : Pos} {st : Stmt} {rest : List Stmt}
theorem Fx.set {σ : Sg} {i : Nat} {v : Option V} (h : fx.contains i = false) : Fx fx σ (σ.set i v) := fun j hj => by
  have : i ≠ j := by
    rintro rfl
    have : fx.contains i = true := by simpa using hj
    rw [h] at this; cases this
  rw [List.getElem?_set_ne this]
theorem PostS.mono {K : PySem.W.Frag} {σ σ' : Sg} {tmp : Bag} {D : Ends} (k : Fx fx σ σ') : ∀ {r : SRes}, PostS K W fx σ tmp D r → PostS K W fx σ' tmp D r
  | .nx _, h => fun Z H σ2 q f => h Z H σ2 q (k.trans f)
  | .rt _ _, h => fun Z H σ2 v q f => h Z H σ2 v q (k.trans f)
  | .bk _, h => fun Z H σ2 q f => h Z H σ2 q (k.trans f)
  | .ct _, h => fun Z H σ2 q f => h Z H σ2 q (k.trans f)
  | .exn _ _, h => fun Z H σ2 c o q f x => h Z H σ2 c o q (k.trans f) x
  | .stuck, h => h

theorem Hold.mid {K : PySem.W.Frag} {ex : List Addr} {Z : AS} {H : Hp} {x : V × D} {L1 L : Bag} (h : Hold K ex Z H (x :: (L1 ++ L))) : Hold K ex Z H (x :: L) := (h.perm (List.perm_middle (a := x)).symm).drop
/-! ### blocks, small statements -/
def sNil : DE → SRes := fun e => .nx e
def SRes.seq (r : SRes) (k : DE → SRes) : SRes := match r with
  | .nx e => k e
  | r => r
@[simp] theorem SRes.seq_nx (e : DE) (k : DE → SRes) : (SRes.nx e).seq k = k e := (rfl)
@[simp] theorem SRes.seq_rt (d : D) (e : DE) (k : DE → SRes) : (SRes.rt d e).seq k = .rt d e := (rfl)
@[simp] theorem SRes.seq_bk (e : DE) (k : DE → SRes) : (SRes.bk e).seq k = .bk e := (rfl)
@[simp] theorem SRes.seq_ct (e : DE) (k : DE → SRes) : (SRes.ct e).seq k = .ct e := (rfl)
@[simp] theorem SRes.seq_exn (x : Exn) (e : DE) (k : DE → SRes) : (SRes.exn x e).seq k = .exn x e := (rfl)
@[simp] theorem SRes.seq_stuck (k : DE → SRes) : SRes.stuck.seq k = .stuck := (rfl)
def sCons (f g : DE → SRes) : DE → SRes := fun e => (f e).seq g
theorem vss_nil : VSs X W fx [] sNil := ⟨_, pss_nil, fun Z σ H e tmp D sr po => po Z H σ sr .refl⟩
theorem vss_one {f : DE → SRes} (h : VS X W fx st f) : VSs X W fx [st] f := by
  obtain ⟨t, p, s⟩ := h.ex
  exact ⟨_, pss_one p, s⟩
theorem vss_cons {f g : DE → SRes} (h : VS X W fx st f) (h2 : VSs X W fx rest g) : VSs X W fx (st :: rest) (sCons f g) := by
  obtain ⟨t, p, s⟩ := h.ex
  obtain ⟨t2, p2, s2⟩ := h2.ex
  refine ⟨_, pss_cons p p2, fun Z σ H e tmp D sr po => s Z σ H e tmp _ sr ?_⟩
  unfold sCons at po
  cases h1 : f e with
  | nx e1 =>
    rw [h1] at po
    exact fun Z' H' σ' q k => s2 Z' σ' H' e1 tmp D q (PostS.mono k po)
  | rt d e1 => rw [h1] at po; exact po
  | bk e1 => rw [h1] at po; exact po
  | ct e1 => rw [h1] at po; exact po
  | exn x e1 => rw [h1] at po; exact po
  | stuck => rw [h1] at po; exact po
theorem vs_pass : VS X W fx (.Pass pos) sNil := ⟨_, ps_pass, fun Z σ H e tmp D sr po => po Z H σ sr .refl⟩
theorem vs_break : VS X W fx (.Break pos) (fun e => .bk e) := ⟨_, ps_break, fun Z σ H e tmp D sr po => po Z H σ sr .refl⟩
theorem vs_continue : VS X W fx (.Continue pos) (fun e => .ct e) := ⟨_, ps_continue, fun Z σ H e tmp D sr po => po Z H σ sr .refl⟩
theorem vs_never : VS X W fx st (fun _ => .stuck) := ⟨_, ps_never, fun Z σ H e tmp D sr po => po⟩
theorem vss_never {sts : List Stmt} : VSs X W fx sts (fun _ => .stuck) := ⟨_, pss_never, fun Z σ H e tmp D sr po => po⟩
theorem vs_doc {x j pos pos'} : VS X W fx (.Expr (.Constant (.str x) j pos) pos') sNil := ⟨_, ps_doc, fun Z σ H e tmp D sr po => po Z H σ sr .refl⟩
def sExpr (f : DE → Res D) : DE → SRes := fun e => (f e).toS fun _ e1 => .nx e1
theorem vs_expr {f : DE → Res D} (h : VE X W e f) (hs : swapsWith e none pos.line X.env = pure false := by rfl) : VS X W fx (.Expr e pos) (sExpr f) := by
  obtain ⟨t, p, s⟩ := h.ex
  refine ⟨_, ps_expr p hs, fun Z σ H e tmp D sr po => s Z σ H e tmp _ sr ?_⟩
  unfold sExpr at po
  cases h1 : f e with
  | stuck => rw [h1] at po; exact po
  | exn x e1 => rw [h1] at po; exact fun Z' H' c o q xr => po Z' H' σ c o q .refl xr
  | ok d e1 => rw [h1] at po; exact fun Z' H' v q => po Z' H' σ q.tail .refl
def sRet (f : DE → Res D) : DE → SRes := fun e => (f e).toS fun d e1 => .rt d e1
theorem vs_ret {f : DE → Res D} (h : VE X W e f) : VS X W fx (.Return (some e) pos) (sRet f) := by
  obtain ⟨t, p, s⟩ := h.ex
  refine ⟨_, ps_ret p, fun Z σ H e tmp D sr po => s Z σ H e tmp _ sr ?_⟩
  unfold sRet at po
  cases h1 : f e with
  | stuck => rw [h1] at po; exact po
  | exn x e1 => rw [h1] at po; exact fun Z' H' c o q xr => po Z' H' σ c o q .refl xr
  | ok d e1 => rw [h1] at po; exact fun Z' H' v q => po Z' H' σ v q .refl
def sRetN : DE → SRes := fun e => .rt .non e
theorem vs_retN : VS X W fx (.Return none pos) sRetN := ⟨_, ps_retN, fun Z σ H e tmp D sr po => po Z H σ .non (sr.add (Rp_non.mpr ⟨rfl, rfl⟩)) .refl⟩
def sIf (t : DE → Res Bool) (f g : DE → SRes) : DE → SRes := fun e => (t e).toS fun b e1 => if b = true then f e1 else g e1
theorem vs_if {sa sb : List Stmt} {t : DE → Res Bool} {f g : DE → SRes} (hc : VT X W c t) (ha : VSs X W fx sa f) (hb : VSs X W fx sb g) : VS X W fx (.If c sa sb pos) (sIf t f g) := by
  obtain ⟨t0, p0, s0⟩ := hc.ex
  obtain ⟨t1, p1, s1⟩ := ha.ex
  obtain ⟨t2, p2, s2⟩ := hb.ex
  refine ⟨_, ps_if p0 p1 p2, fun Z σ H e tmp D sr po => s0 Z σ H e tmp _ sr ?_⟩
  unfold sIf at po
  cases h1 : t e with
  | stuck => rw [h1] at po; exact po
  | exn x e1 => rw [h1] at po; exact fun Z' H' c o q xr => po Z' H' σ c o q .refl xr
  | ok d e1 =>
    rw [h1] at po
    intro Z' H' q
    cases d with
    | true => rw [if_pos rfl]; exact s1 Z' σ H' e1 tmp D q po
    | false => rw [if_neg Bool.false_ne_true]; exact s2 Z' σ H' e1 tmp D q po
def sSet (i : Nat) (f : DE → Res D) : DE → SRes := fun e => (f e).toS fun d e1 => if i < e1.length then .nx (e1.set i (some d)) else .stuck
theorem snd_set {K : PySem.W.Frag} {t : TE} {i : Nat} {f : DE → Res D} (h : SndE K W t f) (hf : fx.contains i = false) : SndS K W fx (tAsg t (gName i)) (sSet i f) := by
  refine fun Z σ H e tmp D sr po => h Z σ H e tmp _ sr ?_
  unfold sSet at po
  cases h1 : f e with
  | stuck => rw [h1] at po; exact po
  | exn x e1 => rw [h1] at po; exact fun Z' H' c o q xr => po Z' H' σ c o q .refl xr
  | ok d e1 =>
    rw [h1, Res.toS_ok] at po
    intro Z' H' v q
    by_cases hi : i < e1.length
    · rw [if_pos hi] at po
      exact po Z' H' (σ.set i (some v)) (q.assign hi) (.set hf)
    · rw [if_neg hi] at po; exact po.elim
theorem vs_set (i : Nat) {x : Str} {f : DE → Res D} {pos' : Pos} (h : VE X W e f) (hN : X.N.Nodup) (hi : X.N[i]? = some x := by rfl) (hx : Loc X.env.scope x := by first | exact Or.inl rfl | exact Or.inr rfl) (hfx : fx.contains i = false := by rfl)
    (hs : swapsWith e (some (.Name x pos')) pos.line X.env = pure false := by rfl) (hf : X.fn x = true ∨ X.env.scope.names.lookup x = some .local := by first | exact .inl rfl | exact .inr rfl) : VS X W fx (.Assign [.Name x pos'] e pos) (sSet i f) := by
  obtain ⟨t, p, s⟩ := h.ex
  exact ⟨_, ps_set hN hi hx p hs hf, snd_set s hfx⟩
/-- name op= e -/
def sAug (g : D → D → Rs D) (i : Nat) (f : DE → Res D) : DE → SRes := fun e => match e.getD i none with
  | some d0 => if d0.flag = true then .stuck else (f e).toS fun d e1 => ((g d0 d).at e1).toS fun r e2 => if i < e2.length then .nx (e2.set i (some r)) else .stuck
  | none => .stuck
theorem vs_aug (i : Nat) {x : Str} {op : Operator} {ti : TIp} {g : D → D → Rs D} {f : DE → Res D} {pos' : Pos} (ho : PIp X op ti) (hg : OpS X.K ti g) (h : VE X W e f) (hN : X.N.Nodup) (hi : X.N[i]? = some x := by rfl) (hx : Loc X.env.scope x := by first | exact Or.inl rfl | exact Or.inr rfl) (hfx : fx.contains i = false := by rfl)
    (hf : X.fn x = true ∨ X.env.scope.names.lookup x = some .local := by first | exact .inl rfl | exact .inr rfl) : VS X W fx (.AugAssign (.Name x pos') op e pos) (sAug g i f) := by
  obtain ⟨t, p, s⟩ := h.ex
  refine ⟨_, ps_aug hN hi hx p ho hf, fun Z σ H e tmp D sr po => ?_⟩
  unfold sAug at po
  cases g0 : e.getD i none with
  | none => simp only [g0] at po; exact po.elim
  | some d0 =>
    simp only [g0] at po
    by_cases hfl : d0.flag = true
    · rw [if_pos hfl] at po; exact po.elim
    · rw [if_neg hfl] at po
      obtain ⟨v0, fp, hs, r⟩ := sr.rd (getD_some g0)
      have e0 := r.noflag (by simpa using hfl)
      subst e0
      refine ⟨v0, hs, s Z σ H e ((v0, d0) :: tmp) _ (sr.add r) ?_⟩
      cases h1 : f e with
      | stuck => rw [h1] at po; exact po
      | exn x e1 => rw [h1] at po; exact fun Z' H' c o q xr => po Z' H' σ c o q.tail .refl xr
      | ok d e1 =>
        rw [h1, Res.toS_ok] at po
        intro Z' H' v q
        obtain ⟨f1, r1⟩ := q.bag.rep
        obtain ⟨f2, r2⟩ := q.tail.bag.rep
        refine hg Z' H' (((v, d) :: (v0, d0) :: tmp) ++ slots σ e1) _ (W σ) d0 v0 f2 d v f1 q.bag r2 r1 ?_
        cases h2 : g d0 d with
        | stuck => rw [h2] at po; exact po
        | exn x =>
          rw [h2] at po
          exact fun Z2 H2 c o q2 xr => po Z2 H2 σ c o (SR.of q.fit q2.tail.tail) .refl xr
        | ok y =>
          rw [h2, Rs.at_ok, Res.toS_ok] at po
          intro Z2 H2 w q2
          by_cases hil : i < e1.length
          · rw [if_pos hil] at po
            have q3 : SR X.K Z2 H2 σ e1 ((w, y) :: tmp) := .of q.fit (Hold.mid (L1 := [(v, d), (v0, d0)]) q2)
            exact po Z2 H2 (σ.set i (some w)) (q3.assign hil) (.set hfx)
          · rw [if_neg hil] at po; exact po.elim

/-! ### while -/
def whF (c : DE → Res Bool) (b : DE → SRes) : Nat → DE → SRes
  | 0, _ => .stuck
  | n + 1, e => (c e).toS fun t e1 => if t = true then (match b e1 with
    | .nx e2 => whF c b n e2
    | .ct e2 => whF c b n e2
    | .bk e2 => .nx e2
    | r => r) else .nx e1
open Classical in
noncomputable def sWhile (c : DE → Res Bool) (b : DE → SRes) : DE → SRes := fun e => if h : ∃ n, whF c b n e ≠ .stuck then whF c b h.choose e else .stuck
theorem whF_mono {c : DE → Res Bool} {b : DE → SRes} : ∀ {n m : Nat} {e : DE}, n ≤ m → whF c b n e ≠ .stuck → whF c b m e = whF c b n e
  | 0, m, e, _, h => absurd rfl h
  | n + 1, 0, e, l, h => absurd l (by omega)
  | n + 1, m + 1, e, l, h => by
    simp only [whF] at h ⊢
    cases h1 : c e with
    | stuck => rfl
    | exn x e1 => rfl
    | ok t e1 =>
      rw [h1] at h
      simp only [Res.toS_ok] at h ⊢
      cases t with
      | false => rfl
      | true =>
        simp only [if_true] at h ⊢
        cases h2 : b e1 with
        | nx e2 => rw [h2] at h; exact whF_mono (by omega) h
        | ct e2 => rw [h2] at h; exact whF_mono (by omega) h
        | bk e2 => rfl
        | rt d e2 => rfl
        | exn x e2 => rfl
        | stuck => rfl
theorem sWhile_eq {c : DE → Res Bool} {b : DE → SRes} {n : Nat} {e : DE} {r : SRes} (h : whF c b n e = r) (hr : r ≠ .stuck) : sWhile c b e = r := by
  have ex : ∃ n, whF c b n e ≠ .stuck := ⟨n, by rw [h]; exact hr⟩
  unfold sWhile
  rw [dif_pos ex]
  have h1 := ex.choose_spec
  rcases Nat.le_total n ex.choose with l | l
  · rw [whF_mono l (by rw [h]; exact hr), h]
  · rw [← h, whF_mono l h1]
theorem vs_while {body : List Stmt} {t : DE → Res Bool} {f : DE → SRes} (hp : PassesOwn (model X.prog X.w) X.A X.env X.xe) (hc : VT X W c t) (hb : VSs X W fx body f) : VS X W fx (.While c body [] pos) (sWhile t f) := by
  obtain ⟨t0, p0, s0⟩ := hc.ex
  obtain ⟨t1, p1, s1⟩ := hb.ex
  refine ⟨_, ps_while hp p0 p1, fun Z σ H e tmp D sr po => ?_⟩
  unfold sWhile at po
  by_cases ex : ∃ n, whF t f n e ≠ .stuck
  · rw [dif_pos ex] at po
    refine ⟨fun m σ' H' => ∃ Z' e', SR X.K Z' H' σ' e' tmp ∧ PostS X.K W fx σ' tmp D (whF t f m e'), ⟨ex.choose, Z, e, sr, po⟩, ?_⟩
    rintro m σ' H' ⟨Z', e', sr', po'⟩
    cases m with
    | zero => exact po'.elim
    | succ m =>
      refine s0 Z' σ' H' e' tmp _ sr' ?_
      simp only [whF] at po'
      cases h1 : t e' with
      | stuck => rw [h1] at po'; exact po'
      | exn x e1 => rw [h1] at po'; exact fun Z' H' c o q xr => po' Z' H' σ' c o q .refl xr
      | ok k e1 =>
        rw [h1, Res.toS_ok] at po'
        intro Z2 H2 q2
        cases k with
        | false => rw [if_neg Bool.false_ne_true]; rw [if_neg Bool.false_ne_true] at po'; exact po' Z2 H2 σ' q2 .refl
        | true =>
          rw [if_pos rfl]; rw [if_pos rfl] at po'
          refine ⟨fun σ3 H3 => ∃ Z3 e3, SR X.K Z3 H3 σ3 e3 tmp ∧ PostS X.K W fx σ3 tmp D (whF t f m e3), fun σ3 H3 h => ⟨m, Nat.lt_succ_self m, h⟩, s1 Z2 σ' H2 e1 tmp _ q2 ?_⟩
          cases h2 : f e1 with
          | nx e2 => rw [h2] at po'; exact fun Z3 H3 σ3 q3 k3 => ⟨Z3, e2, q3, PostS.mono k3 po'⟩
          | ct e2 => rw [h2] at po'; exact fun Z3 H3 σ3 q3 k3 => ⟨Z3, e2, q3, PostS.mono k3 po'⟩
          | bk e2 => rw [h2] at po'; exact po'
          | rt d e2 => rw [h2] at po'; exact po'
          | exn x e2 => rw [h2] at po'; exact po'
          | stuck => rw [h2] at po'; exact po'
  · rw [dif_neg ex] at po; exact po.elim

/-! ### targets -/
/-- a target: g lays the value down; only the slots tgs change -/
structure VG (X : Cx) (tgs : List Nat) (tg : Expr) (g : D → DE → Option DE) : Prop where
  ex : ∃ t, PG X tg t ∧ ∀ Z σ H e tmp v d e' Q, SR X.K Z H σ e ((v, d) :: tmp) → g d e = some e' →
    (∀ Z' H' σ', SR X.K Z' H' σ' e' tmp → σ'.length = σ.length → (∀ j, tgs.contains j = false → σ'[j]? = σ[j]?) → Q σ' H') → t v σ H Q
structure VGs (X : Cx) (tgs : List Nat) (ts : List Expr) (g : List D → DE → Option DE) : Prop where
  ex : ∃ t, PGs X ts t ∧ ∀ Z σ H e tmp vs ds e' Q, SR X.K Z H σ e (vs.zip ds ++ tmp) → vs.length = ds.length → g ds e = some e' →
    (∀ Z' H' σ', SR X.K Z' H' σ' e' tmp → σ'.length = σ.length → (∀ j, tgs.contains j = false → σ'[j]? = σ[j]?) → Q σ' H') → t vs σ H Q
def gN (i : Nat) : D → DE → Option DE := fun d e => if i < e.length then some (e.set i (some d)) else none
theorem vg_name (i : Nat) {x : Str} (hN : X.N.Nodup) (hi : X.N[i]? = some x := by rfl) (hx : Loc X.env.scope x := by first | exact Or.inl rfl | exact Or.inr rfl) (hf : X.fn x = true ∨ X.env.scope.names.lookup x = some .local := by first | exact .inl rfl | exact .inr rfl) :
    VG X [i] (.Name x pos) (gN i) := by
  refine ⟨_, pg_name hN hi hx hf, fun Z σ H e tmp v d e' Q sr hg k => ?_⟩
  unfold gN at hg
  by_cases h : i < e.length
  · rw [if_pos h] at hg; cases hg
    refine k Z H _ (sr.assign h) (by simp) fun j hj => ?_
    have : i ≠ j := by rintro rfl; simp at hj
    rw [List.getElem?_set_ne this]
  · rw [if_neg h] at hg; cases hg
def gsNil : List D → DE → Option DE := fun ds e => match ds with
  | [] => some e
  | _ => none
def gsCons (g : D → DE → Option DE) (gs : List D → DE → Option DE) : List D → DE → Option DE := fun ds e => match ds with
  | d :: ds => (g d e).bind (gs ds)
  | _ => none
theorem vgs_nil : VGs X [] [] gsNil := by
  refine ⟨_, pgs_nil, fun Z σ H e tmp vs ds e' Q sr hl hg k => ?_⟩
  cases ds with
  | nil =>
    cases hg
    have e0 : vs = [] := by simpa using hl
    subst e0
    exact ⟨rfl, k Z H σ sr rfl fun _ _ => rfl⟩
  | cons _ _ => cases hg
theorem vgs_cons {tgs tgs' : List Nat} {g : D → DE → Option DE} {gs : List D → DE → Option DE} (h : VG X tgs e g) (h2 : VGs X tgs' es gs) (hs : (assignEach (e :: es) X.env).map (·.2) = assign e X.env :: (assignEach es X.env).map (·.2) := by rfl) : VGs X (tgs ++ tgs') (e :: es) (gsCons g gs) := by
  obtain ⟨t, p, s⟩ := h.ex
  obtain ⟨t2, p2, s2⟩ := h2.ex
  refine ⟨_, pgs_cons p p2 hs, fun Z σ H e tmp vs ds e' Q sr hl hg k => ?_⟩
  cases ds with
  | nil => cases hg
  | cons d ds =>
    cases vs with
    | nil => simp at hl
    | cons v vs =>
      have hg : (g d e).bind (gs ds) = some e' := hg
      rw [Option.bind_eq_some_iff] at hg
      obtain ⟨e1, h1, h2⟩ := hg
      refine ⟨v, vs, rfl, s Z σ H e (vs.zip ds ++ tmp) v d e1 _ sr h1 fun Z1 H1 σ1 q1 l1 f1 => ?_⟩
      refine s2 Z1 σ1 H1 e1 tmp vs ds e' Q q1 (by simpa using hl) h2 fun Z2 H2 σ2 q2 l2 f2 => k Z2 H2 σ2 q2 (l2.trans l1) fun j hj => ?_
      have hj' : j ∉ tgs ++ tgs' := by simpa using hj
      rw [List.mem_append, not_or] at hj'
      exact (f2 j (by simpa using hj'.2)).trans (f1 j (by simpa using hj'.1))
def gTp (n : Nat) (gs : List D → DE → Option DE) : D → DE → Option DE := fun d e => match d with
  | .tup ds => if ds.length = n then gs ds e else none
  | _ => none
theorem vg_tup {tgs : List Nat} {k n : Nat} {gs : List D → DE → Option DE} (hc : X.calm = true) (h : VGs X tgs es gs) (hn : (assignEach es X.env).length = n := by rfl) (hst : (assignEach es X.env).findIdx? (·.1) = none := by rfl) : VG X tgs (.Tuple es k pos) (gTp n gs) := by
  obtain ⟨t, p, s⟩ := h.ex
  refine ⟨_, pg_tup hc p hn hst, fun Z σ H e tmp v d e' Q sr hg k => ?_⟩
  cases d with
  | tup ds =>
    have hg : (if ds.length = n then gs ds e else none) = some e' := hg
    by_cases hl : ds.length = n
    · rw [if_pos hl] at hg
      obtain ⟨M, r, nd, ne⟩ := sr.bag.rp
      obtain ⟨f1, f2, _, r1, r2⟩ := RpB.cons.mp r
      obtain ⟨_, a, vs, ev, q, rl⟩ := Rp_tup.mp r1
      refine ⟨a, vs, ev, q.seq, by rw [rl.length, hl], ?_⟩
      have addL : ∀ {ds : List D} {vs : List V} {B : Bag}, RpL X.K Z H ds vs [] → Hold X.K [] Z H B → Hold X.K [] Z H (vs.zip ds ++ B) := by
        intro ds
        induction ds with
        | nil => intro vs B h b; obtain ⟨rfl, _⟩ := RpL_nil.mp h; exact b
        | cons d ds ih =>
          intro vs B h b
          obtain ⟨v, vr, g1, g2, rfl, e2, q1, q2⟩ := RpL_cons.mp h
          have z := List.append_eq_nil_iff.mp e2.symm
          rw [z.1] at q1; rw [z.2] at q2
          exact (ih q2 b).add q1
      exact s Z σ H e tmp vs ds e' Q (.of sr.fit (by rw [List.append_assoc]; exact addL rl sr.tail.bag)) rl.length hg k
    · rw [if_neg hl] at hg; cases hg
  | _ => cases hg
/-- target = value -/
def sAsg (f : DE → Res D) (g : D → DE → Option DE) : DE → SRes := fun e => (f e).toS fun d e1 => match g d e1 with
  | some e2 => .nx e2
  | none => .stuck
theorem vs_asg {tgs : List Nat} {tg : Expr} {f : DE → Res D} {g : D → DE → Option DE} (h : VE X W e f) (hg : VG X tgs tg g) (hfx : fx.all (fun i => !tgs.contains i) = true := by rfl) (hs : swapsWithSole [tg] e pos.line X.env = pure false := by rfl) (hw : swappedStores [tg] e X.env = pure none := by rfl)
    (h1 : (assignEach [tg] X.env).map (·.2) = [assign tg X.env] := by rfl) : VS X W fx (.Assign [tg] e pos) (sAsg f g) := by
  obtain ⟨t, p, s⟩ := h.ex
  obtain ⟨t2, p2, s2⟩ := hg.ex
  refine ⟨_, ps_asg p p2 hs hw h1, fun Z σ H e tmp D sr po => s Z σ H e tmp _ sr ?_⟩
  unfold sAsg at po
  cases h1 : f e with
  | stuck => rw [h1] at po; exact po
  | exn x e1 => rw [h1] at po; exact fun Z' H' c o q xr => po Z' H' σ c o q .refl xr
  | ok d e1 =>
    rw [h1, Res.toS_ok] at po
    intro Z' H' v q
    cases hgd : g d e1 with
    | none => simp only [hgd] at po; exact po.elim
    | some e2 =>
      simp only [hgd] at po
      exact s2 Z' σ H' e1 tmp v d e2 _ q hgd fun Z2 H2 σ2 q2 l2 f2 => po Z2 H2 σ2 q2 fun i hi => f2 i (by
        have := List.all_eq_true.mp hfx i hi
        simpa using this)
theorem vals_length : ∀ {ls : List L} {ds : List D}, vals ls = some ds → ds.length = ls.length
  | [], ds, h => by simp only [vals, Option.some.injEq] at h; subst h; rfl
  | .s i :: ls, ds, h => by simp [vals] at h
  | .v d :: ls, ds, h => by
    simp only [vals, Option.map_eq_some_iff] at h
    obtain ⟨ds1, h1, rfl⟩ := h
    simp [vals_length h1]
/-- a, b = x, y: the pair's own tuple is never held -/
def sPar (fa : DE → Res (List L)) (gs : List D → DE → Option DE) : DE → SRes := fun e => (fa e).toS fun ls e1 => match vals ls with
  | some ds => if ds.length ≤ sizeLine then (match gs ds e1 with
    | some e2 => .nx e2
    | none => .stuck) else .stuck
  | none => .stuck
theorem vs_tupasg {tgs : List Nat} {ts : List Expr} {k k2 n : Nat} {pt pt2 : Pos} {fa : DE → Res (List L)} {gs : List D → DE → Option DE} (hc : X.calm = true) (ha : VA X W es fa) (h : VGs X tgs ts gs) (hlen : es.length = n) (hfx : fx.all (fun i => !tgs.contains i) = true := by rfl)
    (hn : (assignEach ts X.env).length = n := by rfl) (hst : (assignEach ts X.env).findIdx? (·.1) = none := by rfl) (hs : swapsWithSole [.Tuple ts k pt] (.Tuple es k2 pt2) pos.line X.env = pure false := by rfl) (hw : swappedStores [.Tuple ts k pt] (.Tuple es k2 pt2) X.env = pure none := by rfl)
    (h1 : (assignEach [.Tuple ts k pt] X.env).map (·.2) = [assign (.Tuple ts k pt) X.env] := by rfl) : VS X W fx (.Assign [.Tuple ts k pt] (.Tuple es k2 pt2) pos) (sPar fa gs) := by
  obtain ⟨t, p, s⟩ := ha.ex
  obtain ⟨t2, p2, s2⟩ := h.ex
  refine ⟨_, ps_asg (pe_tup p) (pg_tup hc p2 hn hst) hs hw h1, fun Z σ H e tmp D sr po => s Z σ H e tmp _ sr ?_⟩
  unfold sPar at po
  cases h1 : fa e with
  | stuck => rw [h1] at po; exact po
  | exn x e1 => rw [h1] at po; exact fun Z' H' c o q xr => po Z' H' σ c o q .refl xr
  | ok ls e1 =>
    rw [h1, Res.toS_ok] at po
    intro Z' H' vs q kk
    cases hv : vals ls with
    | none => simp only [hv] at po; exact po.elim
    | some ds =>
      simp only [hv] at po
      obtain ⟨q1, q2⟩ := vals_ok (K := X.K) (Z := Z') (H := H') hv kk
      by_cases hz : ds.length ≤ sizeLine
      · rw [if_pos hz] at po
        refine ⟨by rw [q2]; exact hz, fun p hp => ?_⟩
        rw [q1] at q
        cases hgd : gs ds e1 with
        | none => simp only [hgd] at po; exact po.elim
        | some e2 =>
          simp only [hgd] at po
          refine ⟨p, vs, rfl, SqT.of upd_same, by rw [q2, vals_length hv, ha.len _ _ _ h1, hlen], ?_⟩
          have q' : SR X.K Z' (upd H' p (.tup vs)) σ e1 (vs.zip ds ++ tmp) := ⟨q.fit, q.hold.growS hp⟩
          exact s2 Z' σ _ e1 tmp vs ds e2 _ q' q2 hgd fun Z2 H2 σ2 q2 l2 f2 => po Z2 H2 σ2 q2 fun i hi => f2 i (by
            have := List.all_eq_true.mp hfx i hi
            simpa using this)
      · rw [if_neg hz] at po; exact po.elim
end
end Tr

set_option maxHeartbeats 2000000
/-! The tree layer 6: what is walked, for, comprehensions. -/
namespace Tr
open PySem PySem.Spec PyProof.Rows L2

/-- while B is held and S holds of the frame, J yields just ds -/
structure Yld (K : PySem.W.Frag) (B : Bag) (J : It) (ds : List D) (S : Sg → DE → Prop) : Prop where
  go : ∀ Z H σ e tmp i d, SR K Z H σ e (B ++ tmp) → S σ e → ds[i]? = some d → J.go i H ∧ ∀ x H', J.yld i H x H' → ∃ Z', SR K Z' H' σ e ((x, d) :: (B ++ tmp))
  stop : ∀ Z H σ e tmp, SR K Z H σ e (B ++ tmp) → S σ e → J.stop ds.length H
/-- what walks: its items; whose slot stays (none: it hangs on no slot) -/
structure Wk where
  ds : List D
  at_ : Option (Nat × D)
def Wk.S (k : Wk) (σ0 : Sg) : Sg → DE → Prop := fun σ e => match k.at_ with
  | none => True
  | some (i, d) => σ[i]? = σ0[i]? ∧ e.getD i none = some d
def Wk.C (k : Wk) : DE → Prop := fun e => match k.at_ with
  | none => True
  | some (i, d) => e.getD i none = some d
def PostI (K : PySem.W.Frag) (W : XW) (σ : Sg) (tmp : Bag) (R : It → Hp → Prop) : Res Wk → Prop
  | .ok k e' => ∀ Z' H' J B, SR K Z' H' σ e' (B ++ tmp) → Yld K B J k.ds (k.S σ) → R J H'
  | .exn x e' => ∀ Z' H' c o, SR K Z' H' σ e' tmp → XR K Z' H' x c o → W σ c o H'
  | .stuck => False
def SndI (K : PySem.W.Frag) (W : XW) (t : TI) (f : DE → Res Wk) : Prop := ∀ Z σ H e tmp R, SR K Z H σ e tmp → PostI K W σ tmp R (f e) → t σ H R
structure VI (X : Cx) (W : XW) (tg iter : Expr) (f : DE → Res Wk) : Prop where
  ex : ∃ t, PI X tg iter t ∧ SndI X.K W t f

section
variable {X : Cx} {W : XW} {fx : List Nat} {a b c e tg : Expr} {es : List Expr} {pos : Pos}
theorem pi_or {iter : Expr} {w1 w2 : TI} (h1 : PI X tg iter w1) (h2 : PI X tg iter w2) : PI X tg iter (fun σ H R => w1 σ H R ∨ w2 σ H R) :=
  ⟨fun pins s σ H R I h => h.elim (h1.run pins s σ H R I) (h2.run pins s σ H R I)⟩
def D.items : D → Option (List D)
  | .tup ds => some ds
  | .lst _ ds => some (frzL ds)
  | .scr ns => some (ns.map .int)
  | _ => none
theorem Rp.frz_id {K : PySem.W.Frag} {Z : AS} {H : Hp} {d : D} {v : V} (h : Rp K Z H d v []) : d.frz = d := by
  cases d with
  | lst o _ =>
    rcases Rp_lst.mp h with ⟨rfl, _⟩ | ⟨_, _, _, _, _, e3, _⟩
    · rfl
    · cases e3
  | ins o _ _ _ =>
    rcases Rp_ins.mp h with ⟨rfl, _⟩ | ⟨_, _, _, _, _, _, e3, _⟩
    · rfl
    · cases e3
  | _ => rfl
theorem RpL.frz_id {K : PySem.W.Frag} {Z : AS} {H : Hp} : ∀ {ds : List D} {vs : List V}, RpL K Z H ds vs [] → frzL ds = ds
  | [], _, _ => rfl
  | d :: ds, vs, h => by
    obtain ⟨v, vr, g1, g2, rfl, e2, q1, q2⟩ := RpL_cons.mp h
    have z := List.append_eq_nil_iff.mp e2.symm
    rw [z.2] at q2
    rw [z.1] at q1
    show d.frz :: frzL ds = d :: ds
    rw [q1.frz_id, RpL.frz_id q2]
theorem RpL.ats {K : PySem.W.Frag} {Z : AS} {H : Hp} {ds : List D} {vs : List V} (h : RpL K Z H ds vs []) {i : Nat} {d : D} (hi : ds[i]? = some d) : ∃ v, vs[i]? = some v ∧ Rp K Z H d v [] := by
  obtain ⟨v, f, h1, h2, h3⟩ := h.at hi
  have : f = [] := List.eq_nil_iff_forall_not_mem.mpr fun a ha => by simpa using h3 a ha
  subst this
  exact ⟨v, h1, h2⟩
theorem its_tup {K : PySem.W.Frag} {a : Addr} {ds : List D} {S : Sg → DE → Prop} : Yld K [(.ref a, .tup ds)] (Itt K a) ds S where
  go := fun Z H σ e tmp i d sr _ hi => by
    obtain ⟨fp, r⟩ := Hold.rep (L := tmp ++ slots σ e) sr.bag
    obtain ⟨_, a', vs, ev, q, rl⟩ := Rp_tup.mp r
    cases ev
    obtain ⟨v, hv, rv⟩ := rl.ats hi
    refine ⟨⟨vs, v, q.seq, hv⟩, fun x H' y => ?_⟩
    obtain ⟨rfl, y⟩ := y
    have := y vs q.seq
    rw [hv] at this; cases this
    exact ⟨Z, sr.add rv⟩
  stop := fun Z H σ e tmp sr _ => by
    obtain ⟨fp, r⟩ := Hold.rep (L := tmp ++ slots σ e) sr.bag
    obtain ⟨_, a', vs, ev, q, rl⟩ := Rp_tup.mp r
    cases ev
    exact ⟨vs, q.seq, by rw [rl.length]; exact Nat.le_refl _⟩
theorem its_lst {K : PySem.W.Frag} {a : Addr} {ds : List D} {S : Sg → DE → Prop} : Yld K [(.ref a, .lst false ds)] (Itl K a) ds S where
  go := fun Z H σ e tmp i d sr _ hi => by
    obtain ⟨fp, r⟩ := Hold.rep (L := tmp ++ slots σ e) sr.bag
    rcases Rp_lst.mp r with ⟨_, _, a', vs, ev, z, q, rl⟩ | ⟨h, _⟩
    · cases ev
      obtain ⟨v, hv, rv⟩ := rl.ats hi
      refine ⟨⟨vs, v, .of q, hv⟩, fun x H' y => ?_⟩
      obtain ⟨rfl, y⟩ := y
      have := y vs (.of q)
      rw [hv] at this; cases this
      exact ⟨Z, sr.add rv⟩
    · cases h
  stop := fun Z H σ e tmp sr _ => by
    obtain ⟨fp, r⟩ := Hold.rep (L := tmp ++ slots σ e) sr.bag
    rcases Rp_lst.mp r with ⟨_, _, a', vs, ev, z, q, rl⟩ | ⟨h, _⟩
    · cases ev
      exact ⟨vs, .of q, by rw [rl.length]; exact Nat.le_refl _⟩
    · cases h
theorem its_scr {K : PySem.W.Frag} {a : Addr} {ns : List Int} {S : Sg → DE → Prop} : Yld K [(.ref a, .scr ns)] (Itl K a) (ns.map .int) S where
  go := fun Z H σ e tmp i d sr _ hi => by
    obtain ⟨fp, r⟩ := Hold.rep (L := tmp ++ slots σ e) sr.bag
    obtain ⟨_, a', ev, q⟩ := Rp_scr.mp r
    cases ev
    rw [List.getElem?_map] at hi
    cases hn : ns[i]? with
    | none => rw [hn] at hi; cases hi
    | some n =>
      rw [hn] at hi
      cases hi
      refine ⟨⟨ns.map V.int, .int n, q.seq, by rw [List.getElem?_map, hn]; rfl⟩, fun x H' y => ?_⟩
      obtain ⟨rfl, y⟩ := y
      have := y _ q.seq
      rw [List.getElem?_map, hn] at this; cases this
      exact ⟨Z, sr.add (Rp_int.mpr ⟨rfl, rfl⟩)⟩
  stop := fun Z H σ e tmp sr _ => by
    obtain ⟨fp, r⟩ := Hold.rep (L := tmp ++ slots σ e) sr.bag
    obtain ⟨_, a', ev, q⟩ := Rp_scr.mp r
    cases ev
    exact ⟨_, q.seq, by simp⟩
/-- over a value at hand (a list is frozen) -/
def iVal (f : DE → Res D) : DE → Res Wk := fun e => (f e).bind fun d e1 => match d.items with
  | some ds => .ok ⟨ds, none⟩ e1
  | none => .stuck
theorem vi_val {f : DE → Res D} (h : VE X W e f) : VI X W tg e (iVal f) := by
  obtain ⟨t, p, s⟩ := h.ex
  refine ⟨_, pi_or (pi_tup p) (pi_list p), fun Z σ H e tmp R sr po => ?_⟩
  unfold iVal at po
  cases h1 : f e with
  | stuck => rw [h1] at po; exact po.elim
  | exn x e1 => rw [h1] at po; exact .inl (s Z σ H e tmp _ sr (by rw [h1]; exact po))
  | ok d e1 =>
    rw [h1, Res.bind_ok] at po
    cases d with
    | tup ds =>
      refine .inl (s Z σ H e tmp _ sr (by
        rw [h1]
        intro Z' H' v q
        obtain ⟨fp, r⟩ := q.bag.rep
        obtain ⟨_, a, vs, ev, hq, rl⟩ := Rp_tup.mp r
        subst ev
        exact ⟨a, rfl, ⟨vs, hq.seq⟩, po Z' H' _ [(.ref a, .tup ds)] q its_tup⟩))
    | lst o ds =>
      refine .inr (s Z σ H e tmp _ sr (by
        rw [h1]
        intro Z' H' v q
        obtain ⟨Z2, q2⟩ := q.freeze
        have q3 : SR X.K Z2 H' σ e1 ((v, .lst false (frzL ds)) :: tmp) := by
          cases o with
          | true => exact q2
          | false =>
            have e0 : frzL ds = ds := by
              obtain ⟨fp, r⟩ := q.bag.rep
              rcases Rp_lst.mp r with ⟨_, _, a', vs, ev, z, hq, rl⟩ | ⟨h, _⟩
              · exact rl.frz_id
              · cases h
            rw [e0]; exact q2
        obtain ⟨fp, r⟩ := q3.bag.rep
        rcases Rp_lst.mp r with ⟨_, _, a', vs, ev, z, hq, rl⟩ | ⟨h, _⟩
        · subst ev
          exact ⟨a', rfl, ⟨vs, .of hq⟩, po Z2 H' _ [(.ref a', .lst false (frzL ds))] q3 its_lst⟩
        · cases h))
    | scr ns =>
      refine .inr (s Z σ H e tmp _ sr (by
        rw [h1]
        intro Z' H' v q
        obtain ⟨fp, r⟩ := q.bag.rep
        obtain ⟨_, a', ev, hq⟩ := Rp_scr.mp r
        subst ev
        exact ⟨a', rfl, ⟨_, hq.seq⟩, po Z' H' _ [(.ref a', .scr ns)] q its_scr⟩))
    | _ => exact po.elim
/-- over what stands in a slot, which is lent -/
def iSlot (i : Nat) : DE → Res Wk := fun e => match e.getD i none with
  | some (.lst true ds) => if ds.all (fun d => !d.flag) = true then .ok ⟨ds, some (i, .lst true ds)⟩ e else .stuck
  | some d => match d.items with
    | some ds => .ok ⟨ds, none⟩ e
    | none => .stuck
  | none => .stuck
theorem its_slot {K : PySem.W.Frag} {a : Addr} {ds : List D} {i : Nat} {σ0 : Sg} (h0 : σ0[i]? = some (some (.ref a))) (hf : ∀ d ∈ ds, d.flag = false) : Yld K [] (Itl K a) ds (Wk.S ⟨ds, some (i, .lst true ds)⟩ σ0) where
  go := fun Z H σ e tmp j d sr st hj => by
    obtain ⟨s1, s2⟩ := st
    obtain ⟨v, fp, hv, r⟩ := sr.rd (getD_some s2)
    rw [s1, h0] at hv
    cases hv
    rcases Rp_lst.mp r with ⟨h, _⟩ | ⟨_, a', vs, fp', ev, _, _, q, rl⟩
    · cases h
    · cases ev
      obtain ⟨v, f, hv, rv, _⟩ := rl.at hj
      have e0 := rv.noflag (hf d (List.mem_of_getElem? hj))
      subst e0
      refine ⟨⟨vs, v, .of q, hv⟩, fun x H' y => ?_⟩
      obtain ⟨rfl, y⟩ := y
      have := y vs (.of q)
      rw [hv] at this; cases this
      exact ⟨Z, sr.add rv⟩
  stop := fun Z H σ e tmp sr st => by
    obtain ⟨s1, s2⟩ := st
    obtain ⟨v, fp, hv, r⟩ := sr.rd (getD_some s2)
    rw [s1, h0] at hv
    cases hv
    rcases Rp_lst.mp r with ⟨h, _⟩ | ⟨_, a', vs, fp', ev, _, _, q, rl⟩
    · cases h
    · cases ev
      exact ⟨vs, .of q, by rw [rl.length]; exact Nat.le_refl _⟩
theorem vi_slot (i : Nat) {x : Str} (hN : X.N[i]? = some x := by rfl) (hv : Vis X.env.scope x := by first | exact Or.inl rfl | exact Or.inr (Or.inl rfl) | exact Or.inr (Or.inr rfl)) (hd : (x == ("__debug__" : Str)) = false := by decide)
    (hcd : (x == ("__classdict__" : Str)) = false := by decide) : VI X W tg (.Name x pos) (iSlot i) := by
  have p := pe_var (X := X) (pos := pos) hN hv hd hcd
  refine ⟨_, pi_or (pi_tup p) (pi_list p), fun Z σ H e tmp R sr po => ?_⟩
  unfold iSlot at po
  cases g : e.getD i none with
  | none => simp only [g] at po; exact po.elim
  | some d =>
    simp only [g] at po
    obtain ⟨v, fp, hs, r⟩ := sr.rd (getD_some g)
    cases d with
    | tup ds =>
      have e0 := r.noflag rfl
      subst e0
      obtain ⟨_, a, vs, ev, hq, rl⟩ := Rp_tup.mp r
      subst ev
      exact .inl ⟨_, hs, a, rfl, ⟨vs, hq.seq⟩, po Z H _ [(.ref a, .tup ds)] (sr.add r) its_tup⟩
    | scr ns =>
      have e0 := r.noflag rfl
      subst e0
      obtain ⟨_, a', ev, hq⟩ := Rp_scr.mp r
      subst ev
      exact .inr ⟨_, hs, a', rfl, ⟨_, hq.seq⟩, po Z H _ [(.ref a', .scr ns)] (sr.add r) its_scr⟩
    | lst o ds =>
      cases o with
      | false =>
        have e0 := r.noflag rfl
        subst e0
        rcases Rp_lst.mp r with ⟨_, _, a', vs, ev, z, hq, rl⟩ | ⟨h, _⟩
        · subst ev
          have po : PostI X.K W σ tmp R (.ok ⟨frzL ds, none⟩ e) := po
          rw [rl.frz_id] at po
          exact .inr ⟨_, hs, a', rfl, ⟨vs, .of hq⟩, po Z H _ [(.ref a', .lst false ds)] (sr.add r) its_lst⟩
        · cases h
      | true =>
        by_cases hf : ds.all (fun d => !d.flag) = true
        · have po : PostI X.K W σ tmp R (if ds.all (fun d => !d.flag) = true then .ok ⟨ds, some (i, .lst true ds)⟩ e else .stuck) := po
          rw [if_pos hf] at po
          rcases Rp_lst.mp r with ⟨h, _⟩ | ⟨_, a', vs, fp', ev, _, _, q, rl⟩
          · cases h
          · subst ev
            refine .inr ⟨_, hs, a', rfl, ⟨vs, .of q⟩, po Z H _ [] sr (its_slot hs fun d hd => ?_)⟩
            have := List.all_eq_true.mp hf d hd
            simpa using this
        · have po : PostI X.K W σ tmp R (if ds.all (fun d => !d.flag) = true then .ok ⟨ds, some (i, .lst true ds)⟩ e else .stuck) := po
          rw [if_neg hf] at po
          exact po.elim
    | _ => exact po.elim
/-- over a range -/
theorem its_range {K : PySem.W.Frag} {lo : Int} {n : Nat} {S : Sg → DE → Prop} : Yld K [] (Itr lo n) ((List.range n).map fun k => D.int (lo + (k : Nat))) S where
  go := fun Z H σ e tmp i d sr _ hi => by
    rw [List.getElem?_map] at hi
    by_cases h : i < n
    · rw [List.getElem?_range h] at hi
      cases hi
      refine ⟨h, fun x H' y => ?_⟩
      obtain ⟨rfl, rfl⟩ := y
      exact ⟨Z, sr.add (Rp_int.mpr ⟨rfl, rfl⟩)⟩
    · rw [List.getElem?_eq_none (by simpa using h)] at hi; cases hi
  stop := fun Z H σ e tmp sr _ => by show n ≤ _; simp
def dInts : List D → Option (List Int)
  | [] => some []
  | .int i :: ds => (dInts ds).map (i :: ·)
  | _ => none
def rng (lo hi : Int) : List D := (List.range (hi - lo).toNat).map fun k => D.int (lo + (k : Nat))
def small62 (i : Int) : Bool := decide (-(2 ^ 62) ≤ i) && decide (i < 2 ^ 62)
def iRng1f (fa : DE → Res (List L)) : DE → Res Wk := fun e => (fa e).bind fun ls e1 => match lgets ls e1 with
  | some [.int j] => if small62 j = true then .ok ⟨rng 0 j, none⟩ e1 else .stuck
  | _ => .stuck
def iRng2f (fa : DE → Res (List L)) : DE → Res Wk := fun e => (fa e).bind fun ls e1 => match lgets ls e1 with
  | some [.int i, .int j] => if (small62 i && small62 j) = true then .ok ⟨rng i j, none⟩ e1 else .stuck
  | _ => .stuck
theorem rng_0 (j : Int) : (List.range j.toNat).map (fun k => D.int (0 + (k : Nat))) = rng 0 j := by unfold rng; rw [Int.sub_zero]
theorem drop_bags {K : PySem.W.Frag} {Z : AS} {H : Hp} {σ : Sg} {e : DE} {ls : List L} {vs : List V} {tmp : Bag} (h : SR K Z H σ e (lbags ls vs ++ tmp)) : SR K Z H σ e tmp := h.drop
theorem vi_range1 {fa : DE → Res (List L)} {p : Pos} (hg : Gl X "range") (hm : X.mg "range" = none) (h : VA X W [a] fa) (hs : starEach [a] X.env = [(false, eval a X.env)] := by rfl) : VI X W tg (.Call (.Name "range" p) [a] [] pos) (iRng1f fa) := by
  obtain ⟨t, p, s⟩ := h.ex
  refine ⟨_, pi_range1 hg hm p hs, fun Z σ H e tmp R sr po => s Z σ H e tmp _ sr ?_⟩
  unfold iRng1f at po
  cases h1 : fa e with
  | stuck => rw [h1] at po; exact po
  | exn x e1 => rw [h1] at po; exact po
  | ok ls e1 =>
    rw [h1, Res.bind_ok] at po
    intro Z' H' vs q k
    split at po
    · rename_i j gl
      have r := lgets_ok q k gl
      cases r with
      | cons r rr =>
        cases rr
        obtain ⟨rfl, _⟩ := Rp_int.mp r
        by_cases hj : small62 j = true
        · rw [if_pos hj] at po
          unfold small62 at hj
          simp only [Bool.and_eq_true, decide_eq_true_eq] at hj
          refine ⟨j, rfl, hj.1, hj.2, po Z' H' _ [] (drop_bags q) ?_⟩
          show Yld X.K [] _ (rng 0 j) _
          rw [← rng_0]
          exact its_range
        · rw [if_neg hj] at po; exact po.elim
    · exact po.elim
theorem vi_range2 {fa : DE → Res (List L)} {p : Pos} (hg : Gl X "range") (hm : X.mg "range" = none) (h : VA X W [a, b] fa) (hs : starEach [a, b] X.env = [(false, eval a X.env), (false, eval b X.env)] := by rfl) (hs2 : starEach [b] X.env = [(false, eval b X.env)] := by rfl) :
    VI X W tg (.Call (.Name "range" p) [a, b] [] pos) (iRng2f fa) := by
  obtain ⟨t, p, s⟩ := h.ex
  refine ⟨_, pi_range2 hg hm p hs hs2, fun Z σ H e tmp R sr po => s Z σ H e tmp _ sr ?_⟩
  unfold iRng2f at po
  cases h1 : fa e with
  | stuck => rw [h1] at po; exact po
  | exn x e1 => rw [h1] at po; exact po
  | ok ls e1 =>
    rw [h1, Res.bind_ok] at po
    intro Z' H' vs q k
    split at po
    · rename_i i j gl
      have r := lgets_ok q k gl
      cases r with
      | cons r rr =>
        cases rr with
        | cons r' rr =>
          cases rr
          obtain ⟨rfl, _⟩ := Rp_int.mp r
          obtain ⟨rfl, _⟩ := Rp_int.mp r'
          by_cases hj : (small62 i && small62 j) = true
          · rw [if_pos hj] at po
            unfold small62 at hj
            simp only [Bool.and_eq_true, decide_eq_true_eq] at hj
            exact ⟨i, j, rfl, ⟨hj.1.1, hj.1.2, hj.2.1, hj.2.2⟩, po Z' H' _ [] (drop_bags q) its_range⟩
          · rw [if_neg hj] at po; exact po.elim
    · exact po.elim
/-- a range with a step -/
def rngC (i j c : Int) : List D := (List.range (Builtin.Range.rangeSize i j c).toNat).map fun k => D.int (i + (k : Nat) * c)
def rgOk (i j c : Int) : Bool := decide (c ≠ 0) && decide (c.natAbs < 1073741824) && Builtin.Range.small i j c && decide (0 ≤ Builtin.Range.rangeSize i j c)
def iRng3f (fa : DE → Res (List L)) : DE → Res Wk := fun e => (fa e).bind fun ls e1 => match lgets ls e1 with
  | some [.int i, .int j, .int c] => if rgOk i j c = true then .ok ⟨rngC i j c, none⟩ e1 else .stuck
  | _ => .stuck
theorem its_rangeC {K : PySem.W.Frag} {lo c : Int} {n : Nat} {S : Sg → DE → Prop} : Yld K [] (Itc lo c n) ((List.range n).map fun k => D.int (lo + (k : Nat) * c)) S where
  go := fun Z H σ e tmp i d sr _ hi => by
    rw [List.getElem?_map] at hi
    by_cases h : i < n
    · rw [List.getElem?_range h] at hi
      cases hi
      refine ⟨h, fun x H' y => ?_⟩
      obtain ⟨rfl, rfl⟩ := y
      exact ⟨Z, sr.add (Rp_int.mpr ⟨rfl, rfl⟩)⟩
    · rw [List.getElem?_eq_none (by simpa using h)] at hi; cases hi
  stop := fun Z H σ e tmp sr _ => by show n ≤ _; simp
theorem vi_range3 {fa : DE → Res (List L)} {p : Pos} (hg : Gl X "range") (hm : X.mg "range" = none) (h : VA X W [a, b, c] fa) (hs : starEach [a, b, c] X.env = (false, eval a X.env) :: starEach [b, c] X.env := by rfl) (hpl : (backTo pos (starEach [b, c] X.env)).any (·.1) = false := by rfl) :
    VI X W tg (.Call (.Name "range" p) [a, b, c] [] pos) (iRng3f fa) := by
  obtain ⟨t, p, s⟩ := h.ex
  refine ⟨_, pi_range3 hg hm p hs hpl, fun Z σ H e tmp R sr po => s Z σ H e tmp _ sr ?_⟩
  unfold iRng3f at po
  cases h1 : fa e with
  | stuck => rw [h1] at po; exact po
  | exn x e1 => rw [h1] at po; exact po
  | ok ls e1 =>
    rw [h1, Res.bind_ok] at po
    intro Z' H' vs q k
    split at po
    · rename_i i j c gl
      have r := lgets_ok q k gl
      cases r with
      | cons r rr =>
        cases rr with
        | cons r' rr =>
          cases rr with
          | cons r'' rr =>
            cases rr
            obtain ⟨rfl, _⟩ := Rp_int.mp r
            obtain ⟨rfl, _⟩ := Rp_int.mp r'
            obtain ⟨rfl, _⟩ := Rp_int.mp r''
            by_cases hj : rgOk i j c = true
            · rw [if_pos hj] at po
              unfold rgOk at hj
              simp only [Bool.and_eq_true, decide_eq_true_eq] at hj
              exact ⟨i, j, c, (Builtin.Range.rangeSize i j c).toNat, rfl, ⟨hj.1.1.1, hj.1.1.2, hj.1.2, by have := hj.2; omega⟩, po Z' H' _ [] (drop_bags q) its_rangeC⟩
            · rw [if_neg hj] at po; exact po.elim
    · exact po.elim

/-! ### for -/
def forL (g : D → DE → Option DE) (b : DE → SRes) : List D → DE → SRes
  | [], e => .nx e
  | d :: ds, e => match g d e with
    | some e1 => (match b e1 with
      | .nx e2 => forL g b ds e2
      | .ct e2 => forL g b ds e2
      | .bk e2 => .nx e2
      | r => r)
    | none => .stuck
def sFor (fi : DE → Res Wk) (g : D → DE → Option DE) (b : DE → SRes) : DE → SRes := fun e => (fi e).toS fun k e1 => match k.at_ with
  | none => forL g b k.ds e1
  | some _ => .stuck
theorem vs_for {iter : Expr} {tgs : List Nat} {body : List Stmt} {fi : DE → Res Wk} {g : D → DE → Option DE} {f : DE → SRes} (hp : PassesOwn (model X.prog X.w) X.A X.env X.xe) (hc : X.calm = true) (hi : VI X W tg iter fi) (hg : VG X tgs tg g) (hb : VSs X W fx body f)
    (hfx : fx.all (fun i => !tgs.contains i) = true := by rfl) (hs : ∀ x, foldedSetIterable iter X.env x = pure x := by intro _; rfl) : VS X W fx (.For tg iter body [] pos) (sFor fi g f) := by
  obtain ⟨t0, p0, s0⟩ := hi.ex
  obtain ⟨t1, p1, s1⟩ := hg.ex
  obtain ⟨t2, p2, s2⟩ := hb.ex
  refine ⟨_, ps_for hp hc p0 p1 p2 hs, fun Z σ H e tmp D sr po => s0 Z σ H e tmp _ sr ?_⟩
  unfold sFor at po
  cases h1 : fi e with
  | stuck => rw [h1] at po; exact po
  | exn x e1 => rw [h1] at po; exact fun Z' H' c o q xr => po Z' H' σ c o q .refl xr
  | ok k e1 =>
    rw [h1, Res.toS_ok] at po
    obtain ⟨ds, at_⟩ := k
    cases at_ with
    | some _ => exact po.elim
    | none =>
      have po : PostS X.K W fx σ tmp D (forL g f ds e1) := po
      intro Z1 H1 J B q1 its
      have its : Yld X.K B J ds fun _ _ => True := its
      refine ⟨fun i m σ' H' => m = ds.length - i ∧ i ≤ ds.length ∧ ∃ Z' e', SR X.K Z' H' σ' e' (B ++ tmp) ∧ PostS X.K W fx σ' tmp D (forL g f (ds.drop i) e'), ⟨ds.length, by simp, Nat.zero_le _, Z1, e1, q1, po⟩, ?_⟩
      rintro i m σ' H' ⟨rfl, hi, Z', e', q', po'⟩
      by_cases hlt : i < ds.length
      · have hd : ds[i]? = some ds[i] := List.getElem?_eq_getElem hlt
        obtain ⟨go, yl⟩ := its.go Z' H' σ' e' tmp i ds[i] q' trivial hd
        rw [List.drop_eq_getElem_cons hlt] at po'
        refine .inr ⟨go, fun σ3 H3 => ∃ Z3 e3, SR X.K Z3 H3 σ3 e3 (B ++ tmp) ∧ PostS X.K W fx σ3 tmp D (forL g f (ds.drop (i + 1)) e3), fun σ3 H3 h => ⟨ds.length - (i + 1), by omega, rfl, hlt, h⟩, fun x H2 y => ?_⟩
        obtain ⟨Z2, q2⟩ := yl x H2 y
        simp only [forL] at po'
        cases hgd : g ds[i] e' with
        | none => simp only [hgd] at po'; exact po'.elim
        | some e2 =>
          simp only [hgd] at po'
          refine s1 Z2 σ' H2 e' (B ++ tmp) x _ e2 _ q2 hgd fun Z3 H3 σ3 q3 l3 f3 => ?_
          have fk : Fx fx σ' σ3 := fun j hj => f3 j (by
            have := List.all_eq_true.mp hfx j hj
            simpa using this)
          refine s2 Z3 σ3 H3 e2 (B ++ tmp) _ q3 ?_
          cases h4 : f e2 with
          | nx e4 => rw [h4] at po'; exact fun Z4 H4 σ4 q4 k4 => ⟨Z4, e4, q4, PostS.mono (fk.trans k4) po'⟩
          | ct e4 => rw [h4] at po'; exact fun Z4 H4 σ4 q4 k4 => ⟨Z4, e4, q4, PostS.mono (fk.trans k4) po'⟩
          | bk e4 => rw [h4] at po'; exact fun Z4 H4 σ4 q4 k4 => po' Z4 H4 σ4 q4.drop (fk.trans k4)
          | rt d e4 => rw [h4] at po'; exact fun Z4 H4 σ4 v q4 k4 => po' Z4 H4 σ4 v (SR.drop (l := B) (q4.perm (List.perm_middle (a := (v, d))).symm)) (fk.trans k4)
          | exn x e4 => rw [h4] at po'; exact fun Z4 H4 σ4 c o q4 k4 xr => po' Z4 H4 σ4 c o q4.drop (fk.trans k4) xr
          | stuck => rw [h4] at po'; exact po'.elim
      · have e0 : i = ds.length := by omega
        subst e0
        rw [List.drop_length] at po'
        exact .inl ⟨its.stop Z' H' σ' e' tmp q' trivial, po' Z' H' σ' q'.drop .refl⟩
end
end Tr

set_option maxHeartbeats 2000000
/-! The tree layer 7: comprehensions. -/
namespace Tr
open PySem PySem.Spec PyProof.Rows L2
/-! ### a comprehension's own slots, emptied and restored -/
def wipeE (e : DE) : List Nat → DE
  | [] => e
  | v :: vs => (wipeE e vs).set v none
def restE (e : DE) : List Nat → DE → DE
  | [], e2 => e2
  | v :: vs, e2 => restE e vs (match (wipeE e vs).getD v none with
    | some d => e2.set v (some d)
    | none => e2)
theorem slots_sig : ∀ {σ : Sg} {e : DE} {v : Nat} {x : Option V}, e.getD v none = none → slots (σ.set v x) e = slots σ e ∧ (fits σ e → fits (σ.set v x) e)
  | [], [], v, x, _ => ⟨rfl, fun h => h⟩
  | [], _ :: _, v, x, _ => ⟨rfl, fun h => h⟩
  | _ :: _, [], v, x, _ => by
    cases v <;> exact ⟨rfl, fun h => h.elim⟩
  | y :: σ, some d :: e, 0, x, h => by simp at h
  | y :: σ, none :: e, 0, x, _ => ⟨rfl, fun h => h⟩
  | y :: σ, some d :: e, v + 1, x, h => by
    obtain ⟨h1, h2⟩ := slots_sig (σ := σ) (e := e) (v := v) (x := x) (by simpa using h)
    exact ⟨congrArg ((y.getD .non, d) :: ·) h1, fun q => ⟨q.1, h2 q.2⟩⟩
  | y :: σ, none :: e, v + 1, x, h => slots_sig (σ := σ) (e := e) (v := v) (x := x) (by simpa using h)
section
variable {K : PySem.W.Frag} {Z : AS} {H : Hp} {σ : Sg} {e : DE} {tmp : Bag}
theorem SR.sig {v : Nat} {x : Option V} (h : SR K Z H σ e tmp) (hv : e.getD v none = none) : SR K Z H (σ.set v x) e tmp := by
  obtain ⟨h1, h2⟩ := slots_sig (σ := σ) (x := x) hv
  exact ⟨h2 h.fit, by rw [h1]; exact h.hold⟩
theorem getD_set_ne {e : DE} {i j : Nat} {x : Option D} (h : i ≠ j) : (e.set i x).getD j none = e.getD j none := by
  rw [List.getD_eq_getElem?_getD, List.getD_eq_getElem?_getD, List.getElem?_set_ne h]
theorem getD_set_none {e : DE} {i : Nat} : (e.set i none).getD i none = none := by
  rw [List.getD_eq_getElem?_getD]
  by_cases h : i < e.length
  · rw [List.getElem?_set_self h]; rfl
  · rw [List.getElem?_eq_none (by simpa using h)]; rfl
theorem wipeE_none : ∀ {vs : List Nat} {e : DE} {v : Nat}, v ∈ vs → (wipeE e vs).getD v none = none
  | [], _, _, h => by cases h
  | w :: vs, e, v, h => by
    show ((wipeE e vs).set w none).getD v none = none
    by_cases hw : w = v
    · subst hw; exact getD_set_none
    · rw [getD_set_ne hw]
      exact wipeE_none ((List.mem_cons.mp h).resolve_left fun q => hw q.symm)
/-- what stood in the slots is put aside, and can be put back -/
theorem SR.wipes : ∀ (vs : List Nat) {e : DE} {tmp : Bag}, SR K Z H σ e tmp → ∃ R : Bag, SR K Z H (wipe σ vs) (wipeE e vs) (R ++ tmp) ∧
    ∀ Z' H' e2 tmp2, SR K Z' H' (wipe σ vs) e2 (R ++ tmp2) → (∀ v ∈ vs, e2.getD v none = none) → e2.length = e.length → SR K Z' H' σ (restE e vs e2) tmp2
  | [], e, tmp, h => ⟨[], h, fun _ _ _ _ q _ _ => q⟩
  | v :: vs, e, tmp, h => by
    obtain ⟨R, h1, h2⟩ := SR.wipes vs h
    cases g : (wipeE e vs).getD v none with
    | none =>
      refine ⟨R, ?_, fun Z' H' e2 tmp2 q hn hl => ?_⟩
      · show SR K Z H ((wipe σ vs).set v none) ((wipeE e vs).set v none) _
        exact (h1.clear v).sig getD_set_none
      · show SR K Z' H' σ (restE e vs (match (wipeE e vs).getD v none with
          | some d => e2.set v (some d)
          | none => e2)) tmp2
        rw [g]
        have q : SR K Z' H' ((wipe σ vs).set v none) e2 (R ++ tmp2) := q
        refine h2 Z' H' e2 tmp2 ?_ (fun u hu => hn u (List.mem_cons_of_mem _ hu)) hl
        cases gs : (wipe σ vs)[v]? with
        | none =>
          rw [List.set_eq_of_length_le (List.getElem?_eq_none_iff.mp gs)] at q; exact q
        | some x =>
          have q2 := q.sig (x := x) (hn v List.mem_cons_self)
          rw [List.set_set, set_same gs] at q2
          exact q2
    | some d =>
      have gi := getD_some g
      obtain ⟨w, hw, h3⟩ := h1.out gi
      refine ⟨(w, d) :: R, ?_, fun Z' H' e2 tmp2 q hn hl => ?_⟩
      · show SR K Z H ((wipe σ vs).set v none) ((wipeE e vs).set v none) _
        exact h3.sig getD_set_none
      · show SR K Z' H' σ (restE e vs (match (wipeE e vs).getD v none with
          | some d => e2.set v (some d)
          | none => e2)) tmp2
        rw [g]
        have q : SR K Z' H' ((wipe σ vs).set v none) e2 ((w, d) :: (R ++ tmp2)) := q
        have hvl : v < e2.length := by
          have l1 := q.fit.len
          have l2 := h1.fit.len
          rw [List.length_set] at l1
          rw [← l1, l2]
          exact (List.getElem?_eq_some_iff.mp gi).1
        have hvn : e2[v]? = some none := by
          have := hn v List.mem_cons_self
          rw [List.getD_eq_getElem?_getD, List.getElem?_eq_getElem hvl] at this
          rw [List.getElem?_eq_getElem hvl]
          exact congrArg some this
        have q2 := q.put hvn
        rw [List.set_set, set_same hw] at q2
        refine h2 Z' H' _ tmp2 q2 (fun u hu => ?_) (by rw [List.length_set]; exact hl)
        have huv : v ≠ u := by
          rintro rfl
          have := wipeE_none (e := e) hu
          rw [g] at this; cases this
        rw [getD_set_ne huv]
        exact hn u (List.mem_cons_of_mem _ hu)
theorem SR.wipe1 : ∀ (vs : List Nat) {e : DE} {tmp : Bag}, SR K Z H σ e tmp → SR K Z H (wipe σ vs) (wipeE e vs) tmp
  | vs, e, tmp, h => by
    obtain ⟨R, h1, _⟩ := SR.wipes vs h
    exact h1.drop
theorem wipeE_length : ∀ (vs : List Nat) (e : DE), (wipeE e vs).length = e.length
  | [], e => rfl
  | v :: vs, e => by show ((wipeE e vs).set v none).length = _; rw [List.length_set, wipeE_length vs e]
/-- slots that differ at the own slots alone are the same when wiped -/
theorem wipe_get : ∀ (vs : List Nat) (σ : Sg) (j : Nat), (wipe σ vs)[j]? = if vs.contains j = true ∧ j < σ.length then some none else σ[j]?
  | [], σ, j => by simp [wipe]
  | v :: vs, σ, j => by
    show ((wipe σ vs).set v none)[j]? = _
    by_cases hj : v = j
    · subst hj
      by_cases hl : v < σ.length
      · rw [List.getElem?_set_self (by rw [wipe_length]; exact hl)]
        simp [hl]
      · rw [List.getElem?_eq_none (by rw [List.length_set, wipe_length]; omega)]
        simp [hl]
    · rw [List.getElem?_set_ne hj, wipe_get vs σ j]
      have : (v :: vs).contains j = vs.contains j := by
        simp only [List.contains_cons]
        have : (j == v) = false := by simpa using fun h : j = v => hj h.symm
        rw [this, Bool.false_or]
      rw [this]
theorem wipe_same {vs : List Nat} {σ σ' : Sg} (hl : σ'.length = σ.length) (h : ∀ j, vs.contains j = false → σ'[j]? = σ[j]?) : wipe σ' vs = wipe σ vs := by
  refine List.ext_getElem? fun j => ?_
  rw [wipe_get, wipe_get, hl]
  by_cases hc : vs.contains j = true
  · by_cases hj : j < σ.length
    · rw [if_pos ⟨hc, hj⟩, if_pos ⟨hc, hj⟩]
    · rw [if_neg fun q => hj q.2, if_neg fun q => hj q.2, List.getElem?_eq_none (by omega), List.getElem?_eq_none (by omega)]
  · have hc' : vs.contains j = false := by simpa using hc
    rw [h j hc']
theorem wipe_wipe (vs : List Nat) (σ : Sg) : wipe (wipe σ vs) vs = wipe σ vs := wipe_same (wipe_length σ vs) fun j hj => by
  rw [wipe_get, if_neg fun q => by rw [hj] at q; cases q.1]
end

/-! ### [elt for tg in iter if ..] -/
open Classical in
noncomputable def lcL (C : DE → Prop) (vs : List Nat) (g : D → DE → Option DE) (ft : DE → Res Bool) (fe : DE → Res D) : List D → DE → Option (List D × DE)
  | [], e => some ([], e)
  | d :: ds, e => if C e then (match g d e with
    | some e1 => (match ft e1 with
      | .ok true e2 => (match fe e2 with
        | .ok y e3 => (lcL C vs g ft fe ds (wipeE e3 vs)).map fun p => (y :: p.1, p.2)
        | _ => none)
      | .ok false e2 => lcL C vs g ft fe ds (wipeE e2 vs)
      | _ => none)
    | none => none) else none
def tYesF : DE → Res Bool := fun e => .ok true e
open Classical in
noncomputable def eLc0 (vs : List Nat) (fi : DE → Res Wk) (g : D → DE → Option DE) (ft : DE → Res Bool) (fe : DE → Res D) : DE → Res D := fun e => (fi e).bind fun k e1 =>
  if k.ds.length ≤ sizeLine ∧ (∀ p, k.at_ = some p → vs.contains p.1 = false) then (match lcL k.C vs g ft fe k.ds (wipeE e1 vs) with
    | some (acc, e2) => if k.C e2 then .ok (.lst true acc) (restE e1 vs e2) else .stuck
    | none => .stuck) else .stuck
/-- the same, sealed against unfolding -/
noncomputable def eLc (vs : List Nat) (fi : DE → Res Wk) (g : D → DE → Option DE) (ft : DE → Res Bool) (fe : DE → Res D) : DE → Res D := Classical.choose (p := fun f => f = eLc0 vs fi g ft fe) ⟨_, rfl⟩
theorem eLc_eq (vs : List Nat) (fi : DE → Res Wk) (g : D → DE → Option DE) (ft : DE → Res Bool) (fe : DE → Res D) : eLc vs fi g ft fe = eLc0 vs fi g ft fe := Classical.choose_spec (p := fun f => f = eLc0 vs fi g ft fe) ⟨_, rfl⟩
/-- in a comprehension's block nothing is raised -/
abbrev W0 : XW := fun _ _ _ _ => False
structure VTs (X : Cx) (W : XW) (ifs : List Expr) (f : DE → Res Bool) : Prop where
  ex : PTs X ifs (tFT X.K W f)
section
variable {X : Cx} {W : XW} {fx : List Nat} {a b c e tg : Expr} {es : List Expr} {pos : Pos}
theorem vts_nil : VTs X W [] tYesF := ⟨⟨fun pins s σ H Q I h => by
  obtain ⟨Z, e, tmp, sr, po⟩ := h
  exact wpAny_tests_nil ⟨H, I, po Z H sr⟩⟩⟩
theorem vts_one {f : DE → Res Bool} (h : VT X W c f) : VTs X W [c] f := ⟨pts_one h.pt⟩
def tFG (K : PySem.W.Frag) (tgs : List Nat) (g : D → DE → Option DE) : TG := fun v σ H Q => ∃ Z e tmp d e', SR K Z H σ e ((v, d) :: tmp) ∧ g d e = some e' ∧
  (∀ Z' H' σ', SR K Z' H' σ' e' tmp → σ'.length = σ.length → (∀ j, tgs.contains j = false → σ'[j]? = σ[j]?) → Q σ' H')
theorem VG.pg {tgs : List Nat} {g : D → DE → Option DE} (h : VG X tgs tg g) : PG X tg (tFG X.K tgs g) := by
  obtain ⟨t, p, s⟩ := h.ex
  exact ⟨fun pins s0 σ H v u Q I r ⟨Z, e, tmp, d, e', sr, hg, k⟩ => p.run pins s0 σ H v u Q I r (s Z σ H e tmp v d e' Q sr hg k)⟩
theorem Hold.app1 {K : PySem.W.Frag} {Z : AS} {H : Hp} {a : Addr} {ds : List D} {v : V} {d : D} {B : Bag} (h : Hold K [] Z H ((v, d) :: (.ref a, .lst true ds) :: B)) :
    ∃ vs, H a = some (.lst vs) ∧ vs.length = ds.length ∧ Hold K [] Z (upd H a (.lst (vs ++ [v]))) ((.ref a, .lst true (ds ++ [d])) :: B) := by
  obtain ⟨a', vs, ev, hq, hl, h1⟩ := Hold.takeL (h.perm (List.Perm.swap _ _ _))
  cases ev
  refine ⟨vs, hq, hl, Hold.layL (ds := ds ++ [d]) (h1.perm ?_) (by simp [hl]) (by simp)⟩
  have e1 : (vs ++ [v]).zip (ds ++ [d]) = vs.zip ds ++ [(v, d)] := List.zip_append hl
  rw [e1, List.append_assoc]
  exact List.Perm.refl _
open Classical in
theorem snd_lc {vs tgs : List Nat} {K : PySem.W.Frag} {ti : TI} {fi : DE → Res Wk} {g : D → DE → Option DE} {ft : DE → Res Bool} {fe : DE → Res D} (hi : SndI K W ti fi) (hsub : tgs.all (fun i => vs.contains i) = true) :
    SndE K W (tLc ti (tFG K tgs g) (tFT K W0 ft) (tF K W0 fe) vs) (eLc vs fi g ft fe) := by
  intro Z σ H e tmp Q sr po
  refine hi Z σ H e tmp _ sr ?_
  rw [eLc_eq] at po
  unfold eLc0 at po
  cases h1 : fi e with
  | stuck => rw [h1] at po; exact po
  | exn x e1 => rw [h1] at po; exact po
  | ok k e1 =>
    rw [h1, Res.bind_ok] at po
    obtain ⟨ds, at_⟩ := k
    intro Z1 H1 J B q1 its D hD
    by_cases hz : ds.length ≤ sizeLine ∧ (∀ p, at_ = some p → vs.contains p.1 = false)
    · have po : PostE K W σ tmp Q (if ds.length ≤ sizeLine ∧ (∀ p, at_ = some p → vs.contains p.1 = false) then (match lcL (Wk.C ⟨ds, at_⟩) vs g ft fe ds (wipeE e1 vs) with
        | some (acc, e2) => if Wk.C ⟨ds, at_⟩ e2 then .ok (.lst true acc) (restE e1 vs e2) else .stuck
        | none => .stuck) else .stuck) := po
      rw [if_pos hz] at po
      cases hl : lcL (Wk.C ⟨ds, at_⟩) vs g ft fe ds (wipeE e1 vs) with
      | none => rw [hl] at po; exact po.elim
      | some p =>
        obtain ⟨tot, eF⟩ := p
        rw [hl] at po
        have po : PostE K W σ tmp Q (if Wk.C ⟨ds, at_⟩ eF then .ok (.lst true tot) (restE e1 vs eF) else .stuck) := po
        by_cases hC : Wk.C ⟨ds, at_⟩ eF
        · rw [if_pos hC] at po
          have its : Yld K B J ds (Wk.S ⟨ds, at_⟩ σ) := its
          -- where the iterator stays good
          have good : ∀ e', Wk.C ⟨ds, at_⟩ e' → Wk.S ⟨ds, at_⟩ σ (wipe σ vs) e' := by
            intro e' hc
            cases at_ with
            | none => trivial
            | some p =>
              obtain ⟨i, d⟩ := p
              refine ⟨?_, hc⟩
              have := hz.2 (i, d) rfl
              rw [wipe_get, if_neg fun q => by rw [this] at q; cases q.1]
          obtain ⟨R, q2, back⟩ := q1.wipes vs
          -- the new list is laid
          have q3 : SR K Z1 (upd H1 D (.lst [])) (wipe σ vs) (wipeE e1 vs) ((.ref D, .lst true []) :: (B ++ (R ++ tmp))) := by
            have b := (q2.perm (List.perm_append_comm_assoc R B tmp)).bag
            exact .of q2.fit (Hold.layL (vs := []) (ds := []) (b.new hD) rfl (by simp))
          refine ⟨fun i m H' => m = ds.length - i ∧ i ≤ ds.length ∧ ∃ Z' e' acc, SR K Z' H' (wipe σ vs) e' ((.ref D, .lst true acc) :: (B ++ (R ++ tmp))) ∧ (∀ v ∈ vs, e'.getD v none = none) ∧ e'.length = e1.length ∧ acc.length ≤ i ∧
            (lcL (Wk.C ⟨ds, at_⟩) vs g ft fe (ds.drop i) e').map (fun p => (acc ++ p.1, p.2)) = some (tot, eF), ⟨ds.length, by simp, Nat.zero_le _, Z1, _, [], q3, fun v hv => wipeE_none hv, wipeE_length vs e1, Nat.le_refl _, by rw [List.drop_zero, hl]; rfl⟩, ?_⟩
          rintro i m H' ⟨rfl, hi, Z', e', acc, q', hn', hle', hac, hlc⟩
          by_cases hlt : i < ds.length
          · rw [List.drop_eq_getElem_cons hlt] at hlc
            have hd : ds[i]? = some ds[i] := List.getElem?_eq_getElem hlt
            simp only [lcL] at hlc
            by_cases hCe : Wk.C ⟨ds, at_⟩ e'
            · rw [if_pos hCe] at hlc
              have q0 : SR K Z' H' (wipe σ vs) e' (B ++ ((.ref D, .lst true acc) :: (R ++ tmp))) := q'.perm (List.perm_middle (a := (V.ref D, Tr.D.lst true acc))).symm
              obtain ⟨go, yl⟩ := its.go Z' H' (wipe σ vs) e' _ i ds[i] q0 (good e' hCe) hd
              refine .inr ⟨go, fun H3 => ∃ Z3 e3 acc3, SR K Z3 H3 (wipe σ vs) e3 ((.ref D, .lst true acc3) :: (B ++ (R ++ tmp))) ∧ (∀ v ∈ vs, e3.getD v none = none) ∧ e3.length = e1.length ∧ acc3.length ≤ i + 1 ∧
                (lcL (Wk.C ⟨ds, at_⟩) vs g ft fe (ds.drop (i + 1)) e3).map (fun p => (acc3 ++ p.1, p.2)) = some (tot, eF), fun H3 h => ⟨ds.length - (i + 1), by omega, rfl, hlt, h⟩, fun x H2 y => ?_⟩
              obtain ⟨Z2, qy⟩ := yl x H2 y
              have qy : SR K Z2 H2 (wipe σ vs) e' ((x, ds[i]) :: (.ref D, .lst true acc) :: (B ++ (R ++ tmp))) := qy.perm (List.Perm.cons _ (List.perm_middle (a := (V.ref D, Tr.D.lst true acc))))
              cases hgd : g ds[i] e' with
              | none => rw [hgd] at hlc; cases hlc
              | some e2 =>
                rw [hgd] at hlc
                refine ⟨Z2, e', _, ds[i], e2, qy, hgd, fun Z3 H3 σ3 q3 l3 f3 => ?_⟩
                have hw : wipe σ3 vs = wipe σ vs := by
                  rw [← wipe_wipe vs σ]
                  refine wipe_same l3 fun j hj => f3 j ?_
                  cases hc : tgs.contains j with
                  | false => rfl
                  | true =>
                    have hm : j ∈ tgs := by simpa using hc
                    have := List.all_eq_true.mp hsub j hm
                    rw [hj] at this; cases this
                refine ⟨hw, Z3, e2, _, q3, ?_⟩
                have hlc : Option.map (fun p => (acc ++ p.1, p.2)) (match ft e2 with
                  | .ok true e2 => (match fe e2 with
                    | .ok y e3 => (lcL (Wk.C ⟨ds, at_⟩) vs g ft fe (ds.drop (i + 1)) (wipeE e3 vs)).map fun p => (y :: p.1, p.2)
                    | _ => none)
                  | .ok false e2 => lcL (Wk.C ⟨ds, at_⟩) vs g ft fe (ds.drop (i + 1)) (wipeE e2 vs)
                  | _ => none) = some (tot, eF) := hlc
                cases h4 : ft e2 with
                | stuck => rw [h4] at hlc; cases hlc
                | exn x e4 => rw [h4] at hlc; cases hlc
                | ok t e4 =>
                  rw [h4] at hlc
                  intro Z4 H4 q4
                  cases t with
                  | false =>
                    rw [if_neg Bool.false_ne_true]
                    have hlc : Option.map (fun p => (acc ++ p.1, p.2)) (lcL (Wk.C ⟨ds, at_⟩) vs g ft fe (ds.drop (i + 1)) (wipeE e4 vs)) = some (tot, eF) := hlc
                    refine ⟨Z4, wipeE e4 vs, acc, by rw [← hw]; exact q4.wipe1 vs, fun v hv => wipeE_none hv, ?_, by omega, hlc⟩
                    rw [wipeE_length, ← q4.fit.len, l3, wipe_length, q1.fit.len]
                  | true =>
                    rw [if_pos rfl]
                    refine ⟨Z4, e4, _, q4, ?_⟩
                    have hlc : Option.map (fun p => (acc ++ p.1, p.2)) (match fe e4 with
                      | .ok y e3 => (lcL (Wk.C ⟨ds, at_⟩) vs g ft fe (ds.drop (i + 1)) (wipeE e3 vs)).map fun p => (y :: p.1, p.2)
                      | _ => none) = some (tot, eF) := hlc
                    cases h5 : fe e4 with
                    | stuck => rw [h5] at hlc; cases hlc
                    | exn x e5 => rw [h5] at hlc; cases hlc
                    | ok y e5 =>
                      rw [h5] at hlc
                      intro Z5 H5 v5 q5
                      obtain ⟨vs5, hq5, hl5, h6⟩ := Hold.app1 q5.bag
                      refine ⟨vs5, hq5, by rw [hl5]; omega, Z5, wipeE e5 vs, acc ++ [y], ?_, fun v hv => wipeE_none hv, ?_, by simp; omega, ?_⟩
                      · rw [← hw]
                        exact SR.wipe1 vs (.of q5.fit h6)
                      · rw [wipeE_length, ← q5.fit.len, l3, wipe_length, q1.fit.len]
                      · have hlc : Option.map (fun p => (acc ++ p.1, p.2)) ((lcL (Wk.C ⟨ds, at_⟩) vs g ft fe (ds.drop (i + 1)) (wipeE e5 vs)).map fun p => (y :: p.1, p.2)) = some (tot, eF) := hlc
                        rw [Option.map_map] at hlc
                        rw [← hlc]
                        congr 1
                        funext p
                        simp
            · rw [if_neg hCe] at hlc; cases hlc
          · have e0 : i = ds.length := by omega
            subst e0
            rw [List.drop_length] at hlc
            simp only [lcL, Option.map_some, List.append_nil, Option.some.injEq, Prod.mk.injEq] at hlc
            obtain ⟨rfl, rfl⟩ := hlc
            have q0 : SR K Z' H' (wipe σ vs) e' (B ++ ((.ref D, .lst true acc) :: (R ++ tmp))) := q'.perm (List.perm_middle (a := (V.ref D, Tr.D.lst true acc))).symm
            refine .inl ⟨its.stop Z' H' (wipe σ vs) e' _ q0 (good e' hC), po Z' H' _ ?_⟩
            refine back Z' H' e' _ ?_ hn' hle'
            have q6 : SR K Z' H' (wipe σ vs) e' ((.ref D, .lst true acc) :: (R ++ tmp)) := q0.drop
            exact q6.perm (List.perm_middle (a := (V.ref D, Tr.D.lst true acc))).symm
        · rw [if_neg hC] at po; exact po.elim
    · have po : PostE K W σ tmp Q (if ds.length ≤ sizeLine ∧ (∀ p, at_ = some p → vs.contains p.1 = false) then (match lcL (Wk.C ⟨ds, at_⟩) vs g ft fe ds (wipeE e1 vs) with
        | some (acc, e2) => if Wk.C ⟨ds, at_⟩ e2 then .ok (.lst true acc) (restE e1 vs e2) else .stuck
        | none => .stuck) else .stuck) := po
      rw [if_neg hz] at po; exact po.elim
theorem ve_lc {elt iter : Expr} {ifs : List Expr} {scope : Scope} {own : List (Str × Nat)} {tgs : List Nat} {fi : DE → Res Wk} {g : D → DE → Option DE} {ft : DE → Res Bool} {fe : DE → Res D} (hc : X.calm = true) (hN : X.N.Nodup) (hi : VI X W tg iter fi) (ok : BlkOk X.N X.env.scope scope own)
    (hg : ∀ (s : Shared) (H : Hp) (C : Addr) (cl : List (Str × Addr)) (fp : List Addr), VG (X.blk s H scope (compEnvC scope cl C X.env) fp) tgs tg g) (ht : ∀ (s : Shared) (H : Hp) (C : Addr) (cl : List (Str × Addr)) (fp : List Addr), VTs (X.blk s H scope (compEnvC scope cl C X.env) fp) W0 ifs ft)
    (he : ∀ (s : Shared) (H : Hp) (C : Addr) (cl : List (Str × Addr)) (fp : List Addr), VE (X.blk s H scope (compEnvC scope cl C X.env) fp) W0 elt fe) (hsub : tgs.all (fun i => (own.map (·.2)).contains i) = true := by rfl) (hs : ∀ x, foldedSetIterable iter X.env x = pure x := by intro _; rfl) :
    VE X W (.ListComp elt [⟨tg, iter, ifs, 0⟩] scope pos) (eLc (own.map (·.2)) fi g ft fe) := by
  obtain ⟨t0, p0, s0⟩ := hi.ex
  exact ⟨_, pe_lc hc hN p0 ok (fun s H C cl fp => (hg s H C cl fp).pg) (fun s H C cl fp => (ht s H C cl fp).ex) (fun s H C cl fp => (he s H C cl fp).pe) hs, snd_lc s0 hsub⟩
theorem vs_setLc (i : Nat) {y : Str} {py spos : Pos} {elt iter : Expr} {ifs : List Expr} {scope : Scope} {own : List (Str × Nat)} {tgs : List Nat} {fi : DE → Res Wk} {g : D → DE → Option DE} {ft : DE → Res Bool} {fe : DE → Res D} (hc : X.calm = true) (hN : X.N.Nodup) (hi : VI X W tg iter fi) (ok : BlkOk X.N X.env.scope scope own)
    (hg : ∀ (s : Shared) (H : Hp) (C : Addr) (cl : List (Str × Addr)) (fp : List Addr), VG (X.blk s H scope (compEnvC scope cl C X.env) fp) tgs tg g) (ht : ∀ (s : Shared) (H : Hp) (C : Addr) (cl : List (Str × Addr)) (fp : List Addr), VTs (X.blk s H scope (compEnvC scope cl C X.env) fp) W0 ifs ft)
    (he : ∀ (s : Shared) (H : Hp) (C : Addr) (cl : List (Str × Addr)) (fp : List Addr), VE (X.blk s H scope (compEnvC scope cl C X.env) fp) W0 elt fe) (hsub : tgs.all (fun i => (own.map (·.2)).contains i) = true := by rfl) (hfx : fx.contains i = false := by rfl)
    (hy : X.N[i]? = some y := by rfl) (hyl : X.env.scope.names.lookup y = some .local := by rfl) (hsw : swapsWith (.ListComp elt [⟨tg, iter, ifs, 0⟩] scope pos) (some (.Name y py)) spos.line X.env = pure true := by exact sw_true rfl rfl rfl (by decide +kernel)) (hs : ∀ x, foldedSetIterable iter X.env x = pure x := by intro _; rfl) :
    VS X W fx (.Assign [.Name y py] (.ListComp elt [⟨tg, iter, ifs, 0⟩] scope pos) spos) (sSet i (eLc (own.map (·.2)) fi g ft fe)) := by
  obtain ⟨t0, p0, s0⟩ := hi.ex
  exact ⟨_, ps_setLc hc hN hy hyl hsw p0 ok (fun s H C cl fp => (hg s H C cl fp).pg) (fun s H C cl fp => (ht s H C cl fp).ex) (fun s H C cl fp => (he s H C cl fp).pe) hs, snd_set (snd_lc s0 hsub) hfx⟩
end
end Tr

set_option maxHeartbeats 2000000
/-! The tree layer 8: what the operators do, by trees. -/
namespace Tr
open PySem PySem.Spec PyProof.Rows L2
section
variable {K : PySem.W.Frag} {Z : AS} {H : Hp} {B : Bag}
theorem nf_all {ds : List D} (h : ds.all (fun d => !d.flag) = true) : ∀ d ∈ ds, d.flag = false := fun d hd => by
  have := List.all_eq_true.mp h d hd
  simpa using this
theorem Hold.addL : ∀ {ds : List D} {vs : List V} {fp : List Addr}, RpL K Z H ds vs fp → (∀ d ∈ ds, d.flag = false) → Hold K [] Z H B → Hold K [] Z H (vs.zip ds ++ B)
  | [], vs, fp, h, _, b => by obtain ⟨rfl, _⟩ := RpL_nil.mp h; exact b
  | d :: ds, vs, fp, h, hf, b => by
    obtain ⟨v, vr, f1, f2, rfl, _, r1, r2⟩ := RpL_cons.mp h
    have e0 := r1.noflag (hf d List.mem_cons_self)
    subst e0
    exact (Hold.addL r2 (fun x hx => hf x (List.mem_cons_of_mem _ hx)) b).add r1
/-- a new list of things that may be read -/
theorem Hold.mkL {ds : List D} {vs : List V} {fp : List Addr} {p : Addr} (b : Hold K [] Z H B) (r : RpL K Z H ds vs fp) (hf : ∀ d ∈ ds, d.flag = false) (hp : H p = none) : Hold K [] Z (upd H p (.lst vs)) ((.ref p, .lst true ds) :: B) :=
  Hold.layL ((Hold.addL r hf b).new hp) r.length (by simp)
theorem Hold.mkT {ds : List D} {vs : List V} {fp : List Addr} {p : Addr} (b : Hold K [] Z H B) (r : RpL K Z H ds vs fp) (hf : ∀ d ∈ ds, d.flag = false) (hp : H p = none) : Hold K [] Z (upd H p (.tup vs)) ((.ref p, .tup ds) :: B) :=
  Hold.mkTup (Hold.addL r hf b) hp r.length hf
theorem Rp.lst_get {o : Bool} {ds : List D} {v : V} {fp : List Addr} (h : Rp K Z H (.lst o ds) v fp) : ∃ a vs f, v = .ref a ∧ H a = some (.lst vs) ∧ RpL K Z H ds vs f := by
  rcases Rp_lst.mp h with ⟨_, _, a, vs, ev, _, q, r⟩ | ⟨_, a, vs, fp', ev, _, _, q, r⟩
  · exact ⟨a, vs, _, ev, q, r⟩
  · exact ⟨a, vs, _, ev, q, r⟩
theorem RpL.nf {ds : List D} {vs : List V} (h : RpL K Z H ds vs []) : ∀ d ∈ ds, d.flag = false := by
  intro d hd
  obtain ⟨i, hi⟩ := List.getElem?_of_mem hd
  obtain ⟨v, _, r⟩ := h.ats hi
  cases d with
  | lst o _ =>
    rcases Rp_lst.mp r with ⟨rfl, _⟩ | ⟨_, _, _, _, _, e3, _⟩
    · rfl
    · cases e3
  | ins o _ _ _ =>
    rcases Rp_ins.mp r with ⟨rfl, _⟩ | ⟨_, _, _, _, _, _, e3, _⟩
    · rfl
    · cases e3
  | _ => rfl
end
/-- an int's operation -/
def dI (C : Int → Int → Bool) (g : Int → Int → D) : D → D → Rs D
  | .int i, .int j => if C i j = true then .ok (g i j) else .stuck
  | _, _ => .stuck
def dI0 (g : Int → Int → D) : D → D → Rs D
  | .int i, .int j => .ok (g i j)
  | _, _ => .stuck
theorem PostV.int {K : PySem.W.Frag} {Z : AS} {H : Hp} {B : Bag} {Q : VK} {W : XK} {i : Int} (b : Hold K [] Z H B) (po : PostV K W B Q (.ok (.int i))) : Q (.int i) H := po Z H _ (b.add (Rp_int.mpr ⟨rfl, rfl⟩))
theorem PostV.bl {K : PySem.W.Frag} {Z : AS} {H : Hp} {B : Bag} {Q : VK} {W : XK} {i : Bool} (b : Hold K [] Z H B) (po : PostV K W B Q (.ok (.bl i))) : Q (.bl i) H := po Z H _ (b.add (Rp_bl.mpr ⟨rfl, rfl⟩))
theorem PostV.str {K : PySem.W.Frag} {Z : AS} {H : Hp} {B : Bag} {Q : VK} {W : XK} {i : Str} (b : Hold K [] Z H B) (po : PostV K W B Q (.ok (.str i))) : Q (.str i) H := po Z H _ (b.add (Rp_str.mpr ⟨rfl, rfl⟩))
section
variable {K : PySem.W.Frag}
theorem os_I {C : Int → Int → Prop} {C' : Int → Int → Bool} {g : Int → Int → Int} (hC : ∀ i j, C' i j = true → C i j) : OpS K (rI C fun i j => .int (g i j)) (dI C' fun i j => .int (g i j)) := by
  intro Z H B Q W d1 v1 f1 d2 v2 f2 b r1 r2 po
  unfold dI at po
  split at po
  · rename_i i j
    obtain ⟨rfl, _⟩ := Rp_int.mp r1
    obtain ⟨rfl, _⟩ := Rp_int.mp r2
    by_cases h : C' i j = true
    · rw [if_pos h] at po
      exact ⟨i, j, rfl, rfl, hC i j h, po.int b⟩
    · rw [if_neg h] at po; exact po.elim
  · exact po.elim
theorem os_I0 {g : Int → Int → Int} : OpS K (rI0 fun i j => .int (g i j)) (dI0 fun i j => .int (g i j)) := by
  intro Z H B Q W d1 v1 f1 d2 v2 f2 b r1 r2 po
  unfold dI0 at po
  split at po
  · rename_i i j
    obtain ⟨rfl, _⟩ := Rp_int.mp r1
    obtain ⟨rfl, _⟩ := Rp_int.mp r2
    exact ⟨i, j, rfl, rfl, po.int b⟩
  · exact po.elim
/-! ### + -/
def rAdd (K : PySem.W.Frag) : R2 := fun x y H Q => rI0 (fun i j => .int (i + j)) x y H Q ∨ (rCat x y H Q ∨ (rCatA K x y H Q ∨ ∃ i j, x = .str i ∧ y = .str j ∧ i.length + j.length ≤ sizeLine ∧ Q (.str (i ++ j)) H))
theorem op_addA {X : Cx} : OpR X (binaryOp .Add) (rAdd X.K) := op_add.or (op_cat.or (op_catA.or op_add_str))
def dAdd : D → D → Rs D
  | .int i, .int j => .ok (.int (i + j))
  | .str i, .str j => if i.length + j.length ≤ sizeLine then .ok (.str (i ++ j)) else .stuck
  | .tup a, .tup b => if a.length + b.length ≤ sizeLine then .ok (.tup (a ++ b)) else .stuck
  | .lst _ a, .lst _ b => if (a.all (fun d => !d.flag) && b.all (fun d => !d.flag)) = true ∧ a.length + b.length ≤ sizeLine then .ok (.lst true (a ++ b)) else .stuck
  | _, _ => .stuck
theorem os_add : OpS K (rAdd K) dAdd := by
  intro Z H B Q W d1 v1 f1 d2 v2 f2 b r1 r2 po
  unfold dAdd at po
  split at po
  · rename_i i j
    obtain ⟨rfl, _⟩ := Rp_int.mp r1
    obtain ⟨rfl, _⟩ := Rp_int.mp r2
    exact .inl ⟨i, j, rfl, rfl, po.int b⟩
  · rename_i i j
    obtain ⟨rfl, _⟩ := Rp_str.mp r1
    obtain ⟨rfl, _⟩ := Rp_str.mp r2
    by_cases h : i.length + j.length ≤ sizeLine
    · rw [if_pos h] at po
      exact .inr (.inr (.inr ⟨i, j, rfl, rfl, h, po.str b⟩))
    · rw [if_neg h] at po; exact po.elim
  · rename_i ds es
    obtain ⟨_, a1, vs, rfl, q1, l1⟩ := Rp_tup.mp r1
    obtain ⟨_, a2, ws, rfl, q2, l2⟩ := Rp_tup.mp r2
    by_cases h : ds.length + es.length ≤ sizeLine
    · rw [if_pos h] at po
      refine .inr (.inr (.inl ⟨a1, a2, vs, ws, rfl, rfl, q1.seq, q2.seq, by rw [l1.length, l2.length]; exact h, fun e => ?_, fun _ e => ?_, fun _ _ p hp => ?_⟩))
      · have e1 : ds = [] := by
          have := l1.length
          rw [e] at this
          exact List.eq_nil_of_length_eq_zero this.symm
        subst e1
        exact po Z H _ (by rw [Rp.noflag r2 rfl] at r2; exact b.add r2)
      · have e1 : es = [] := by
          have := l2.length
          rw [e] at this
          exact List.eq_nil_of_length_eq_zero this.symm
        subst e1
        rw [List.append_nil] at po
        exact po Z H _ (by rw [Rp.noflag r1 rfl] at r1; exact b.add r1)
      · exact po Z _ _ (Hold.mkT b (l1.app l2) (fun d hd => (List.mem_append.mp hd).elim (l1.nf d) (l2.nf d)) hp)
    · rw [if_neg h] at po; exact po.elim
  · rename_i o1 ds o2 es
    obtain ⟨a1, vs, g1, rfl, q1, l1⟩ := r1.lst_get
    obtain ⟨a2, ws, g2, rfl, q2, l2⟩ := r2.lst_get
    split at po
    · rename_i h
      obtain ⟨h1, h⟩ := h
      rw [Bool.and_eq_true] at h1
      refine .inr (.inl ⟨a1, a2, vs, ws, rfl, rfl, q1, q2, by rw [l1.length, l2.length]; exact h, fun p hp => ?_⟩)
      exact po Z _ _ (Hold.mkL b (l1.app l2) (fun d hd => (List.mem_append.mp hd).elim (nf_all h1.1 d) (nf_all h1.2 d)) hp)
    · exact po.elim
  · exact po.elim
def dSub : D → D → Rs D := dI0 fun i j => .int (i - j)
/-! ### * -/
def mulOk (i j : Int) : Bool := decide (i.natAbs.log2 + j.natAbs.log2 < 1000000)
def rMul : R2 := fun x y H Q => rI CMulW (fun i j => .int (i * j)) x y H Q ∨ rRep x y H Q
theorem op_mulA {X : Cx} : OpR X (binaryOp .Mult) rMul := op_mulW.or op_rep
def dMul : D → D → Rs D
  | .int i, .int j => if mulOk i j = true then .ok (.int (i * j)) else .stuck
  | .lst _ a, .int k => if a.all (fun d => !d.flag) = true ∧ -(2 ^ 63) ≤ k ∧ k < 2 ^ 63 ∧ a.length * k.toNat ≤ sizeLine then .ok (.lst true (List.replicate k.toNat a).flatten) else .stuck
  | _, _ => .stuck
theorem RpL.rep {Z : AS} {H : Hp} {ds : List D} {vs : List V} (h : RpL K Z H ds vs []) : ∀ n : Nat, RpL K Z H (List.replicate n ds).flatten (List.replicate n vs).flatten []
  | 0 => RpL_nil.mpr ⟨rfl, rfl⟩
  | n + 1 => by
    rw [List.replicate_succ, List.replicate_succ, List.flatten_cons, List.flatten_cons]
    exact h.app (RpL.rep h n)
theorem os_mul : OpS K rMul dMul := by
  intro Z H B Q W d1 v1 f1 d2 v2 f2 b r1 r2 po
  unfold dMul at po
  split at po
  · rename_i i j
    obtain ⟨rfl, _⟩ := Rp_int.mp r1
    obtain ⟨rfl, _⟩ := Rp_int.mp r2
    by_cases h : mulOk i j = true
    · rw [if_pos h] at po
      exact .inl ⟨i, j, rfl, rfl, of_decide_eq_true (p := i.natAbs.log2 + j.natAbs.log2 < 1000000) h, po.int b⟩
    · rw [if_neg h] at po; exact po.elim
  · rename_i o ds k
    obtain ⟨a1, vs, g1, rfl, q1, l1⟩ := r1.lst_get
    obtain ⟨rfl, _⟩ := Rp_int.mp r2
    split at po
    · rename_i h
      obtain ⟨h0, h1, h2, h3⟩ := h
      have nf := nf_all h0
      have e0 := RpL.noflag l1 nf
      subst e0
      refine .inr ⟨a1, k, vs, rfl, rfl, q1, h1, h2, by rw [l1.length]; exact h3, fun p hp => ?_⟩
      exact po Z _ _ (Hold.mkL b (l1.rep _) (l1.rep _).nf hp)
    · exact po.elim
  · exact po.elim
def dFdiv : D → D → Rs D := dI (fun _ j => decide (0 < j) && decide (j.natAbs.log2 < 9000)) fun i j => .int (i / j)
theorem os_fdiv : OpS K (rI CDivW fun i j => .int (i / j)) dFdiv := os_I fun i j h => by
  rw [Bool.and_eq_true] at h
  exact ⟨of_decide_eq_true h.1, of_decide_eq_true h.2⟩
def dMod : D → D → Rs D := dI (fun _ j => decide (0 < j)) fun i j => .int (i % j)
theorem os_mod : OpS K (rI (fun _ j => 0 < j) fun i j => .int (i % j)) dMod := os_I fun i j h => of_decide_eq_true h
def powOk (i j : Int) : Bool := decide (0 ≤ j) && decide ((Builtin.Int.intBits i : Int) * j ≤ 2 ^ 27)
theorem op_powW {X : Cx} : OpR X (binaryOp .Pow) (rI (fun i j => powOk i j = true) fun i j => .int (i ^ j.toNat)) := opI fun i j _ _ _ _ _ hc q => by
  unfold powOk at hc
  rw [Bool.and_eq_true] at hc
  exact pow_int (of_decide_eq_true hc.1) (of_decide_eq_true hc.2) q
def dPow : D → D → Rs D := dI powOk fun i j => .int (i ^ j.toNat)
theorem os_pow : OpS K (rI (fun i j => powOk i j = true) fun i j => .int (i ^ j.toNat)) dPow := os_I fun _ _ h => h
def dNeg : D → Rs D
  | .int i => .ok (.int (-i))
  | _ => .stuck
theorem us_neg : UnS K (rU fun i => .int (-i)) dNeg := by
  intro Z H B Q W d1 v1 f1 b r1 po
  unfold dNeg at po
  split at po
  · rename_i i
    obtain ⟨rfl, _⟩ := Rp_int.mp r1
    exact ⟨i, rfl, po.int b⟩
  · exact po.elim
/-! ### order of ints -/
def dCmpI (p : Int → Int → Bool) : D → D → Rs D := dI0 fun i j => .bl (p i j)
theorem os_cmpI {p : Int → Int → Bool} : OpS K (rI0 fun i j => .bl (p i j)) (dCmpI p) := by
  intro Z H B Q W d1 v1 f1 d2 v2 f2 b r1 r2 po
  unfold dCmpI dI0 at po
  split at po
  · rename_i i j
    obtain ⟨rfl, _⟩ := Rp_int.mp r1
    obtain ⟨rfl, _⟩ := Rp_int.mp r2
    exact ⟨i, j, rfl, rfl, po.bl b⟩
  · exact po.elim
theorem op_cmpI {X : Cx} {f : Value → Value → Sem Value} {p : Int → Int → Bool} (rule : ∀ (i j : Int) (t u : Tok) (Q : Value → Shared → Prop) (s : Shared), Q (.bool (p i j)) s → wpAny (model X.prog X.w) X.A (f (.int i t) (.int j u)) Q X.xe s) : OpR X f (rI0 fun i j => .bl (p i j)) := by
  intro pins s σ H x y v u Q I rx ry h
  obtain ⟨i, j, rfl, rfl, q⟩ := h
  obtain ⟨t, rfl⟩ := rx
  obtain ⟨t', rfl⟩ := ry
  exact rule i j t t' _ s ⟨.bl _, H, I, rfl, q⟩
theorem op_ltI {X : Cx} : OpR X (compareOp .Lt) (rI0 fun i j => .bl (decide (i < j))) := op_cmpI fun _ _ _ _ _ _ h => lt_int h
theorem op_leI {X : Cx} : OpR X (compareOp .LtE) (rI0 fun i j => .bl (decide (i ≤ j))) := op_cmpI fun _ _ _ _ _ _ h => le_int h
theorem op_gtI {X : Cx} : OpR X (compareOp .Gt) (rI0 fun i j => .bl (decide (j < i))) := op_cmpI fun _ _ _ _ _ _ h => gt_int h
theorem op_geI {X : Cx} : OpR X (compareOp .GtE) (rI0 fun i j => .bl (decide (j ≤ i))) := op_cmpI fun _ _ _ _ _ _ h => ge_int h
def dLt : D → D → Rs D := dCmpI fun i j => decide (i < j)
def dLe : D → D → Rs D := dCmpI fun i j => decide (i ≤ j)
def dGt : D → D → Rs D := dCmpI fun i j => decide (j < i)
def dGe : D → D → Rs D := dCmpI fun i j => decide (j ≤ i)
/-! ### ==, in, is None -/
mutual
def D.py : D → Option PyData
  | .non => some .none
  | .bl b => some (.bool b)
  | .int i => some (.int i)
  | .str x => some (.str x)
  | .tup ds => (pyL ds).map .tuple
  | .lst _ ds => (pyL ds).map .list
  | .scr ns => some (.list (ns.map .int))
  | .ty _ => none
  | .obj _ => none
  | .ins _ _ _ _ => none
def pyL : List D → Option (List PyData)
  | [] => some []
  | d :: ds => match d.py, pyL ds with
    | some x, some xs => some (x :: xs)
    | _, _ => none
end
theorem DpAll.ints {H : Hp} : ∀ ns : List Int, DpAll K H (ns.map V.int) (ns.map .int)
  | [] => .nil
  | n :: ns => .cons (.int n) (DpAll.ints ns)
mutual
theorem Rp.dp {Z : AS} {H : Hp} : ∀ (d : D) (v : V) (fp : List Addr) (x : PyData), Rp K Z H d v fp → d.py = some x → Dp K H v x
  | .non, v, fp, x, h, e => by obtain ⟨rfl, _⟩ := Rp_non.mp h; cases e; exact .non
  | .bl b, v, fp, x, h, e => by obtain ⟨rfl, _⟩ := Rp_bl.mp h; cases e; exact .bl b
  | .int i, v, fp, x, h, e => by obtain ⟨rfl, _⟩ := Rp_int.mp h; cases e; exact .int i
  | .str y, v, fp, x, h, e => by obtain ⟨rfl, _⟩ := Rp_str.mp h; cases e; exact .str y
  | .ty n, v, fp, x, h, e => by cases e
  | .obj a, v, fp, x, h, e => by cases e
  | .ins _ _ _ _, v, fp, x, h, e => by cases e
  | .scr ns, v, fp, x, h, e => by
    obtain ⟨_, a, rfl, q⟩ := Rp_scr.mp h
    cases e
    exact .lst q.seq (DpAll.ints ns)
  | .tup ds, v, fp, x, h, e => by
    obtain ⟨_, a, vs, rfl, q, l⟩ := Rp_tup.mp h
    have e : (pyL ds).map PyData.tuple = some x := e
    rw [Option.map_eq_some_iff] at e
    obtain ⟨xs, e1, rfl⟩ := e
    exact .tup q.seq (RpL.dp ds vs [] xs l e1)
  | .lst o ds, v, fp, x, h, e => by
    obtain ⟨a, vs, f, rfl, q, l⟩ := h.lst_get
    have e : (pyL ds).map PyData.list = some x := e
    rw [Option.map_eq_some_iff] at e
    obtain ⟨xs, e1, rfl⟩ := e
    exact .lst (.of q) (RpL.dp ds vs f xs l e1)
theorem RpL.dp {Z : AS} {H : Hp} : ∀ (ds : List D) (vs : List V) (fp : List Addr) (xs : List PyData), RpL K Z H ds vs fp → pyL ds = some xs → DpAll K H vs xs
  | [], vs, fp, xs, h, e => by obtain ⟨rfl, _⟩ := RpL_nil.mp h; cases e; exact .nil
  | d :: ds, vs, fp, xs, h, e => by
    obtain ⟨v, vr, f1, f2, rfl, _, r1, r2⟩ := RpL_cons.mp h
    simp only [pyL] at e
    cases h1 : d.py with
    | none => rw [h1] at e; cases e
    | some x =>
      cases h2 : pyL ds with
      | none => rw [h1, h2] at e; cases e
      | some ys =>
        rw [h1, h2] at e
        cases e
        exact .cons (Rp.dp d v f1 x r1 h1) (RpL.dp ds vr f2 ys r2 h2)
end
def dEq (neg : Bool) : D → D → Rs D := fun a b => match a.py, b.py with
  | some x, some y => if (SeqAt.shaped x && SeqAt.shaped y) = true then .ok (.bl (if neg then !PyData.eqv x y else PyData.eqv x y)) else .stuck
  | _, _ => .stuck
theorem os_eq : OpS K (rEqD K) (dEq false) := by
  intro Z H B Q W d1 v1 f1 d2 v2 f2 b r1 r2 po
  unfold dEq at po
  split at po
  · rename_i x y e1 e2
    split at po
    · rename_i h
      rw [Bool.and_eq_true] at h
      exact ⟨x, y, Rp.dp d1 v1 f1 x r1 e1, Rp.dp d2 v2 f2 y r2 e2, h.1, h.2, po.bl b⟩
    · exact po.elim
  · exact po.elim
theorem os_ne : OpS K (rNeD K) (dEq true) := by
  intro Z H B Q W d1 v1 f1 d2 v2 f2 b r1 r2 po
  unfold dEq at po
  split at po
  · rename_i x y e1 e2
    split at po
    · rename_i h
      rw [Bool.and_eq_true] at h
      exact ⟨x, y, Rp.dp d1 v1 f1 x r1 e1, Rp.dp d2 v2 f2 y r2 e2, h.1, h.2, po.bl b⟩
    · exact po.elim
  · exact po.elim
def D.flatV : D → Option V
  | .non => some .non
  | .bl b => some (.bl b)
  | .int i => some (.int i)
  | .str x => some (.str x)
  | _ => none
def flats : List D → Option (List V)
  | [] => some []
  | d :: ds => match d.flatV, flats ds with
    | some v, some vs => some (v :: vs)
    | _, _ => none
theorem Rp.flat {Z : AS} {H : Hp} {d : D} {v w : V} {fp : List Addr} (h : Rp K Z H d v fp) (e : d.flatV = some w) : v = w ∧ L2.flatV w = true := by
  cases d with
  | non => obtain ⟨rfl, _⟩ := Rp_non.mp h; cases e; exact ⟨rfl, rfl⟩
  | bl b => obtain ⟨rfl, _⟩ := Rp_bl.mp h; cases e; exact ⟨rfl, rfl⟩
  | int i => obtain ⟨rfl, _⟩ := Rp_int.mp h; cases e; exact ⟨rfl, rfl⟩
  | str x => obtain ⟨rfl, _⟩ := Rp_str.mp h; cases e; exact ⟨rfl, rfl⟩
  | _ => cases e
theorem RpL.flat {Z : AS} {H : Hp} : ∀ {ds : List D} {vs ws : List V} {fp : List Addr}, RpL K Z H ds vs fp → flats ds = some ws → vs = ws ∧ ws.all L2.flatV = true
  | [], vs, ws, fp, h, e => by obtain ⟨rfl, _⟩ := RpL_nil.mp h; cases e; exact ⟨rfl, rfl⟩
  | d :: ds, vs, ws, fp, h, e => by
    obtain ⟨v, vr, f1, f2, rfl, _, r1, r2⟩ := RpL_cons.mp h
    simp only [flats] at e
    cases h1 : d.flatV with
    | none => rw [h1] at e; cases e
    | some x =>
      cases h2 : flats ds with
      | none => rw [h1, h2] at e; cases e
      | some ys =>
        rw [h1, h2] at e
        cases e
        obtain ⟨rfl, q1⟩ := r1.flat h1
        obtain ⟨rfl, q2⟩ := r2.flat h2
        exact ⟨rfl, by rw [List.all_cons, q1, q2]; rfl⟩
/-- in, not in: flat things in a list or tuple -/
def dIn (neg : Bool) : D → D → Rs D := fun a b => match a.flatV, (match b with
    | .tup ds => flats ds
    | .lst _ ds => flats ds
    | .scr ns => some (ns.map V.int)
    | _ => none) with
  | some x, some xs => .ok (.bl (if neg then !inV x xs else inV x xs))
  | _, _ => .stuck
theorem os_in {neg : Bool} : OpS K (rIn K neg) (dIn neg) := by
  intro Z H B Q W d1 v1 f1 d2 v2 f2 b r1 r2 po
  unfold dIn at po
  cases h1 : d1.flatV with
  | none => rw [h1] at po; exact po.elim
  | some x =>
    rw [h1] at po
    obtain ⟨rfl, q1⟩ := r1.flat h1
    cases d2 with
    | tup ds =>
      obtain ⟨_, a, vs, rfl, q, l⟩ := Rp_tup.mp r2
      cases h2 : flats ds with
      | none => simp only [h2] at po; exact po.elim
      | some xs =>
        simp only [h2] at po
        obtain ⟨rfl, q2⟩ := l.flat h2
        exact ⟨a, vs, rfl, .inr q.seq, q1, q2, po.bl b⟩
    | lst o ds =>
      obtain ⟨a, vs, f, rfl, q, l⟩ := r2.lst_get
      cases h2 : flats ds with
      | none => simp only [h2] at po; exact po.elim
      | some xs =>
        simp only [h2] at po
        obtain ⟨rfl, q2⟩ := l.flat h2
        exact ⟨a, vs, rfl, .inl (.of q), q1, q2, po.bl b⟩
    | scr ns =>
      obtain ⟨_, a, rfl, q⟩ := Rp_scr.mp r2
      simp only at po
      exact ⟨a, _, rfl, .inl q.seq, q1, by rw [List.all_map]; exact List.all_eq_true.mpr fun _ _ => rfl, po.bl b⟩
    | _ => exact po.elim
def D.isNon : D → Bool
  | .non => true
  | _ => false
theorem Rp.isNon {Z : AS} {H : Hp} {d : D} {v : V} {fp : List Addr} (h : Rp K Z H d v fp) : decide (v = .non) = d.isNon := by
  cases d with
  | non => obtain ⟨rfl, _⟩ := Rp_non.mp h; rfl
  | bl b => obtain ⟨rfl, _⟩ := Rp_bl.mp h; rfl
  | int i => obtain ⟨rfl, _⟩ := Rp_int.mp h; rfl
  | str x => obtain ⟨rfl, _⟩ := Rp_str.mp h; rfl
  | ty x => obtain ⟨rfl, _⟩ := Rp_ty.mp h; rfl
  | obj x => obtain ⟨rfl, _⟩ := Rp_obj.mp h; rfl
  | scr ns => obtain ⟨_, a, rfl, _⟩ := Rp_scr.mp h; rfl
  | tup ds => obtain ⟨_, a, vs, rfl, _⟩ := Rp_tup.mp h; rfl
  | lst o ds => obtain ⟨a, vs, f, rfl, _⟩ := h.lst_get; rfl
  | ins o C ns ds =>
    rcases Rp_ins.mp h with ⟨_, _, a, dx, fs, rfl, _⟩ | ⟨_, a, dx, fs, fp', rfl, _⟩ <;> rfl
def dIsN (neg : Bool) : D → D → Rs D
  | a, .non => .ok (.bl (if neg then !a.isNon else a.isNon))
  | _, _ => .stuck
theorem os_isN : OpS K (fun x y H Q => y = .non ∧ Q (.bl (decide (x = .non))) H) (dIsN false) := by
  intro Z H B Q W d1 v1 f1 d2 v2 f2 b r1 r2 po
  unfold dIsN at po
  split at po
  · obtain ⟨rfl, _⟩ := Rp_non.mp r2
    exact ⟨rfl, by rw [r1.isNon]; exact po.bl b⟩
  · exact po.elim
theorem os_notN : OpS K (fun x y H Q => y = .non ∧ Q (.bl (!decide (x = .non))) H) (dIsN true) := by
  intro Z H B Q W d1 v1 f1 d2 v2 f2 b r1 r2 po
  unfold dIsN at po
  split at po
  · obtain ⟨rfl, _⟩ := Rp_non.mp r2
    exact ⟨rfl, by rw [r1.isNon]; exact po.bl b⟩
  · exact po.elim
/-! ### items -/
def dIx : D → D → Rs D
  | .tup ds, .int i => match atI ds i with
    | some d => .ok d
    | none => .stuck
  | .lst _ ds, .int i => match atI ds i with
    | some d => if d.flag = true then .stuck else .ok d
    | none => .stuck
  | .scr ns, .int i => match atI ns i with
    | some n => .ok (.int n)
    | none => .stuck
  | .str x, .int i => if x.length ≤ sizeLine then (match atI x.cps.toList i with
    | some c => .ok (.str ⟨#[c]⟩)
    | none => .stuck) else .stuck
  | _, _ => .stuck
theorem RpL.atI {Z : AS} {H : Hp} {ds : List D} {vs : List V} {fp : List Addr} (h : RpL K Z H ds vs fp) {i : Int} {d : D} (e : L2.atI ds i = some d) : ∃ v f, L2.atI vs i = some v ∧ Rp K Z H d v f := by
  unfold L2.atI at e ⊢
  rw [h.length]
  cases hx : ixN ds.length i with
  | none => rw [hx] at e; cases e
  | some j =>
    rw [hx] at e
    obtain ⟨v, f, h1, h2, _⟩ := h.at (show ds[j]? = some d from e)
    exact ⟨v, f, h1, h2⟩
theorem os_ix : OpS K (rIx K) dIx := by
  intro Z H B Q W d1 v1 f1 d2 v2 f2 b r1 r2 po
  unfold dIx at po
  split at po
  · rename_i ds i
    obtain ⟨_, a, vs, rfl, q, l⟩ := Rp_tup.mp r1
    obtain ⟨rfl, _⟩ := Rp_int.mp r2
    cases h : atI ds i with
    | none => simp only [h] at po; exact po.elim
    | some d =>
      simp only [h] at po
      obtain ⟨v, f, hv, rv⟩ := l.atI h
      have hf := l.nf d (by
        unfold atI at h
        cases hx : ixN ds.length i with
        | none => rw [hx] at h; cases h
        | some j => rw [hx] at h; exact List.mem_of_getElem? h)
      have e0 := rv.noflag hf
      subst e0
      exact .inr (.inl ⟨a, vs, i, v, rfl, rfl, q.seq, hv, po Z H _ (b.add rv)⟩)
  · rename_i o ds i
    obtain ⟨a, vs, f, rfl, q, l⟩ := r1.lst_get
    obtain ⟨rfl, _⟩ := Rp_int.mp r2
    cases h : atI ds i with
    | none => simp only [h] at po; exact po.elim
    | some d =>
      simp only [h] at po
      obtain ⟨v, f, hv, rv⟩ := l.atI h
      by_cases hf : d.flag = true
      · rw [if_pos hf] at po; exact po.elim
      · rw [if_neg hf] at po
        have e0 := rv.noflag (by simpa using hf)
        subst e0
        exact .inl ⟨a, vs, i, v, rfl, rfl, .of q, hv, po Z H _ (b.add rv)⟩
  · rename_i ns i
    obtain ⟨_, a, rfl, q⟩ := Rp_scr.mp r1
    obtain ⟨rfl, _⟩ := Rp_int.mp r2
    cases h : atI ns i with
    | none => simp only [h] at po; exact po.elim
    | some n =>
      simp only [h] at po
      refine .inl ⟨a, _, i, .int n, rfl, rfl, q.seq, ?_, po.int b⟩
      unfold atI at h ⊢
      rw [List.length_map]
      cases hx : ixN ns.length i with
      | none => rw [hx] at h; cases h
      | some j =>
        rw [hx] at h
        show (ns.map V.int)[j]? = _
        rw [List.getElem?_map, show ns[j]? = some n from h]; rfl
  · rename_i x i
    obtain ⟨rfl, _⟩ := Rp_str.mp r1
    obtain ⟨rfl, _⟩ := Rp_int.mp r2
    by_cases hz : x.length ≤ sizeLine
    · rw [if_pos hz] at po
      cases h : atI x.cps.toList i with
      | none => simp only [h] at po; exact po.elim
      | some c =>
        simp only [h] at po
        exact .inr (.inr ⟨x, i, c, rfl, rfl, hz, h, po.str b⟩)
    · rw [if_neg hz] at po; exact po.elim
  · exact po.elim
end
end Tr

set_option maxHeartbeats 2000000
/-! The tree layer 9: slices, stores, methods of lists, built-in functions. -/
namespace Tr
open PySem PySem.Spec PyProof.Rows L2
section
variable {X : Cx} {W : XW} {fx : List Nat} {a b c e tg : Expr} {es : List Expr} {pos : Pos}
/-! ### slices -/
def PostO (K : PySem.W.Frag) (W : XW) (σ : Sg) (tmp : Bag) (Q : Option Int → Hp → Prop) : Res (Option Int) → Prop
  | .ok o e' => ∀ Z' H', SR K Z' H' σ e' tmp → Q o H'
  | .exn x e' => ∀ Z' H' c o, SR K Z' H' σ e' tmp → XR K Z' H' x c o → W σ c o H'
  | .stuck => False
structure VO (X : Cx) (W : XW) (o : Option Expr) (f : DE → Res (Option Int)) : Prop where
  ex : ∃ t, PO X o t ∧ ∀ Z σ H e tmp Q, SR X.K Z H σ e tmp → PostO X.K W σ tmp Q (f e) → t σ H Q
def oNo : DE → Res (Option Int) := fun e => .ok none e
def oAt (f : DE → Res L) : DE → Res (Option Int) := fun e => (f e).bind fun l e1 => match lget l e1 with
  | some (.int i) => .ok (some i) e1
  | _ => .stuck
theorem vo_no : VO X W none oNo := ⟨_, po_none, fun Z σ H e tmp Q sr po => po Z H sr⟩
theorem vo_at {f : DE → Res L} (h : VX X W a f) : VO X W (some a) (oAt f) := by
  obtain ⟨t, p, s⟩ := h.ex
  refine ⟨_, po_some p, fun Z σ H e tmp Q sr po => s Z σ H e tmp _ sr ?_⟩
  unfold oAt at po
  cases h1 : f e with
  | stuck => rw [h1] at po; exact po
  | exn x e1 => rw [h1] at po; exact po
  | ok l e1 =>
    rw [h1, Res.bind_ok] at po
    intro Z' H' v q k
    cases g : lget l e1 with
    | none => simp only [g] at po; exact po.elim
    | some d =>
      obtain ⟨fp, r⟩ := lread q k g
      cases d with
      | int i =>
        obtain ⟨rfl, _⟩ := Rp_int.mp r
        simp only [g] at po
        exact ⟨i, rfl, po Z' H' q.drop⟩
      | _ => simp only [g] at po; exact po.elim
def eSl (g : D → Option Int → Option Int → Rs D) (fa : DE → Res L) (fl fh : DE → Res (Option Int)) : DE → Res D := fun e => (fa e).bind fun la e1 => (fl e1).bind fun lo e2 => (fh e2).bind fun hi e3 => match lget la e3 with
  | some d => (g d lo hi).at e3
  | none => .stuck
def SlS (K : PySem.W.Frag) (r : V → Option Int → Option Int → Hp → VK → Prop) (g : D → Option Int → Option Int → Rs D) : Prop :=
  ∀ Z H B Q W d1 v1 f1 lo hi, Hold K [] Z H B → Rp K Z H d1 v1 f1 → PostV K W B Q (g d1 lo hi) → r v1 lo hi H Q
theorem ve_sl {r : V → Option Int → Option Int → Hp → VK → Prop} {g : D → Option Int → Option Int → Rs D} {fa : DE → Res L} {fl fh : DE → Res (Option Int)} {lo hi : Option Expr} {p2 : Pos} (hr : SlR X r) (hs : SlS X.K r g) (ha : VX X W a fa) (hl : VO X W lo fl) (hh : VO X W hi fh) :
    VE X W (.Subscript a (.Slice lo hi none p2) pos) (eSl g fa fl fh) := by
  obtain ⟨t, p, s⟩ := ha.ex
  obtain ⟨t1, p1, s1⟩ := hl.ex
  obtain ⟨t2, p2, s2⟩ := hh.ex
  refine ⟨_, pe_slice hr p p1 p2, fun Z σ H e tmp Q sr po => s Z σ H e tmp _ sr ?_⟩
  unfold eSl at po
  cases h1 : fa e with
  | stuck => rw [h1] at po; exact po
  | exn x e1 => rw [h1] at po; exact po
  | ok la e1 =>
    rw [h1, Res.bind_ok] at po
    intro Z1 H1 v1 q1 k1
    refine s1 Z1 σ H1 e1 (lbag la v1 ++ tmp) _ q1 ?_
    cases h2 : fl e1 with
    | stuck => rw [h2] at po; exact po
    | exn x e2 => rw [h2] at po; exact fun Z' H' c o q xr => po Z' H' c o q.drop xr
    | ok o1 e2 =>
      rw [h2, Res.bind_ok] at po
      intro Z2 H2 q2
      refine s2 Z2 σ H2 e2 (lbag la v1 ++ tmp) _ q2 ?_
      cases h3 : fh e2 with
      | stuck => rw [h3] at po; exact po
      | exn x e3 => rw [h3] at po; exact fun Z' H' c o q xr => po Z' H' c o q.drop xr
      | ok o2 e3 =>
        rw [h3, Res.bind_ok] at po
        intro Z3 H3 q3
        cases g : lget la e3 with
        | none => simp only [g] at po; exact po.elim
        | some d =>
          simp only [g] at po
          obtain ⟨fp, r⟩ := lread q3 k1 g
          exact hs Z3 H3 (lbag la v1 ++ tmp ++ slots σ e3) Q (W σ) d v1 fp o1 o2 q3.bag r (PostV.to q3.fit po)
def cutD {α : Type} (xs : List α) (lo hi : Option Int) : List α := (xs.drop (HT.sIx xs.length 0 lo)).take (HT.sIx xs.length xs.length hi - HT.sIx xs.length 0 lo)
def rSlAll (K : PySem.W.Frag) : V → Option Int → Option Int → Hp → VK → Prop := fun x lo hi H Q => rSlA K x lo hi H Q ∨ (rSlL K x lo hi H Q ∨ rSlS x lo hi H Q)
theorem sl_all : SlR X (rSlAll X.K) := sl_tupA.or (sl_list.or sl_str)
def dSl : D → Option Int → Option Int → Rs D := fun d lo hi => match d with
  | .tup ds => .ok (.tup (cutD ds lo hi))
  | .lst _ ds => if ds.all (fun d => !d.flag) = true then .ok (.lst true (cutD ds lo hi)) else .stuck
  | .scr ns => .ok (.lst true ((cutD ns lo hi).map .int))
  | .str x => if x.length ≤ sizeLine then .ok (.str (cutS x lo hi)) else .stuck
  | _ => .stuck
theorem RpL.takeN {K : PySem.W.Frag} {Z : AS} {H : Hp} {ds : List D} {vs : List V} (h : RpL K Z H ds vs []) : ∀ n : Nat, RpL K Z H (ds.take n) (vs.take n) [] := fun n => by
  have e := (List.take_append_drop n ds).symm
  rw [e] at h
  obtain ⟨v1, v2, f1, f2, e1, e2, r1, r2⟩ := h.cut
  have z := List.append_eq_nil_iff.mp e2.symm
  rw [z.1] at r1
  subst e1
  have hl := r1.length
  have : (v1 ++ v2).take n = v1 := by
    have hl2 := r2.length
    by_cases hn : n ≤ ds.length
    · rw [List.length_take, Nat.min_eq_left hn] at hl
      rw [← hl, List.take_left']; rfl
    · rw [List.drop_eq_nil_of_le (by omega)] at hl2
      have : v2 = [] := List.eq_nil_of_length_eq_zero hl2
      subst this
      rw [List.append_nil]
      exact List.take_of_length_le (by rw [hl, List.length_take]; omega)
  rw [this]; exact r1
theorem RpL.dropN {K : PySem.W.Frag} {Z : AS} {H : Hp} {ds : List D} {vs : List V} (h : RpL K Z H ds vs []) : ∀ n : Nat, RpL K Z H (ds.drop n) (vs.drop n) []
  | 0 => h
  | n + 1 => by
    cases ds with
    | nil => obtain ⟨rfl, _⟩ := RpL_nil.mp h; simpa using h
    | cons d ds =>
      obtain ⟨v, vr, f1, f2, rfl, e2, r1, r2⟩ := RpL_cons.mp h
      have z := List.append_eq_nil_iff.mp e2.symm
      rw [z.2] at r2
      exact RpL.dropN r2 n
theorem RpL.cutN {K : PySem.W.Frag} {Z : AS} {H : Hp} {ds : List D} {vs : List V} (h : RpL K Z H ds vs []) (lo hi : Option Int) : RpL K Z H (cutD ds lo hi) (cutV vs lo hi) [] := by
  unfold cutD cutV
  rw [h.length]
  exact (h.dropN _).takeN _
theorem ss_sl {K : PySem.W.Frag} : SlS K (rSlAll K) dSl := by
  intro Z H B Q W d1 v1 f1 lo hi b r1 po
  unfold dSl at po
  split at po
  · rename_i ds
    obtain ⟨_, a, vs, rfl, q, l⟩ := Rp_tup.mp r1
    have e0 := r1.noflag rfl
    subst e0
    refine .inl ⟨a, vs, rfl, q.seq, fun hw => ?_, fun hw p hp => po Z _ _ (Hold.mkT b (l.cutN lo hi) (l.cutN lo hi).nf hp)⟩
    have ec : cutD ds lo hi = ds := by
      unfold cutD
      rw [← l.length, hw.1, hw.2, l.length]
      simp
    rw [ec] at po
    exact po Z H _ (b.add r1)
  · rename_i o ds
    obtain ⟨a, vs, f, rfl, q, l⟩ := r1.lst_get
    split at po
    · rename_i h
      have nf := nf_all h
      have e0 := RpL.noflag l nf
      subst e0
      exact .inr (.inl ⟨a, vs, rfl, .of q, fun p hp => po Z _ _ (Hold.mkL b (l.cutN lo hi) (l.cutN lo hi).nf hp)⟩)
    · exact po.elim
  · rename_i ns
    obtain ⟨_, a, rfl, q⟩ := Rp_scr.mp r1
    refine .inr (.inl ⟨a, _, rfl, q.seq, fun p hp => ?_⟩)
    have rints : ∀ ns : List Int, RpL K Z H (ns.map .int) (ns.map V.int) [] := by
      intro ns
      induction ns with
      | nil => exact RpL_nil.mpr ⟨rfl, rfl⟩
      | cons n ns ih => exact RpL_cons.mpr ⟨_, _, [], [], rfl, rfl, Rp_int.mpr ⟨rfl, rfl⟩, ih⟩
    have e1 : cutV (ns.map V.int) lo hi = (cutD ns lo hi).map V.int := by
      unfold cutV cutD
      rw [List.length_map, ← List.map_drop, ← List.map_take]
    rw [e1]
    exact po Z _ _ (Hold.mkL b (rints _) (rints _).nf hp)
  · rename_i x
    obtain ⟨rfl, _⟩ := Rp_str.mp r1
    split at po
    · rename_i h
      exact .inr (.inr ⟨x, rfl, h, po.str b⟩)
    · exact po.elim
  · exact po.elim

/-! ### xs[i] = v -/
theorem zip_set {K : PySem.W.Frag} {ex : List Addr} {Z : AS} {H : Hp} : ∀ {vs : List V} {ds : List D} {j : Nat} {v : V} {d : D} {B : Bag}, vs.length = ds.length → j < vs.length → Hold K ex Z H ((v, d) :: (vs.zip ds ++ B)) → Hold K ex Z H ((vs.set j v).zip (ds.set j d) ++ B)
  | [], ds, j, v, d, B, _, hj, _ => by simp at hj
  | _ :: _, [], j, v, d, B, hl, _, _ => by simp at hl
  | v0 :: vs, d0 :: ds, 0, v, d, B, hl, _, h => (h.perm (List.Perm.swap _ _ _)).tail
  | v0 :: vs, d0 :: ds, j + 1, v, d, B, hl, hj, h => by
    have h1 : Hold K ex Z H ((v, d) :: (vs.zip ds ++ (v0, d0) :: B)) := h.perm (List.Perm.cons _ (List.perm_middle (a := (v0, d0))).symm)
    have h2 := zip_set (j := j) (by simpa using hl) (by simpa using hj) h1
    exact h2.perm List.perm_middle
def gIx (i : Nat) (fi : DE → Res L) : D → DE → Option DE := fun d e => match e.getD i none with
  | none => none
  | some _ => (match fi e with
    | .ok l e1 => (match lget l e1 with
      | some (.int k) => (match e1.getD i none with
        | some (.lst true ds) => (match ixN ds.length k with
          | some j => some (e1.set i (some (.lst true (ds.set j d))))
          | none => none)
        | _ => none)
      | _ => none)
    | _ => none)
theorem vg_ix (i : Nat) {x : Str} {p : Pos} {fi : DE → Res L} (hi : VX X W b fi) (hN : X.N[i]? = some x := by rfl) (hv : Vis X.env.scope x := by first | exact Or.inl rfl | exact Or.inr (Or.inl rfl) | exact Or.inr (Or.inr rfl)) (hd : (x == ("__debug__" : Str)) = false := by decide)
    (hcd : (x == ("__classdict__" : Str)) = false := by decide)
    (ha : ∀ v, assign (.Subscript (.Name x p) b pos) X.env v = (do
      let ov ← holding [v] (eval (.Name x p) X.env)
      let iv ← holding [v, ov] (eval b X.env)
      standAt pos
      holding [v, ov, iv] (setItem ov iv v)
      release [v, ov, iv] []) := by intro _; rfl) : VG X [] (.Subscript (.Name x p) b pos) (gIx i fi) := by
  obtain ⟨t, pt, s⟩ := hi.ex
  refine ⟨_, pg_sub (pe_var hN hv hd hcd) pt set_list ha, fun Z σ H e tmp v d e' Q sr hg k => ?_⟩
  unfold gIx at hg
  cases g0 : e.getD i none with
  | none => rw [g0] at hg; cases hg
  | some d0 =>
    rw [g0] at hg
    simp only at hg
    obtain ⟨v0, fp0, hs0, r0⟩ := sr.rd (getD_some g0)
    refine ⟨v0, hs0, s Z σ H e ((v, d) :: tmp) _ sr ?_⟩
    cases h1 : fi e with
    | stuck => rw [h1] at hg; cases hg
    | exn x e1 => rw [h1] at hg; cases hg
    | ok l e1 =>
      rw [h1] at hg
      simp only at hg
      intro Z1 H1 vi q1 k1
      cases gl : lget l e1 with
      | none => simp only [gl] at hg; cases hg
      | some di =>
        obtain ⟨fi', ri⟩ := lread q1 k1 gl
        cases di with
        | int kk =>
          obtain ⟨rfl, _⟩ := Rp_int.mp ri
          simp only [gl] at hg
          cases gi : e1.getD i none with
          | none => simp only [gi] at hg; cases hg
          | some dl =>
            have gi' := getD_some gi
            cases dl with
            | lst o ds =>
              cases o with
              | false => simp only [gi] at hg; cases hg
              | true =>
                simp only [gi] at hg
                cases hx : ixN ds.length kk with
                | none => simp only [hx] at hg; cases hg
                | some j =>
                  simp only [hx] at hg
                  cases hg
                  have q2 : SR X.K Z1 H1 σ e1 ((v, d) :: tmp) := q1.drop
                  obtain ⟨w, hw, q3⟩ := q2.out gi'
                  rw [hs0] at hw
                  cases hw
                  obtain ⟨a, vs, rfl, hq, hl, h4⟩ := Hold.takeL q3.bag
                  have hj : j < vs.length := by rw [hl]; exact (ixN_seq hx).2.1
                  refine ⟨a, vs, kk, j, rfl, rfl, hq, by rw [hl]; exact hx, ?_⟩
                  have h5 : Hold X.K [a] Z1 H1 ((v, d) :: (vs.zip ds ++ (tmp ++ slots σ (e1.set i none)))) := h4.perm (List.perm_middle (a := (v, d)))
                  have h6 := zip_set hl hj h5
                  have h7 := Hold.layL (ds := ds.set j d) h6 (by simp [hl]) (by simp)
                  have q8 : SR X.K Z1 (upd H1 a (.lst (vs.set j v))) σ (e1.set i none) ((.ref a, .lst true (ds.set j d)) :: tmp) := .of q3.fit h7
                  have q9 := q8.back (i := i) (by rw [List.getElem?_set_self (List.getElem?_eq_some_iff.mp gi').1]) hs0
                  rw [List.set_set] at q9
                  exact k Z1 _ σ q9 rfl fun _ _ => rfl
            | _ => simp only [gi] at hg; cases hg
        | _ => simp only [gl] at hg; cases hg
/-! ### methods of a list in a slot -/
def eApp (i : Nat) (f : DE → Res D) : DE → Res D := fun e => match e.getD i none with
  | some (.lst true _) => (f e).bind fun d e1 => match e1.getD i none with
    | some (.lst true ds) => if ds.length < sizeLine then .ok .non (e1.set i (some (.lst true (ds ++ [d])))) else .stuck
    | _ => .stuck
  | _ => .stuck
theorem ve_append (i : Nat) {x : Str} {p apos : Pos} {f : DE → Res D} (h : VE X W e f) (hN : X.N[i]? = some x := by rfl) (hv : Vis X.env.scope x := by first | exact Or.inl rfl | exact Or.inr (Or.inl rfl) | exact Or.inr (Or.inr rfl)) (hd : (x == ("__debug__" : Str)) = false := by decide)
    (hcd : (x == ("__classdict__" : Str)) = false := by decide)
    (hbase : attributeBase (.Name x p) "append" X.env (eval (.Name x p) X.env) = eval (.Name x p) X.env := by rfl)
    (hfew : ((backTo pos (starEach [e] X.env)).all (fun x => !x.1) && (backToKw pos (keywordEach [] X.env)).all (fun x => x.1.isSome)
      && decide ([e].length + ([] : List Keyword).length + (if ([] : List Keyword).isEmpty then 0 else 1) < 30)) = true := by rfl)
    (hline : (apos.endLine == pos.line) = true := by rfl) (hs : starEach [e] X.env = (false, eval e X.env) :: starEach [] X.env := by rfl) :
    VE X W (.Call (.Attribute (.Name x p) "append" apos) [e] [] pos) (eApp i f) := by
  obtain ⟨t, pt, s⟩ := h.ex
  refine ⟨_, pe_bm PySem.F.plainAttrs_list PySem.F.slot_list_append PySem.F.type_list_append mt_append (pe_var hN hv hd hcd) (pa_cons pt pa_nil hs) hbase hfew hline hs (by rfl), fun Z σ H e tmp Q sr po => ?_⟩
  unfold eApp at po
  cases g0 : e.getD i none with
  | none => simp only [g0] at po; exact po.elim
  | some d0 =>
    obtain ⟨v0, fp0, hs0, r0⟩ := sr.rd (getD_some g0)
    cases d0 with
    | lst o ds0 =>
      cases o with
      | false => simp only [g0] at po; exact po.elim
      | true =>
        simp only [g0] at po
        obtain ⟨a0, vs0, f0, rfl, hq0, _⟩ := r0.lst_get
        refine ⟨_, hs0, .inl ⟨rfl, vs0, .of hq0⟩, s Z σ H e tmp _ sr ?_⟩
        cases h1 : f e with
        | stuck => rw [h1] at po; exact po
        | exn x e1 => rw [h1] at po; exact po
        | ok d e1 =>
          rw [h1, Res.bind_ok] at po
          intro Z1 H1 v1 q1
          cases gi : e1.getD i none with
          | none => simp only [gi] at po; exact po.elim
          | some dl =>
            have gi' := getD_some gi
            cases dl with
            | lst o ds =>
              cases o with
              | false => simp only [gi] at po; exact po.elim
              | true =>
                simp only [gi] at po
                split at po
                · rename_i hz
                  obtain ⟨w, hw, q3⟩ := q1.out gi'
                  rw [hs0] at hw
                  cases hw
                  have q4 : Hold X.K [] Z1 H1 ((v1, d) :: (.ref a0, .lst true ds) :: (tmp ++ slots σ (e1.set i none))) := q3.bag.perm (List.Perm.swap _ _ _)
                  obtain ⟨vs, hq, hl, h5⟩ := Hold.app1 q4
                  refine ⟨a0, vs, v1, rfl, rfl, hq, by rw [hl]; exact hz, ?_⟩
                  have q8 : SR X.K Z1 (upd H1 a0 (.lst (vs ++ [v1]))) σ (e1.set i none) ((.ref a0, .lst true (ds ++ [d])) :: tmp) := .of q3.fit h5
                  have q9 := q8.back (i := i) (by rw [List.getElem?_set_self (List.getElem?_eq_some_iff.mp gi').1]) hs0
                  rw [List.set_set] at q9
                  exact po Z1 _ _ (q9.add (Rp_non.mpr ⟨rfl, rfl⟩))
                · exact po.elim
            | _ => simp only [gi] at po; exact po.elim
    | _ => simp only [g0] at po; exact po.elim
def eExt (i : Nat) (f : DE → Res D) : DE → Res D := fun e => match e.getD i none with
  | some (.lst true _) => (f e).bind fun d e1 => match d, e1.getD i none with
    | .lst _ es, some (.lst true ds) => if es.all (fun d => !d.flag) = true ∧ ds.length + es.length ≤ sizeLine then .ok .non (e1.set i (some (.lst true (ds ++ es)))) else .stuck
    | _, _ => .stuck
  | _ => .stuck
theorem ve_extend (i : Nat) {x : Str} {p apos : Pos} {f : DE → Res D} (h : VE X W e f) (hN : X.N[i]? = some x := by rfl) (hv : Vis X.env.scope x := by first | exact Or.inl rfl | exact Or.inr (Or.inl rfl) | exact Or.inr (Or.inr rfl)) (hd : (x == ("__debug__" : Str)) = false := by decide)
    (hcd : (x == ("__classdict__" : Str)) = false := by decide)
    (hbase : attributeBase (.Name x p) "extend" X.env (eval (.Name x p) X.env) = eval (.Name x p) X.env := by rfl)
    (hfew : ((backTo pos (starEach [e] X.env)).all (fun x => !x.1) && (backToKw pos (keywordEach [] X.env)).all (fun x => x.1.isSome)
      && decide ([e].length + ([] : List Keyword).length + (if ([] : List Keyword).isEmpty then 0 else 1) < 30)) = true := by rfl)
    (hline : (apos.endLine == pos.line) = true := by rfl) (hs : starEach [e] X.env = (false, eval e X.env) :: starEach [] X.env := by rfl) :
    VE X W (.Call (.Attribute (.Name x p) "extend" apos) [e] [] pos) (eExt i f) := by
  obtain ⟨t, pt, s⟩ := h.ex
  refine ⟨_, pe_bm PySem.F.plainAttrs_list PySem.F.slot_list_extend PySem.F.type_list_extend mt_extend (pe_var hN hv hd hcd) (pa_cons pt pa_nil hs) hbase hfew hline hs (by rfl), fun Z σ H e tmp Q sr po => ?_⟩
  unfold eExt at po
  cases g0 : e.getD i none with
  | none => simp only [g0] at po; exact po.elim
  | some d0 =>
    obtain ⟨v0, fp0, hs0, r0⟩ := sr.rd (getD_some g0)
    cases d0 with
    | lst o ds0 =>
      cases o with
      | false => simp only [g0] at po; exact po.elim
      | true =>
        simp only [g0] at po
        obtain ⟨a0, vs0, f0, rfl, hq0, _⟩ := r0.lst_get
        refine ⟨_, hs0, .inl ⟨rfl, vs0, .of hq0⟩, s Z σ H e tmp _ sr ?_⟩
        cases h1 : f e with
        | stuck => rw [h1] at po; exact po
        | exn x e1 => rw [h1] at po; exact po
        | ok d e1 =>
          rw [h1, Res.bind_ok] at po
          intro Z1 H1 v1 q1
          cases d with
          | lst o2 es =>
            cases gi : e1.getD i none with
            | none => simp only [gi] at po; exact po.elim
            | some dl =>
              have gi' := getD_some gi
              cases dl with
              | lst o ds =>
                cases o with
                | false => simp only [gi] at po; exact po.elim
                | true =>
                  simp only [gi] at po
                  split at po
                  · rename_i hz
                    obtain ⟨fb, rb⟩ := q1.bag.rep
                    obtain ⟨b, ws, f2, rfl, hqb, lb⟩ := rb.lst_get
                    have nf := nf_all hz.1
                    have e0 := RpL.noflag lb nf
                    subst e0
                    obtain ⟨w, hw, q3⟩ := q1.out gi'
                    rw [hs0] at hw
                    cases hw
                    have hold : Hold X.K [] Z1 H1 ((.ref a0, .lst true ds) :: (ws.zip es ++ ((V.ref b, D.lst o2 es) :: tmp ++ slots σ (e1.set i none)))) := by
                      have h0 := Hold.addL lb nf q3.bag
                      exact h0.perm List.perm_middle
                    obtain ⟨a, vs, ea, hq, hl, h4⟩ := Hold.takeL hold
                    cases ea
                    refine ⟨a0, b, vs, ws, rfl, rfl, hq, hqb, by rw [hl, lb.length]; exact hz.2, ?_⟩
                    have h5 : Hold X.K [a0] Z1 H1 ((vs ++ ws).zip (ds ++ es) ++ ((V.ref b, D.lst o2 es) :: tmp ++ slots σ (e1.set i none))) := by
                      rw [List.zip_append hl, List.append_assoc]; exact h4
                    have h7 := Hold.layL h5 (by simp [hl, lb.length]) (by simp)
                    have q8 : SR X.K Z1 (upd H1 a0 (.lst (vs ++ ws))) σ (e1.set i none) ((.ref a0, .lst true (ds ++ es)) :: tmp) := .of q3.fit (Hold.mid (L1 := [(V.ref b, D.lst o2 es)]) h7)
                    have q9 := q8.back (i := i) (by rw [List.getElem?_set_self (List.getElem?_eq_some_iff.mp gi').1]) hs0
                    rw [List.set_set] at q9
                    exact po Z1 _ _ (q9.add (Rp_non.mpr ⟨rfl, rfl⟩))
                  · exact po.elim
              | _ => simp only [gi] at po; exact po.elim
          | _ => exact po.elim
    | _ => simp only [g0] at po; exact po.elim
end
end Tr

set_option maxHeartbeats 2000000
/-! The tree layer 10: built-in functions, enumerate, zip. -/
namespace Tr
open PySem PySem.Spec PyProof.Rows L2
section
variable {K : PySem.W.Frag}
def dInts? : List D → Option (List Int)
  | [] => some []
  | .int i :: ds => (dInts? ds).map (i :: ·)
  | _ => none
def dBls? : List D → Option (List Bool)
  | [] => some []
  | .bl i :: ds => (dBls? ds).map (i :: ·)
  | _ => none
theorem RpL.allI {Z : AS} {H : Hp} : ∀ {ds : List D} {vs : List V} {fp : List Addr} {ns : List Int}, RpL K Z H ds vs fp → dInts? ds = some ns → vs = ns.map V.int
  | [], vs, fp, ns, h, e => by obtain ⟨rfl, _⟩ := RpL_nil.mp h; cases e; rfl
  | d :: ds, vs, fp, ns, h, e => by
    obtain ⟨v, vr, f1, f2, rfl, _, r1, r2⟩ := RpL_cons.mp h
    cases d with
    | int i =>
      simp only [dInts?, Option.map_eq_some_iff] at e
      obtain ⟨ms, e1, rfl⟩ := e
      obtain ⟨rfl, _⟩ := Rp_int.mp r1
      rw [RpL.allI r2 e1]; rfl
    | _ => cases e
theorem RpL.allB {Z : AS} {H : Hp} : ∀ {ds : List D} {vs : List V} {fp : List Addr} {ns : List Bool}, RpL K Z H ds vs fp → dBls? ds = some ns → vs = ns.map V.bl
  | [], vs, fp, ns, h, e => by obtain ⟨rfl, _⟩ := RpL_nil.mp h; cases e; rfl
  | d :: ds, vs, fp, ns, h, e => by
    obtain ⟨v, vr, f1, f2, rfl, _, r1, r2⟩ := RpL_cons.mp h
    cases d with
    | bl i =>
      simp only [dBls?, Option.map_eq_some_iff] at e
      obtain ⟨ms, e1, rfl⟩ := e
      obtain ⟨rfl, _⟩ := Rp_bl.mp r1
      rw [RpL.allB r2 e1]; rfl
    | _ => cases e
/-- one argument -/
def d1 (g : D → Rs D) : List D → Rs D
  | [d] => g d
  | _ => .stuck
def d2 (g : D → D → Rs D) : List D → Rs D
  | [d, e] => g d e
  | _ => .stuck
/-! ### len -/
def rLenA (K : PySem.W.Frag) : List V → Hp → VK → Prop := fun xs H Q => (∃ p ys, xs = [.ref p] ∧ (SqL K H p ys ∨ SqT K H p ys) ∧ Q (.int ys.length) H) ∨ ∃ z, xs = [.str z] ∧ z.length ≤ sizeLine ∧ Q (.int z.length) H
theorem call_lenA {X : Cx} : CallR X (.builtin "len") (rLenA X.K) := call_len_seq.or call_len_str
def dLen : D → Rs D
  | .tup ds => .ok (.int ds.length)
  | .lst _ ds => .ok (.int ds.length)
  | .scr ns => .ok (.int ns.length)
  | .str x => if x.length ≤ sizeLine then .ok (.int x.length) else .stuck
  | _ => .stuck
theorem cs_len : CallS K (rLenA K) (d1 dLen) := by
  intro Z H B Q W ds vs b r po
  unfold d1 at po
  split at po
  · cases r with
    | cons r rr =>
      cases rr
      unfold dLen at po
      split at po
      · obtain ⟨_, a, vs, rfl, q, l⟩ := Rp_tup.mp r
        exact .inl ⟨a, vs, rfl, .inr q.seq, by rw [l.length]; exact po.int b⟩
      · obtain ⟨a, vs, f, rfl, q, l⟩ := r.lst_get
        exact .inl ⟨a, vs, rfl, .inl (.of q), by rw [l.length]; exact po.int b⟩
      · obtain ⟨_, a, rfl, q⟩ := Rp_scr.mp r
        exact .inl ⟨a, _, rfl, .inl q.seq, by rw [List.length_map]; exact po.int b⟩
      · obtain ⟨rfl, _⟩ := Rp_str.mp r
        split at po
        · rename_i h
          exact .inr ⟨_, rfl, h, po.int b⟩
        · exact po.elim
      · exact po.elim
  · exact po.elim
/-! ### sum, all, any, max, min of a list -/
theorem sum_rawT {prog : Program} {w : World} {A : Around} {E : Value → Shared → Prop} {s : Shared} {l : Addr} {its : List Value} {ns : List Int} {Q : Value → Shared → Prop} (hh : A.handled = none) (hl : s.heap.IsTuple l its.toArray) (hi : IntsAre its ns)
    (h : ∀ h' tk t', (∀ b o, s.heap.get? b = some o → h'.get? b = some o) → Q (.int ns.sum t') { s with heap := h', toks := tk }) : wpAny (model prog w) A (call (.builtin "sum") [.ref l]) Q E s := by
  obtain ⟨xs, e⟩ := hi.allInts.items
  have hn : numsOf (intItems xs).toList = ns := by rw [← e]; exact hi.numsOf
  rw [nums_intItems] at hn
  rw [e] at hl
  refine PySem.W.ktm_sumG hh hl fun h' tk t' hk => ?_
  have := h h' tk t' hk
  rw [preSum_eq, List.take_of_length_le (by simp), hn]; exact this
/-- sum(xs) of a list or a tuple of ints -/
def rSumA (K : PySem.W.Frag) : List V → Hp → VK → Prop := fun vs H Q => rSum K vs H Q ∨ ∃ (a : Addr) (ns : List Int), vs = [V.ref a] ∧ SqT K H a (ns.map V.int) ∧ Q (.int ns.sum) H
theorem cr_sumT {X : Cx} (hc : X.calm = true) : CallR X (.builtin "sum") (fun vs H Q => ∃ (a : Addr) (ns : List Int), vs = [V.ref a] ∧ SqT X.K H a (ns.map V.int) ∧ Q (.int ns.sum) H) := by
  intro pins s σ H vs us Q I r h
  obtain ⟨a, ns, rfl, hs, q⟩ := h
  obtain ⟨its, rv, hl, _⟩ := I.tuple hs
  rw [Vals.ref1 r]
  exact sum_rawT (I.ok.hd hc) hl rv.ints fun h' tk t' hk => ⟨.int _, H, I.kept hk, ⟨_, rfl⟩, q⟩
theorem cr_sumA {X : Cx} (hc : X.calm = true) : CallR X (.builtin "sum") (rSumA X.K) := (cr_sum hc).or (cr_sumT hc)
def dSum : D → Rs D
  | .lst _ ds => match dInts? ds with
    | some ns => .ok (.int ns.sum)
    | none => .stuck
  | .tup ds => match dInts? ds with
    | some ns => .ok (.int ns.sum)
    | none => .stuck
  | .scr ns => .ok (.int ns.sum)
  | _ => .stuck
theorem cs_sum : CallS K (rSumA K) (d1 dSum) := by
  intro Z H B Q W ds vs b r po
  unfold d1 at po
  split at po
  · cases r with
    | cons r rr =>
      cases rr
      unfold dSum at po
      split at po
      · obtain ⟨a, vs, f, rfl, q, l⟩ := r.lst_get
        split at po
        · rename_i ns h
          have e := l.allI h
          subst e
          exact .inl ⟨a, ns, rfl, .of q, po.int b⟩
        · exact po.elim
      · obtain ⟨_, a, vs, rfl, q, l⟩ := Rp_tup.mp r
        split at po
        · rename_i ns h
          have e := l.allI h
          subst e
          exact .inr ⟨a, ns, rfl, q.seq, po.int b⟩
        · exact po.elim
      · obtain ⟨_, a, rfl, q⟩ := Rp_scr.mp r
        exact .inl ⟨a, _, rfl, q.seq, po.int b⟩
      · exact po.elim
  · exact po.elim
def dAll : D → Rs D
  | .lst _ ds => match dBls? ds with
    | some ns => .ok (.bl (ns.all id))
    | none => .stuck
  | _ => .stuck
theorem cs_all : CallS K (rAll K) (d1 dAll) := by
  intro Z H B Q W ds vs b r po
  unfold d1 at po
  split at po
  · cases r with
    | cons r rr =>
      cases rr
      unfold dAll at po
      split at po
      · obtain ⟨a, vs, f, rfl, q, l⟩ := r.lst_get
        split at po
        · rename_i ns h
          have e := l.allB h
          subst e
          exact ⟨a, ns, rfl, .of q, po.bl b⟩
        · exact po.elim
      · exact po.elim
  · exact po.elim
def dAny : D → Rs D
  | .lst _ ds => match dBls? ds with
    | some ns => .ok (.bl (ns.any id))
    | none => .stuck
  | _ => .stuck
theorem cs_any : CallS K (rAny K) (d1 dAny) := by
  intro Z H B Q W ds vs b r po
  unfold d1 at po
  split at po
  · cases r with
    | cons r rr =>
      cases rr
      unfold dAny at po
      split at po
      · obtain ⟨a, vs, f, rfl, q, l⟩ := r.lst_get
        split at po
        · rename_i ns h
          have e := l.allB h
          subst e
          exact ⟨a, ns, rfl, .of q, po.bl b⟩
        · exact po.elim
      · exact po.elim
  · exact po.elim
theorem max_at {ns : List Int} {m : Int} (h1 : m ∈ ns) (h2 : ∀ y ∈ ns, y ≤ m) : ns.max? = some m := by
  rw [List.max?_eq_some_iff]; exact ⟨h1, h2⟩
theorem min_at {ns : List Int} {m : Int} (h1 : m ∈ ns) (h2 : ∀ y ∈ ns, m ≤ y) : ns.min? = some m := by
  rw [List.min?_eq_some_iff]; exact ⟨h1, h2⟩
/-- max(m, n), max(xs) -/
def rMaxA (K : PySem.W.Frag) : List V → Hp → VK → Prop := fun xs H Q => (∃ i j, xs = [.int i, .int j] ∧ Q (.int (if j > i then j else i)) H) ∨ rMax K xs H Q
def rMinA (K : PySem.W.Frag) : List V → Hp → VK → Prop := fun xs H Q => (∃ i j, xs = [.int i, .int j] ∧ Q (.int (if j < i then j else i)) H) ∨ rMin K xs H Q
theorem call_maxA {X : Cx} (hc : X.calm = true) : CallR X (.builtin "max") (rMaxA X.K) := (call_max2 hc).or (cr_max hc)
theorem call_minA {X : Cx} (hc : X.calm = true) : CallR X (.builtin "min") (rMinA X.K) := (call_min2 hc).or (cr_min hc)
def dMax : List D → Rs D
  | [.int i, .int j] => .ok (.int (max i j))
  | [.lst _ ds] => match (dInts? ds).bind List.max? with
    | some m => .ok (.int m)
    | none => .stuck
  | _ => .stuck
def dMin : List D → Rs D
  | [.int i, .int j] => .ok (.int (min i j))
  | [.lst _ ds] => match (dInts? ds).bind List.min? with
    | some m => .ok (.int m)
    | none => .stuck
  | _ => .stuck
theorem cs_max : CallS K (rMaxA K) dMax := by
  intro Z H B Q W ds vs b r po
  unfold dMax at po
  split at po
  · rename_i i j
    cases r with
    | cons r rr =>
      cases rr with
      | cons r' rr =>
        cases rr
        obtain ⟨rfl, _⟩ := Rp_int.mp r
        obtain ⟨rfl, _⟩ := Rp_int.mp r'
        refine .inl ⟨i, j, rfl, ?_⟩
        have e : (if j > i then j else i) = max i j := by
          by_cases h : j > i
          · rw [if_pos h]; omega
          · rw [if_neg h]; omega
        rw [e]; exact po.int b
  · cases r with
    | cons r rr =>
      cases rr
      obtain ⟨a, vs, f, rfl, q, l⟩ := r.lst_get
      split at po
      · rename_i m h
        rw [Option.bind_eq_some_iff] at h
        obtain ⟨ns, h1, h2⟩ := h
        have e := l.allI h1
        subst e
        have hm := List.max?_eq_some_iff.mp h2
        refine .inr ⟨a, ns, rfl, .of q, List.length_pos_of_mem hm.1, fun m' h1 h2' => ?_⟩
        have := (max_at h1 h2').symm.trans h2
        cases this
        exact po.int b
      · exact po.elim
  · exact po.elim
theorem cs_min : CallS K (rMinA K) dMin := by
  intro Z H B Q W ds vs b r po
  unfold dMin at po
  split at po
  · rename_i i j
    cases r with
    | cons r rr =>
      cases rr with
      | cons r' rr =>
        cases rr
        obtain ⟨rfl, _⟩ := Rp_int.mp r
        obtain ⟨rfl, _⟩ := Rp_int.mp r'
        refine .inl ⟨i, j, rfl, ?_⟩
        have e : (if j < i then j else i) = min i j := by
          by_cases h : j < i
          · rw [if_pos h]; omega
          · rw [if_neg h]; omega
        rw [e]; exact po.int b
  · cases r with
    | cons r rr =>
      cases rr
      obtain ⟨a, vs, f, rfl, q, l⟩ := r.lst_get
      split at po
      · rename_i m h
        rw [Option.bind_eq_some_iff] at h
        obtain ⟨ns, h1, h2⟩ := h
        have e := l.allI h1
        subst e
        have hm := List.min?_eq_some_iff.mp h2
        refine .inr ⟨a, ns, rfl, .of q, List.length_pos_of_mem hm.1, fun m' h1 h2' => ?_⟩
        have := (min_at h1 h2').symm.trans h2
        cases this
        exact po.int b
      · exact po.elim
  · exact po.elim
/-! ### abs, int, list, tuple, isinstance -/
def dAbs : D → Rs D
  | .int i => .ok (.int (i.natAbs : Nat))
  | _ => .stuck
theorem cs_abs : CallS K (fun xs H Q => ∃ i, xs = [.int i] ∧ Q (.int (if i < 0 then -i else i)) H) (d1 dAbs) := by
  intro Z H B Q W ds vs b r po
  unfold d1 at po
  split at po
  · cases r with
    | cons r rr =>
      cases rr
      unfold dAbs at po
      split at po
      · rename_i i
        obtain ⟨rfl, _⟩ := Rp_int.mp r
        refine ⟨i, rfl, ?_⟩
        have e : (if i < 0 then -i else i) = ((i.natAbs : Nat) : Int) := by
          by_cases h : i < 0
          · rw [if_pos h]; omega
          · rw [if_neg h]; omega
        rw [e]; exact po.int b
      · exact po.elim
  · exact po.elim
def dInt : D → Rs D
  | .int i => .ok (.int i)
  | .bl b => .ok (.int (if b then 1 else 0))
  | _ => .stuck
theorem cs_int : CallS K (fun xs H Q => (∃ i, xs = [.int i] ∧ Q (.int i) H) ∨ ∃ k, xs = [.bl k] ∧ Q (.int (if k then 1 else 0)) H) (d1 dInt) := by
  intro Z H B Q W ds vs b r po
  unfold d1 at po
  split at po
  · cases r with
    | cons r rr =>
      cases rr
      unfold dInt at po
      split at po
      · obtain ⟨rfl, _⟩ := Rp_int.mp r
        exact .inl ⟨_, rfl, po.int b⟩
      · obtain ⟨rfl, _⟩ := Rp_bl.mp r
        exact .inr ⟨_, rfl, po.int b⟩
      · exact po.elim
  · exact po.elim
def dList : D → Rs D
  | .tup ds => .ok (.lst true ds)
  | .lst _ ds => if ds.all (fun d => !d.flag) = true then .ok (.lst true ds) else .stuck
  | .scr ns => .ok (.lst true (ns.map .int))
  | _ => .stuck
theorem rpl_ints {Z : AS} {H : Hp} : ∀ ns : List Int, RpL K Z H (ns.map .int) (ns.map V.int) []
  | [] => RpL_nil.mpr ⟨rfl, rfl⟩
  | n :: ns => RpL_cons.mpr ⟨_, _, [], [], rfl, rfl, Rp_int.mpr ⟨rfl, rfl⟩, rpl_ints ns⟩
theorem cs_list : CallS K (fun xs H Q => ∃ p ys, xs = [.ref p] ∧ (SqL K H p ys ∨ SqT K H p ys) ∧ ∀ l, H l = none → Q (.ref l) (upd H l (.lst ys))) (d1 dList) := by
  intro Z H B Q W ds vs b r po
  unfold d1 at po
  split at po
  · cases r with
    | cons r rr =>
      cases rr
      unfold dList at po
      split at po
      · obtain ⟨_, a, vs, rfl, q, l⟩ := Rp_tup.mp r
        exact ⟨a, vs, rfl, .inr q.seq, fun p hp => po Z _ _ (Hold.mkL b l l.nf hp)⟩
      · obtain ⟨a, vs, f, rfl, q, l⟩ := r.lst_get
        split at po
        · rename_i h
          exact ⟨a, vs, rfl, .inl (.of q), fun p hp => po Z _ _ (Hold.mkL b l (nf_all h) hp)⟩
        · exact po.elim
      · obtain ⟨_, a, rfl, q⟩ := Rp_scr.mp r
        exact ⟨a, _, rfl, .inl q.seq, fun p hp => po Z _ _ (Hold.mkL b (rpl_ints _) (rpl_ints (K := K) (Z := Z) (H := H) _).nf hp)⟩
      · exact po.elim
  · exact po.elim
def dTuple : D → Rs D
  | .tup ds => .ok (.tup ds)
  | .lst _ ds => if ds.all (fun d => !d.flag) = true then .ok (.tup ds) else .stuck
  | .scr ns => .ok (.tup (ns.map .int))
  | _ => .stuck
theorem cs_tuple : CallS K (fun xs H Q => ∃ p ys, xs = [.ref p] ∧ ((SqL K H p ys ∧ ∀ l, H l = none → Q (.ref l) (upd H l (.tup ys))) ∨ (SqT K H p ys ∧ Q (.ref p) H))) (d1 dTuple) := by
  intro Z H B Q W ds vs b r po
  unfold d1 at po
  split at po
  · cases r with
    | cons r rr =>
      cases rr
      unfold dTuple at po
      split at po
      · have e0 := r.noflag rfl
        subst e0
        obtain ⟨_, a, vs, rfl, q, l⟩ := Rp_tup.mp r
        exact ⟨a, vs, rfl, .inr ⟨q.seq, po Z H _ (b.add r)⟩⟩
      · obtain ⟨a, vs, f, rfl, q, l⟩ := r.lst_get
        split at po
        · rename_i h
          exact ⟨a, vs, rfl, .inl ⟨.of q, fun p hp => po Z _ _ (Hold.mkT b l (nf_all h) hp)⟩⟩
        · exact po.elim
      · obtain ⟨_, a, rfl, q⟩ := Rp_scr.mp r
        exact ⟨a, _, rfl, .inl ⟨q.seq, fun p hp => po Z _ _ (Hold.mkT b (rpl_ints _) (rpl_ints (K := K) (Z := Z) (H := H) _).nf hp)⟩⟩
      · exact po.elim
  · exact po.elim
def D.tyN : D → Option String
  | .non => some "NoneType"
  | .bl _ => some "bool"
  | .int _ => some "int"
  | .str _ => some "str"
  | .tup _ => some "tuple"
  | .lst _ _ => some "list"
  | .scr _ => some "list"
  | _ => none
theorem Rp.tyx {Z : AS} {H : Hp} {d : D} {v : V} {fp : List Addr} {n : String} (h : Rp K Z H d v fp) (e : d.tyN = some n) : TyX K H v (.type n) := by
  cases d with
  | non => obtain ⟨rfl, _⟩ := Rp_non.mp h; cases e; exact .base .non
  | bl b => obtain ⟨rfl, _⟩ := Rp_bl.mp h; cases e; exact .base (.bl b)
  | int i => obtain ⟨rfl, _⟩ := Rp_int.mp h; cases e; exact .base (.int i)
  | str x => obtain ⟨rfl, _⟩ := Rp_str.mp h; cases e; exact .base (.str x)
  | tup ds =>
    obtain ⟨_, a, vs, rfl, q, l⟩ := Rp_tup.mp h
    cases e
    rcases q with q | ⟨o, its, n, hk, hc, _⟩
    · exact .base (.tup q)
    · exact .kTuple hk hc
  | lst o ds => obtain ⟨a, vs, f, rfl, q, l⟩ := h.lst_get; cases e; exact .base (.lst q)
  | scr ns =>
    obtain ⟨_, a, rfl, q⟩ := Rp_scr.mp h
    cases e
    rcases q with ⟨o, q⟩ | ⟨o, its, n, hk, hc, _⟩
    · exact .base (.frz q)
    · exact .kList hk hc
  | _ => cases e
def dIsi : D → D → Rs D
  | d, .ty T => match d.tyN with
    | some n => match kitB n T with
      | some b => .ok (.bl b)
      | none => .stuck
    | none => .stuck
  | _, _ => .stuck
theorem cs_isi : CallS K (rIsi K) (d2 dIsi) := by
  intro Z H B Q W ds vs b r po
  unfold d2 at po
  split at po
  · cases r with
    | cons r rr =>
      cases rr with
      | cons r' rr =>
        cases rr
        unfold dIsi at po
        split at po
        · rename_i T
          obtain ⟨rfl, _⟩ := Rp_ty.mp r'
          split at po
          · rename_i n hn
            split at po
            · rename_i bb hb
              exact ⟨_, _, _, _, bb, rfl, .ty T, r.tyx hn, kit_ty hb, po.bl b⟩
            · exact po.elim
          · exact po.elim
        · exact po.elim
  · exact po.elim
end
end Tr

set_option maxHeartbeats 2000000
/-! The tree layer 11: calls by name, keywords, pairs of names, enumerate, zip. -/
namespace Tr
open PySem PySem.Spec PyProof.Rows L2

/-! ### what is let out -/
theorem pxs0 {X : Cx} : ∀ σ, PassesAt (L2.CX X.prog X.w) X σ (W0 σ) := fun _ _ _ _ _ _ _ h => by
  obtain ⟨_, _, _, _, _, _, _, _, _, _, _, _, z⟩ := h
  exact z.elim
section
variable {P : Program} {w : World} {K : PySem.W.Frag} {mg : Str → Option Value} {base : Heap} {N : List Str} {qual : Str} {scope : Scope} {f : Addr} {cdv : Value} {A : Around} {outer : List Env} {s : Shared} {H : Hp} {E : XK}
theorem px_def : ∀ σ, PassesAt (L2.CX P w) (cxOf (L2.CX P w) P w K mg base N qual scope f cdv A outer s H E) σ E :=
  fun σ => passAt (X := cxOf (L2.CX P w) P w K mg base N qual scope f cdv A outer s H E) (W := fun c d _ H' => E c d H') (takes_of rfl rfl rfl rfl) σ
theorem po_def : PassesOwn (model P w) (cxOf (L2.CX P w) P w K mg base N qual scope f cdv A outer s H E).A (cxOf (L2.CX P w) P w K mg base N qual scope f cdv A outer s H E).env (cxOf (L2.CX P w) P w K mg base N qual scope f cdv A outer s H E).xe :=
  passes_of (X := cxOf (L2.CX P w) P w K mg base N qual scope f cdv A outer s H E) rfl
end

/-! ### a def that may be called by its name -/
structure Cal (P : Program) (w : World) (K : PySem.W.Frag) (mg : Str → Option Value) (base : Heap) (x : Str) (k n : Nat) (dds : List D) (G : List D → FR) : Prop where
  ex : ∃ (f : Addr) (fd : FuncData) (ps : List Str) (dvs : List V) (dsv : List Value), FnOk P w K mg base (L2.CX P w) k f fd ps (spG K n G) ∧ mg x = some (.ref f) ∧ PySem.W.keepIn K (.ref f) = true ∧ Binds K fd ps dsv ∧ Vals dvs dsv ∧ (∀ Z H, RpF K Z H dds dvs) ∧ ∀ d ∈ dds, d.flag = false
section
variable {X : Cx} {W : XW} {fx : List Nat} {a b c e tg : Expr} {es : List Expr} {pos : Pos}
theorem ve_cal {x : Str} {k j n : Nat} {dds : List D} {G : List D → FR} {p : Pos} {fa : DE → Res (List L)} (c : Cal X.prog X.w X.K X.mg X.base x k n dds G) (hr : Room j X.A) (hx : ∀ σ, PassesAt (L2.CX X.prog X.w) X σ (W σ)) (ha : VA X W (e :: es) fa) (hk : k ≤ j := by decide) (hg : Gl X x := by rfl) (hn : (e :: es).length + dds.length = n := by rfl)
    (hdb : (x == ("__debug__" : Str)) = false := by decide) (he : starEach (e :: es) X.env = (false, eval e X.env) :: starEach es X.env := by rfl) (hpl : (backTo pos (starEach es X.env)).any (·.1) = false := by rfl) :
    VE X W (.Call (.Name x p) (e :: es) [] pos) (eCall G dds fa) := by
  obtain ⟨f, fd, ps, dvs, dsv, F, hm, kp, hb, hd, hdd, hd0⟩ := c.ex
  exact ve_call F (hr.mono hk) hg hm kp hb hd hdd hd0 hx ha hn hdb he hpl

/-! ### calls with keywords: the keywords' values are plain; rest: what stands behind the positional ones -/
/-- the parameters behind the positional ones: a keyword's value by its place, or a default in turn -/
def arr {α : Type} (z : α) : List α → List (Option Nat) → List α → List α
  | _, [], _ => []
  | ds, some k :: sp, zs => zs.getD k z :: arr z ds sp zs
  | d :: ds, none :: sp, zs => d :: arr z ds sp zs
  | [], none :: sp, zs => z :: arr z [] sp zs
theorem arr_vals : ∀ {sp : List (Option Nat)} {ds : List V} {us : List Value} {zs : List V} {ws : List Value}, Vals ds us → Vals zs ws → Vals (arr .non ds sp zs) (arr .none us sp ws)
  | [], _, _, _, _, _, _ => by simp only [arr]; exact .nil
  | some k :: sp, ds, us, zs, ws, h1, h2 => by
    simp only [arr]
    refine .cons ?_ (arr_vals h1 h2)
    rw [List.getD_eq_getElem?_getD, List.getD_eq_getElem?_getD]
    cases hz : zs[k]? with
    | none => rw [h2.none_of hz]; rfl
    | some z => obtain ⟨u, hu, r⟩ := h2.get hz; rw [hu]; exact r
  | none :: sp, _, _, zs, ws, .nil, h2 => by simp only [arr]; exact .cons rfl (arr_vals .nil h2)
  | none :: sp, _, _, zs, ws, .cons r h1, h2 => by simp only [arr]; exact .cons r (arr_vals h1 h2)
theorem arr_length {α : Type} (z : α) : ∀ (ds : List α) (sp : List (Option Nat)) (zs : List α), (arr z ds sp zs).length = sp.length
  | _, [], _ => by simp [arr]
  | ds, some k :: sp, zs => by simp [arr, arr_length z ds sp zs]
  | d :: ds, none :: sp, zs => by simp [arr, arr_length z ds sp zs]
  | [], none :: sp, zs => by simp [arr, arr_length z [] sp zs]
/-- a keyword-only def called with n positional values and the keywords ks -/
theorem FunD.kb {K : PySem.W.Frag} {x qual : Str} {params : Arguments} {body : List Stmt} {scope : Scope} {kws : List (Str × V)} {f : Addr} {fd : FuncData} {ps : List Str} (F : FunD K x qual params body scope [] kws f fd) (n : Nat) (ks : List Str) (ms : List (Str × V)) (sp : List (Option Nat)) (hk : kws ≠ []) (hms : ∀ q ∈ ms, q ∈ kws)
    (h : ∀ (D : Addr) (doc pm : Value) (an : Option Addr) (cdv ct : Value) (us mv ws : List Value), us.length = n → mv.length = ms.length → ws.length = ks.length →
      KwChain D ((ms.map (·.1)).zip mv) (bindArgs (PySem.W.fnOf x qual params body scope .none (.ref D) doc pm an cdv ct) ⟨us, ks.zip ws⟩) (ps.zip (us ++ arr .none mv sp ws))) :
    ∃ mv : List Value, KBn K fd ps n ks (fun us ws => us ++ arr .none mv sp ws) (fun vs zs => vs ++ arr .non (ms.map (·.2)) sp zs) := by
  obtain ⟨oc, od, dV, kV, doc, pm, an, cdv, ct, osl, rfl, lk, hcd, hD, hK⟩ := F.ex
  rcases hD with ⟨_, rfl⟩ | ⟨e, _⟩
  · rcases hK with e | ⟨D, rfl, hq⟩
    · exact absurd e hk
    · obtain ⟨mv, hl, rk, hks⟩ := kwd_vals (ms := ms) fun q hm => hq q (hms q hm)
      refine ⟨mv, ⟨fun s us ws X l1 l2 => BindsTo.of_looks fun M => KwChain.looks X hks (h D doc pm an cdv ct us mv ws l1 hl l2), fun r1 r2 => r1.append (arr_vals rk r2)⟩⟩
  · exact absurd rfl e
/-- keyword-only parameters without defaults, all given -/
theorem FunD.kb0 {K : PySem.W.Frag} {x qual : Str} {params : Arguments} {body : List Stmt} {scope : Scope} {kws : List (Str × V)} {f : Addr} {fd : FuncData} {ps : List Str} (F : FunD K x qual params body scope [] kws f fd) (n : Nat) (ks : List Str) (sp : List (Option Nat))
    (h : ∀ (kV doc pm : Value) (an : Option Addr) (cdv ct : Value) (us ws : List Value), us.length = n → ws.length = ks.length →
      bindArgs (PySem.W.fnOf x qual params body scope .none kV doc pm an cdv ct) ⟨us, ks.zip ws⟩ = pure (ps.zip (us ++ arr .none [] sp ws))) :
    KBn K fd ps n ks (fun us ws => us ++ arr .none [] sp ws) (fun vs zs => vs ++ arr .non [] sp zs) := by
  obtain ⟨oc, od, dV, kV, doc, pm, an, cdv, ct, osl, rfl, lk, hcd, hD, hK⟩ := F.ex
  rcases hD with ⟨_, rfl⟩ | ⟨e, _⟩
  · exact ⟨fun s us ws X l1 l2 => .of_eq (h kV doc pm an cdv ct us ws l1 l2), fun r1 r2 => r1.append (arr_vals .nil r2)⟩
  · exact absurd rfl e
structure KCal (P : Program) (w : World) (K : PySem.W.Frag) (mg : Str → Option Value) (base : Heap) (x : Str) (k n np : Nat) (ks : List Str) (sp : List (Option Nat)) (dds : List D) (G : List D → FR) : Prop where
  ex : ∃ (f : Addr) (fd : FuncData) (ps : List Str) (dvs : List V) (mv : List Value), FnOk P w K mg base (L2.CX P w) k f fd ps (spG K n G) ∧ mg x = some (.ref f) ∧ PySem.W.keepIn K (.ref f) = true ∧ KBn K fd ps np ks (fun us ws => us ++ arr .none mv sp ws) (fun vs zs => vs ++ arr .non dvs sp zs) ∧ (∀ Z H, RpF K Z H dds dvs) ∧ ∀ d ∈ dds, d.flag = false
structure VK (X : Cx) (W : XW) (kws : List Keyword) (f : DE → Res (List L)) : Prop where
  ex : ∃ t, PK X kws t ∧ SndA X.K W t f
  len : ∀ e ls e1, f e = .ok ls e1 → ls.length = kws.length
theorem vk_nil : Tr.VK X W [] aNil := ⟨⟨_, pk_nil, fun Z σ H e tmp Q sr po => po Z H [] sr trivial⟩, fun e ls e1 h => by cases h; rfl⟩
theorem vk_cons {nm : Option Str} {kpos : Pos} {kws : List Keyword} {f : DE → Res D} {g : DE → Res (List L)} (ha : VE X W e f) (hr : Tr.VK X W kws g) : Tr.VK X W (⟨nm, e, kpos⟩ :: kws) (aCons (xOf f) g) := by
  obtain ⟨t, p, s⟩ := (vx_of ha).ex
  obtain ⟨t2, p2, s2⟩ := hr.ex
  refine ⟨⟨_, pk_cons p p2, fun Z σ H e tmp Q sr po => s Z σ H e tmp _ sr ?_⟩, fun e' ls e1 h => ?_⟩
  rotate_left
  · unfold aCons at h
    cases h1 : xOf f e' with
    | stuck => rw [h1] at h; cases h
    | exn x e2 => rw [h1] at h; cases h
    | ok l e2 =>
      rw [h1, Res.bind_ok] at h
      cases h2 : g e2 with
      | stuck => rw [h2] at h; cases h
      | exn x e3 => rw [h2] at h; cases h
      | ok ls' e3 =>
        rw [h2, Res.bind_ok] at h
        cases h
        simp [hr.len _ _ _ h2]
  unfold aCons at po
  cases h1 : xOf f e with
  | stuck => rw [h1] at po; exact po
  | exn x e1 => rw [h1] at po; exact po
  | ok l e1 =>
    rw [h1, Res.bind_ok] at po
    intro Z1 H1 v1 sr1 k1
    refine s2 Z1 σ H1 e1 (lbag l v1 ++ tmp) _ sr1 ?_
    cases h2 : g e1 with
    | stuck => rw [h2] at po; exact po
    | exn x e2 => rw [h2] at po; exact fun Z' H' c o q xr => po Z' H' c o q.drop xr
    | ok ls e2 =>
      rw [h2, Res.bind_ok] at po
      intro Z2 H2 vs sr2 k2
      refine po Z2 H2 (v1 :: vs) (sr2.perm ?_) ⟨k1, k2⟩
      show (lbags ls vs ++ (lbag l v1 ++ tmp)).Perm ((lbag l v1 ++ lbags ls vs) ++ tmp)
      rw [List.append_assoc]
      exact List.perm_append_comm_assoc _ _ _
def eCallK (G : List D → FR) (sp : List (Option Nat)) (dds : List D) (fa fk : DE → Res (List L)) : DE → Res D := fun e => (fa e).bind fun ls e1 => (fk e1).bind fun lk e2 => match vals lk with
  | some zs => if zs.all (fun d => !d.flag) = true then (match take ls e2 with
    | some (ds, e3) => match G (ds ++ arr .non dds sp zs) with
      | .ok d ds' => .ok d (give ls ds ds' e3)
      | .exn x ds' => .exn x (give ls ds ds' e3)
      | .stuck => .stuck
    | none => .stuck) else .stuck
  | none => .stuck
theorem rpf_get {K : PySem.W.Frag} {Z : AS} {H : Hp} : ∀ {ds : List D} {vs : List V} (k : Nat), RpF K Z H ds vs → ∃ fp, Rp K Z H (ds.getD k .non) (vs.getD k .non) fp
  | [], [], k, .nil => ⟨[], Rp_non.mpr ⟨rfl, rfl⟩⟩
  | _ :: _, _ :: _, 0, .cons r _ => ⟨_, r⟩
  | _ :: _, _ :: _, k + 1, .cons _ t => rpf_get k t
theorem arr_rpf {K : PySem.W.Frag} {Z : AS} {H : Hp} : ∀ {sp : List (Option Nat)} {dds : List D} {dvs : List V} {zs : List D} {zv : List V}, RpF K Z H dds dvs → RpF K Z H zs zv → RpF K Z H (arr .non dds sp zs) (arr .non dvs sp zv)
  | [], _, _, _, _, _, _ => by simp only [arr]; exact .nil
  | some k :: sp, dds, dvs, zs, zv, h1, h2 => by
    simp only [arr]
    obtain ⟨fp, r⟩ := rpf_get k h2
    exact .cons r (arr_rpf h1 h2)
  | none :: sp, [], [], zs, zv, .nil, h2 => by simp only [arr]; exact .cons (Rp_non.mpr ⟨rfl, rfl⟩) (arr_rpf .nil h2)
  | none :: sp, _ :: _, _ :: _, zs, zv, .cons r h1, h2 => by simp only [arr]; exact .cons r (arr_rpf h1 h2)
theorem arr_nf : ∀ {sp : List (Option Nat)} {dds zs : List D}, (∀ d ∈ dds, d.flag = false) → (∀ d ∈ zs, d.flag = false) → ∀ d ∈ arr .non dds sp zs, d.flag = false
  | [], dds, zs, _, _, d, h => by simp [arr] at h
  | some k :: sp, dds, zs, h1, h2, d, h => by
    simp only [arr, List.mem_cons] at h
    rcases h with rfl | h
    · rw [List.getD_eq_getElem?_getD]
      cases hz : zs[k]? with
      | none => rfl
      | some z => exact h2 z (List.mem_of_getElem? hz)
    · exact arr_nf h1 h2 d h
  | none :: sp, [], zs, h1, h2, d, h => by
    simp only [arr, List.mem_cons] at h
    rcases h with rfl | h
    · rfl
    · exact arr_nf h1 h2 d h
  | none :: sp, d0 :: dds, zs, h1, h2, d, h => by
    simp only [arr, List.mem_cons] at h
    rcases h with rfl | h
    · exact h1 _ List.mem_cons_self
    · exact arr_nf (fun x hx => h1 x (List.mem_cons_of_mem _ hx)) h2 d h
/-- run_fnN, what is raised wished for at the slots -/
theorem run_fnNS {CX : CXT} {k n : Nat} {f : Addr} {fd : FuncData} {ps ks : List Str} {sp : Sp} {E : XK} {g : List Value → List Value → List Value} {gV : List V → List V → List V} {pins : List (Addr × Obj)} {σ : Sg} {H : Hp} {s : Shared} {Q : L2.VK} {us ws : List Value} {vs zs : List V} (F : FnOk X.prog X.w X.K X.mg X.base CX k f fd ps sp) (hr : Room k X.A) (hb : KBn X.K fd ps n ks g gV) (hx : PassesAt CX X σ E)
    (I : Inv X pins σ H s) (r : Vals vs us) (rz : Vals zs ws) (l1 : vs.length = n) (l2 : zs.length = ks.length) (h : sp (gV vs zs) H Q E) : wpAny (model X.prog X.w) X.A (call (.ref f) us (ks.zip ws)) (EP X pins σ Q) X.xe s := by
  have r2 := hb.rel r rz
  refine wpAny_call (codeAny_mono (F.run X.A X.stack s H ⟨us, ks.zip ws⟩ (g us ws) (gV vs zs) Q E hr I.env0 (hb.to s us ws I.kIn (r.length.symm.trans l1) (rz.length.symm.trans l2)) r2 h) fun r s' hq => ?_)
  cases r with
  | error e => exact hx pins H s e s' I hq
  | ok fl =>
    cases fl with
    | ret u => exact I.after hq
    | next => exact False.elim hq
    | brk => exact False.elim hq
    | cont => exact False.elim hq
def tCallNS (n m : Nat) (sp : Sp) (gV : List V → List V → List V) (E : XW) (t tk : TA) : TE := fun σ H Q => t σ H fun vs H1 => tk σ H1 fun zs H2 => vs.length = n ∧ zs.length = m ∧ sp (gV vs zs) H2 Q (E σ)
theorem pe_callNS {CX : CXT} {k n : Nat} {f : Addr} {fd : FuncData} {ps ks : List Str} {sp : Sp} {x : Str} {p : Pos} {kws : List Keyword} {t tk : TA} {g : List Value → List Value → List Value} {gV : List V → List V → List V} (F : FnOk X.prog X.w X.K X.mg X.base CX k f fd ps sp) (hr : Room k X.A) (hg : Gl X x) (hm : X.mg x = some (.ref f)) (hk : PySem.W.keepIn X.K (.ref f) = true) (hb : KBn X.K fd ps n ks g gV) (hx : ∀ σ, PassesAt CX X σ (W σ))
    (ha : PA X (e :: es) t) (hkw : PK X kws tk) (hall : (backToKw pos (keywordEach kws X.env)).all (·.1.isSome) = true := by rfl) (hks : (backToKw pos (keywordEach kws X.env)).filterMap (·.1) = ks := by rfl)
    (hdb : (x == ("__debug__" : Str)) = false := by decide) (he : starEach (e :: es) X.env = (false, eval e X.env) :: starEach es X.env := by rfl)
    (hpl : ((backTo pos (starEach (e :: es) X.env)).any (·.1) || (backToKw pos (keywordEach kws X.env)).any (·.1.isNone)) = false := by rfl) :
    PE X (.Call (.Name x p) (e :: es) kws pos) (tCallNS n ks.length sp gV W t tk) := by
  refine ⟨fun pins s σ H Q I h => ?_⟩
  refine wpAny_Call_Name_kw (ld_glob I hg hm ?_ hdb)
  refine PySem.W.callWith_KW (h₀ := X.base) I.ok.mod.kin hk hall (thn (ha.run pos pins s σ H _ I h) fun us s1 ⟨vs, H1, I1, r, q⟩ => ?_) hpl he
  refine thn (hkw.run pos pins s1 σ H1 _ I1 q) fun ws s2 ⟨zs, H2, I2, rz, l1, l2, q2⟩ => ⟨I2.kIn, ?_⟩
  rw [hks]
  exact run_fnNS F hr hb (hx σ) I2 r rz l1 l2 q2
theorem loks_length {σ : Sg} : ∀ {ls : List L} {vs : List V}, loks σ ls vs → vs.length = ls.length
  | [], [], _ => rfl
  | [], _ :: _, h => h.elim
  | _ :: _, [], h => h.elim
  | _ :: ls, _ :: vs, h => by simp [loks_length h.2]
theorem ve_kcal {x : Str} {k j n np : Nat} {ks : List Str} {sp : List (Option Nat)} {dds : List D} {G : List D → FR} {p : Pos} {kws : List Keyword} {fa fk : DE → Res (List L)} (c : KCal X.prog X.w X.K X.mg X.base x k n np ks sp dds G) (hr : Room j X.A) (hx : ∀ σ, PassesAt (L2.CX X.prog X.w) X σ (W σ)) (ha : VA X W (e :: es) fa) (hkw : Tr.VK X W kws fk)
    (hk : k ≤ j := by decide) (hg : Gl X x := by rfl) (hn : (e :: es).length = np := by rfl) (hn2 : kws.length = ks.length := by rfl) (hn3 : np + sp.length = n := by rfl) (hall : (backToKw pos (keywordEach kws X.env)).all (·.1.isSome) = true := by rfl) (hks : (backToKw pos (keywordEach kws X.env)).filterMap (·.1) = ks := by rfl)
    (hdb : (x == ("__debug__" : Str)) = false := by decide) (he : starEach (e :: es) X.env = (false, eval e X.env) :: starEach es X.env := by rfl)
    (hpl : ((backTo pos (starEach (e :: es) X.env)).any (·.1) || (backToKw pos (keywordEach kws X.env)).any (·.1.isNone)) = false := by rfl) :
    VE X W (.Call (.Name x p) (e :: es) kws pos) (eCallK G sp dds fa fk) := by
  obtain ⟨f, fd, ps, dvs, mv, F, hm, kp, hb, hdd, hd0⟩ := c.ex
  obtain ⟨ta, pa, sa⟩ := ha.ex
  obtain ⟨tk, pk, sk⟩ := hkw.ex
  refine ⟨_, pe_callNS F (hr.mono hk) hg hm kp hb hx pa pk hall hks hdb he hpl, fun Z σ H e' tmp Q sr po => ?_⟩
  refine sa Z σ H e' tmp _ sr ?_
  unfold eCallK at po
  cases h1 : fa e' with
  | stuck => rw [h1] at po; exact po
  | exn x e1 => rw [h1] at po; exact po
  | ok ls e1 =>
    rw [h1, Res.bind_ok] at po
    intro Z1 H1 vs sr1 kk
    refine sk Z1 σ H1 e1 (lbags ls vs ++ tmp) _ sr1 ?_
    cases h2 : fk e1 with
    | stuck => rw [h2] at po; exact po
    | exn x e2 => rw [h2] at po; exact fun Z' H' c o q xr => po Z' H' c o q.drop xr
    | ok lk e2 =>
      rw [h2, Res.bind_ok] at po
      intro Z2 H2 zv sr2 k2
      have L1 : vs.length = np := by rw [loks_length kk, ha.len _ _ _ h1]; exact hn
      have L2 : zv.length = ks.length := by rw [loks_length k2, hkw.len _ _ _ h2]; exact hn2
      refine ⟨L1, L2, ?_⟩
      cases hv : vals lk with
      | none => simp only [hv] at po; exact po.elim
      | some zs =>
        simp only [hv] at po
        obtain ⟨q1, q2⟩ := vals_ok (K := X.K) (Z := Z2) (H := H2) hv k2
        rw [q1] at sr2
        split at po
        · rename_i hf
          have nf := nf_all hf
          have rz : RpF X.K Z2 H2 zs zv := by
            obtain ⟨M, r, _, _⟩ := sr2.bag.rp
            rw [List.append_assoc] at r
            obtain ⟨f1, f2, _, r1, _⟩ := RpB.app.mp r
            have r1' : RpL X.K Z2 H2 zs zv f1 := by
              have q : RpL X.K Z2 H2 ((zv.zip zs).map (·.2)) ((zv.zip zs).map (·.1)) f1 := r1
              have e1 : (zv.zip zs).map (·.2) = zs := by rw [← List.unzip_snd, List.unzip_zip q2]
              have e2 : (zv.zip zs).map (·.1) = zv := by rw [← List.unzip_fst, List.unzip_zip q2]
              rw [e1, e2] at q; exact q
            have toF : ∀ {ds : List D} {vs : List V} {f : List Addr}, RpL X.K Z2 H2 ds vs f → RpF X.K Z2 H2 ds vs := by
              intro ds
              induction ds with
              | nil => intro vs f h; obtain ⟨rfl, _⟩ := RpL_nil.mp h; exact .nil
              | cons d ds ih =>
                intro vs f h
                obtain ⟨v, vr, g1, g2, rfl, _, q1, q2⟩ := RpL_cons.mp h
                exact .cons q1 (ih q2)
            exact toF r1'
          have sr3 : SR X.K Z2 H2 σ e2 (lbags ls vs ++ tmp) := sr2.drop
          refine call_post (Z := Z2) sr3 kk (arr_rpf (hdd Z2 H2) rz) (arr_nf hd0 nf) po ?_
          rw [L1, arr_length]; exact hn3
        · exact po.elim

/-! ### a, b = x, y with plain local names -/
def sPar2 (i j : Nat) (fa : DE → Res (List L)) : DE → SRes := fun e => (fa e).toS fun ls e1 => match vals ls with
  | some [d1, d2] => if i < e1.length ∧ j < e1.length then .nx ((e1.set i (some d1)).set j (some d2)) else .stuck
  | _ => .stuck
theorem vs_par2 (i j : Nat) {x y : Str} {px py pt : Pos} {kt k2 pt2} {fa : DE → Res (List L)} (hN : X.N.Nodup) (ha : VA X W [a, b] fa) (hc : X.calm = true := by rfl) (hi : X.N[i]? = some x := by rfl) (hj : X.N[j]? = some y := by rfl) (hij : i ≠ j := by decide)
    (hx : X.env.scope.names.lookup x = some .local := by rfl) (hy : X.env.scope.names.lookup y = some .local := by rfl) (hf1 : fx.contains i = false := by rfl) (hf2 : fx.contains j = false := by rfl)
    (hw : swappedStores [.Tuple [.Name x px, .Name y py] kt pt] (.Tuple [a, b] k2 pt2) X.env = pure (some [x, y]) := by rfl)
    (hs : swapsWithSole [.Tuple [.Name x px, .Name y py] kt pt] (.Tuple [a, b] k2 pt2) pos.line X.env = pure false := by rfl) :
    VS X W fx (.Assign [.Tuple [.Name x px, .Name y py] kt pt] (.Tuple [a, b] k2 pt2) pos) (sPar2 i j fa) := by
  obtain ⟨t, p, s⟩ := ha.ex
  refine ⟨_, ps_par hc hN hi hj hij hx hy p hw hs, fun Z σ H e tmp D sr po => s Z σ H e tmp _ sr ?_⟩
  unfold sPar2 at po
  cases h1 : fa e with
  | stuck => rw [h1] at po; exact po
  | exn x e1 => rw [h1] at po; exact fun Z' H' c o q xr => po Z' H' σ c o q .refl xr
  | ok ls e1 =>
    rw [h1, Res.toS_ok] at po
    intro Z' H' vs q kk
    split at po
    · rename_i d1 d2 hv
      obtain ⟨q1, q2⟩ := vals_ok (K := X.K) (Z := Z') (H := H') hv kk
      rw [q1] at q
      match vs, q2 with
      | [v, w'], _ =>
        refine ⟨v, w', rfl, ?_⟩
        split at po
        · rename_i hl
          have q3 : SR X.K Z' H' σ e1 ((v, d1) :: (w', d2) :: tmp) := q
          have q4 := q3.assign hl.1
          have q5 := q4.assign (i := j) (by rw [List.length_set]; exact hl.2)
          exact po Z' H' _ q5 ((Fx.set hf1).trans (Fx.set hf2))
        · exact po.elim
    · exact po.elim
def sPar3 (i j k : Nat) (fa : DE → Res (List L)) : DE → SRes := fun e => (fa e).toS fun ls e1 => match vals ls with
  | some [d1, d2, d3] => if i < e1.length ∧ j < e1.length ∧ k < e1.length then .nx (((e1.set i (some d1)).set j (some d2)).set k (some d3)) else .stuck
  | _ => .stuck
theorem vs_par3 (i j l : Nat) {x y z : Str} {px py pz pt : Pos} {kt k2 pt2} {fa : DE → Res (List L)} (hN : X.N.Nodup) (ha : VA X W [a, b, c] fa) (hc : X.calm = true := by rfl) (hi : X.N[i]? = some x := by rfl) (hj : X.N[j]? = some y := by rfl) (hl : X.N[l]? = some z := by rfl) (hij : i ≠ j := by decide) (hil : i ≠ l := by decide) (hjl : j ≠ l := by decide)
    (hx : X.env.scope.names.lookup x = some .local := by rfl) (hy : X.env.scope.names.lookup y = some .local := by rfl) (hz : X.env.scope.names.lookup z = some .local := by rfl) (hf1 : fx.contains i = false := by rfl) (hf2 : fx.contains j = false := by rfl) (hf3 : fx.contains l = false := by rfl)
    (hw : swappedStores [.Tuple [.Name x px, .Name y py, .Name z pz] kt pt] (.Tuple [a, b, c] k2 pt2) X.env = pure (some [x, y, z]) := by rfl)
    (hs : swapsWithSole [.Tuple [.Name x px, .Name y py, .Name z pz] kt pt] (.Tuple [a, b, c] k2 pt2) pos.line X.env = pure false := by rfl) :
    VS X W fx (.Assign [.Tuple [.Name x px, .Name y py, .Name z pz] kt pt] (.Tuple [a, b, c] k2 pt2) pos) (sPar3 i j l fa) := by
  obtain ⟨t, p, s⟩ := ha.ex
  refine ⟨_, ps_par3 hc hN hi hj hl hij hil hjl hx hy hz p hw hs, fun Z σ H e tmp D sr po => s Z σ H e tmp _ sr ?_⟩
  unfold sPar3 at po
  cases h1 : fa e with
  | stuck => rw [h1] at po; exact po
  | exn x e1 => rw [h1] at po; exact fun Z' H' c o q xr => po Z' H' σ c o q .refl xr
  | ok ls e1 =>
    rw [h1, Res.toS_ok] at po
    intro Z' H' vs q kk
    split at po
    · rename_i d1 d2 d3 hv
      obtain ⟨q1, q2⟩ := vals_ok (K := X.K) (Z := Z') (H := H') hv kk
      rw [q1] at q
      match vs, q2 with
      | [v, w', u], _ =>
        refine ⟨v, w', u, rfl, ?_⟩
        split at po
        · rename_i hl
          have q3 : SR X.K Z' H' σ e1 ((v, d1) :: (w', d2) :: (u, d3) :: tmp) := q
          have q4 := q3.assign hl.1
          have q5 := q4.assign (i := j) (by rw [List.length_set]; exact hl.2.1)
          have q6 := q5.assign (i := l) (by rw [List.length_set, List.length_set]; exact hl.2.2)
          exact po Z' H' _ q6 (((Fx.set hf1).trans (Fx.set hf2)).trans (Fx.set hf3))
        · exact po.elim
    · exact po.elim
/-! ### += of ints -/
theorem os_ipI {K : PySem.W.Frag} {g : Int → Int → Int} : OpS K (ipI g) (dI0 fun i j => .int (g i j)) := by
  intro Z H B Q W d1 v1 f1 d2 v2 f2 b r1 r2 po
  unfold dI0 at po
  split at po
  · rename_i i j
    obtain ⟨rfl, _⟩ := Rp_int.mp r1
    obtain ⟨rfl, _⟩ := Rp_int.mp r2
    exact ⟨i, j, rfl, rfl, po.int b⟩
  · exact po.elim
def dIadd : D → D → Rs D := dI0 fun i j => .int (i + j)
def dIsub : D → D → Rs D := dI0 fun i j => .int (i - j)
theorem os_ipadd {K : PySem.W.Frag} : OpS K (ipI fun i j => i + j) dIadd := os_ipI
theorem os_ipsub {K : PySem.W.Frag} : OpS K (ipI fun i j => i - j) dIsub := os_ipI
/-! ### xs.count(n) -/
def dCount : D → D → Rs D
  | .lst _ ds, .int k => match dInts? ds with
    | some ns => .ok (.int (ns.count k : Nat))
    | none => .stuck
  | _, _ => .stuck
/-- a method of a built-in type with one argument, which changes nothing: chk: the receiver is of that type ahead of the argument -/
def eMt1 (chk : D → Bool) (g : D → D → Rs D) (fo fa : DE → Res L) : DE → Res D := fun e => (fo e).bind fun la e1 => match lget la e1 with
  | some d0 => if chk d0 = true then (fa e1).bind fun lb e2 => match lget la e2, lget lb e2 with
    | some da, some db => (g da db).at e2
    | _, _ => .stuck else .stuck
  | none => .stuck
def isLst : D → Bool
  | .lst _ _ => true
  | .scr _ => true
  | _ => false
def isStr : D → Bool
  | .str _ => true
  | _ => false
theorem ty_lst {K : PySem.W.Frag} {Z : AS} {H : Hp} {d : D} {v : V} {fp : List Addr} (h : Rp K Z H d v fp) (c : isLst d = true) : tyV K "list" v H := by
  cases d with
  | lst o ds => obtain ⟨a, vs, f, rfl, q, _⟩ := h.lst_get; exact .inl ⟨rfl, vs, .of q⟩
  | scr ns => obtain ⟨_, a, rfl, q⟩ := Rp_scr.mp h; exact .inl ⟨rfl, _, q.seq⟩
  | _ => cases c
theorem ty_str {K : PySem.W.Frag} {Z : AS} {H : Hp} {d : D} {v : V} {fp : List Addr} (h : Rp K Z H d v fp) (c : isStr d = true) : tyV K "str" v H := by
  cases d with
  | str x => obtain ⟨rfl, _⟩ := Rp_str.mp h; exact rfl
  | _ => cases c
theorem ve_mt1 {T name id : String} {r : V → List V → Hp → L2.VK → Prop} {chk : D → Bool} {g : D → D → Rs D} {o : Expr} {apos : Pos} {fo fa : DE → Res L} (pa : PlainAttrs T) (slot : Slot T name id) (hty : typeOf (.builtin id) = pure (.type "method_descriptor")) (hm : MtR X id r)
    (hc : ∀ {Z : AS} {H : Hp} {d : D} {v : V} {fp : List Addr}, Rp X.K Z H d v fp → chk d = true → tyV X.K T v H) (hg : OpS X.K (fun x y H Q => r x [y] H Q) g) (ho : VX X W o fo) (ha : VX X W e fa)
    (hbase : attributeBase o name X.env (eval o X.env) = eval o X.env := by rfl)
    (hfew : ((backTo pos (starEach [e] X.env)).all (fun x => !x.1) && (backToKw pos (keywordEach [] X.env)).all (fun x => x.1.isSome)
      && decide ([e].length + ([] : List Keyword).length + (if ([] : List Keyword).isEmpty then 0 else 1) < 30)) = true := by rfl)
    (hline : (apos.endLine == pos.line) = true := by rfl) (hs : starEach [e] X.env = (false, eval e X.env) :: starEach [] X.env := by rfl) (hpl : (backTo pos (starEach [] X.env)).any (·.1) = false := by rfl) : VE X W (.Call (.Attribute o name apos) [e] [] pos) (eMt1 chk g fo fa) := by
  obtain ⟨t, p, s⟩ := ho.ex
  obtain ⟨t2, p2, s2⟩ := ha.ex
  refine ⟨_, pe_bm pa slot hty hm p (pa_cons p2 pa_nil hs) hbase hfew hline hs hpl, fun Z σ H e tmp Q sr po => ?_⟩
  refine s Z σ H e tmp _ sr ?_
  unfold eMt1 at po
  cases h1 : fo e with
  | stuck => rw [h1] at po; exact po
  | exn x e1 => rw [h1] at po; exact po
  | ok la e1 =>
    rw [h1, Res.bind_ok] at po
    intro Z1 H1 v1 sr1 k1
    cases g0 : lget la e1 with
    | none => simp only [g0] at po; exact po.elim
    | some d0 =>
      simp only [g0] at po
      by_cases hch : chk d0 = true
      · rw [if_pos hch] at po
        obtain ⟨f0, r0⟩ := lread sr1 k1 g0
        refine ⟨hc r0 hch, ?_⟩
        refine s2 Z1 σ H1 e1 (lbag la v1 ++ tmp) _ sr1 ?_
        cases h2 : fa e1 with
        | stuck => rw [h2] at po; exact po
        | exn x e2 => rw [h2] at po; exact fun Z' H' c o q xr => po Z' H' c o q.drop xr
        | ok lb e2 =>
          rw [h2, Res.bind_ok] at po
          intro Z2 H2 v2 sr2 k2
          cases ga : lget la e2 with
          | none => simp only [ga] at po; exact po.elim
          | some da =>
            cases gb : lget lb e2 with
            | none => simp only [ga, gb] at po; exact po.elim
            | some db =>
              simp only [ga, gb] at po
              obtain ⟨f2, r2⟩ := lread sr2 k2 gb
              have sr3 : SR X.K Z2 H2 σ e2 (lbag la v1 ++ (lbag lb v2 ++ tmp)) := sr2.perm (List.perm_append_comm_assoc _ _ _)
              obtain ⟨f1, r1⟩ := lread sr3 k1 ga
              refine hg Z2 H2 ((lbag la v1 ++ lbag lb v2) ++ tmp ++ slots σ e2) Q (W σ) da v1 f1 db v2 f2 ?_ r1 r2 (PostV.to sr2.fit po)
              have q := sr3.bag
              rw [← List.append_assoc] at q
              exact q
      · rw [if_neg hch] at po; exact po.elim
theorem os_count {K : PySem.W.Frag} : OpS K (fun x y H Q => rCntI K x [y] H Q) dCount := by
  intro Z H B Q W d1 v1 f1 d2 v2 f2 b r1 r2 po
  unfold dCount at po
  split at po
  · rename_i o ds k
    obtain ⟨a, vs, f, rfl, q, l⟩ := r1.lst_get
    obtain ⟨rfl, _⟩ := Rp_int.mp r2
    split at po
    · rename_i ns h
      have e := l.allI h
      subst e
      exact ⟨a, ns, k, rfl, rfl, .of q, po.int b⟩
    · exact po.elim
  · exact po.elim
theorem ve_count {o : Expr} {apos : Pos} {fo fa : DE → Res L} (ho : VX X W o fo) (ha : VX X W e fa) (hbase : attributeBase o "count" X.env (eval o X.env) = eval o X.env := by rfl)
    (hfew : ((backTo pos (starEach [e] X.env)).all (fun x => !x.1) && (backToKw pos (keywordEach [] X.env)).all (fun x => x.1.isSome)
      && decide ([e].length + ([] : List Keyword).length + (if ([] : List Keyword).isEmpty then 0 else 1) < 30)) = true := by rfl)
    (hline : (apos.endLine == pos.line) = true := by rfl) (hs : starEach [e] X.env = (false, eval e X.env) :: starEach [] X.env := by rfl) (hpl : (backTo pos (starEach [] X.env)).any (·.1) = false := by rfl) : VE X W (.Call (.Attribute o "count" apos) [e] [] pos) (eMt1 isLst dCount fo fa) :=
  ve_mt1 PySem.F.plainAttrs_list PySem.F.slot_list_count PySem.F.type_list_count mt_lcount ty_lst os_count ho ha hbase hfew hline hs hpl

/-! ### enumerate(xs), zip(xs, ys): a new tuple a turn -/
theorem Yld.pair {K : PySem.W.Frag} {Z : AS} {H : Hp} {σ : Sg} {e : DE} {B tmp : Bag} {v w : V} {d d' : D} {T : Addr} (sr : SR K Z H σ e (B ++ tmp)) (r : Rp K Z H d v []) (r' : Rp K Z H d' w []) (hT : H T = none) : SR K Z (upd H T (.tup [v, w])) σ e ((.ref T, .tup [d, d']) :: (B ++ tmp)) := by
  refine .of sr.fit ?_
  have l : RpL K Z H [d, d'] [v, w] [] := RpL_cons.mpr ⟨_, _, [], [], rfl, rfl, r, RpL_cons.mpr ⟨_, _, [], [], rfl, rfl, r', RpL_nil.mpr ⟨rfl, rfl⟩⟩⟩
  exact Hold.mkT sr.bag l l.nf hT
def enumD : Nat → List D → List D
  | _, [] => []
  | k, d :: ds => .tup [.int (k : Nat), d] :: enumD (k + 1) ds
theorem enumD_at : ∀ {ds : List D} {k i : Nat}, (enumD k ds)[i]? = (ds[i]?).map fun d => .tup [.int ((k + i : Nat) : Nat), d]
  | [], k, i => by simp [enumD]
  | d :: ds, k, 0 => by simp [enumD]
  | d :: ds, k, i + 1 => by
    simp only [enumD, List.getElem?_cons_succ]
    rw [enumD_at]
    congr 2
    funext d
    rw [show k + 1 + i = k + (i + 1) by omega]
theorem enumD_length : ∀ {ds : List D} {k : Nat}, (enumD k ds).length = ds.length
  | [], k => rfl
  | d :: ds, k => by simp [enumD, enumD_length]
theorem its_enum {K : PySem.W.Frag} {a : Addr} {ds : List D} {S : Sg → DE → Prop} : Yld K [(.ref a, .lst false ds)] (Ite K a) (enumD 0 ds) S where
  go := fun Z H σ e tmp i d sr _ hi => by
    obtain ⟨fp, r⟩ := Hold.rep (L := tmp ++ slots σ e) sr.bag
    rcases Rp_lst.mp r with ⟨_, _, a', vs, ev, z, q, rl⟩ | ⟨h, _⟩
    · cases ev
      rw [enumD_at, Option.map_eq_some_iff] at hi
      obtain ⟨d', hi, rfl⟩ := hi
      obtain ⟨v, hv, rv⟩ := rl.ats hi
      refine ⟨⟨vs, v, .of q, hv⟩, fun x H' y => ?_⟩
      obtain ⟨T, w, rfl, hT, rfl, y⟩ := y
      have := y vs (.of q)
      rw [hv] at this; cases this
      rw [Nat.zero_add]
      exact ⟨Z, Yld.pair sr (Rp_int.mpr ⟨rfl, rfl⟩) rv hT⟩
    · cases h
  stop := fun Z H σ e tmp sr _ => by
    obtain ⟨fp, r⟩ := Hold.rep (L := tmp ++ slots σ e) sr.bag
    rcases Rp_lst.mp r with ⟨_, _, a', vs, ev, z, q, rl⟩ | ⟨h, _⟩
    · cases ev
      exact ⟨vs, .of q, by rw [rl.length, enumD_length]; exact Nat.le_refl _⟩
    · cases h
/-- the operands frozen, those in slots too -/
def frzS : L → DE → Option (D × DE)
  | .v d, e => some (d.frz, e)
  | .s i, e => match e.getD i none with
    | some d => if d.flag = true then some (d.frz, e.set i (some d.frz)) else some (d, e)
    | none => none
theorem frzS_ok {K : PySem.W.Frag} {Z : AS} {H : Hp} {σ : Sg} {e e' : DE} {tmp : Bag} {l : L} {v : V} {d : D} (h : SR K Z H σ e (lbag l v ++ tmp)) (k : lok σ l v) (f : frzS l e = some (d, e')) : ∃ Z', SR K Z' H σ e' ((v, d) :: tmp) ∧ d.flag = false := by
  cases l with
  | v d0 =>
    cases f
    obtain ⟨Z', q⟩ := SR.freeze h
    exact ⟨Z', q, frz_flag d0⟩
  | s i =>
    have h : SR K Z H σ e tmp := h
    unfold frzS at f
    cases g : e.getD i none with
    | none => simp only [g] at f; cases f
    | some d0 =>
      simp only [g] at f
      have gi := getD_some g
      have kv : σ[i]? = some (some v) := k
      by_cases hf : d0.flag = true
      · rw [if_pos hf] at f
        cases f
        obtain ⟨w, hs, h1⟩ := h.out gi
        rw [kv] at hs
        cases hs
        obtain ⟨Z', h2⟩ := h1.freeze
        have h3 : SR K Z' H σ (e.set i none) ((v, d0.frz) :: (v, d0.frz) :: tmp) := .of h2.fit (Hold.dup h2.bag (frz_flag d0))
        have h4 := h3.back (i := i) (by rw [List.getElem?_set_self (List.getElem?_eq_some_iff.mp gi).1]) kv
        rw [List.set_set] at h4
        exact ⟨Z', h4, frz_flag d0⟩
      · rw [if_neg hf] at f
        cases f
        obtain ⟨w, fp, hs, r⟩ := h.rd gi
        rw [kv] at hs
        cases hs
        have e0 := r.noflag (by simpa using hf)
        subst e0
        exact ⟨Z, h.add r, by simpa using hf⟩
def iEnumerate (fa : DE → Res (List L)) : DE → Res Wk := fun e => (fa e).bind fun ls e1 => match ls with
  | [l] => (match frzS l e1 with
    | some (.lst _ ds, e2) => .ok ⟨enumD 0 ds, none⟩ e2
    | _ => .stuck)
  | _ => .stuck
theorem vi_enumerate {p tpos : Pos} {elts : List Expr} {kk : Nat} {fa : DE → Res (List L)} (hg : Gl X "enumerate") (hm : X.mg "enumerate" = none) (ha : VA X W [a] fa) (hs : starEach [a] X.env = [(false, eval a X.env)] := by rfl) :
    VI X W (.Tuple elts kk tpos) (.Call (.Name "enumerate" p) [a] [] pos) (iEnumerate fa) := by
  obtain ⟨t, pt, s⟩ := ha.ex
  refine ⟨_, pi_enum hg hm pt hs, fun Z σ H e tmp R sr po => s Z σ H e tmp _ sr ?_⟩
  unfold iEnumerate at po
  cases h1 : fa e with
  | stuck => rw [h1] at po; exact po
  | exn x e1 => rw [h1] at po; exact po
  | ok ls e1 =>
    rw [h1, Res.bind_ok] at po
    intro Z1 H1 vs q k
    split at po
    · rename_i l
      match vs, k with
      | [v], k =>
        split at po
        · rename_i o ds e2 hf
          have q' : SR X.K Z1 H1 σ e1 (lbag l v ++ tmp) := by simpa [lbags] using q
          obtain ⟨Z2, q2, fl⟩ := frzS_ok q' k.1 hf
          have fl : o = false := fl
          subst fl
          obtain ⟨fp, r⟩ := q2.bag.rep
          obtain ⟨a', ws, f, rfl, hq, rl⟩ := r.lst_get
          exact ⟨a', ws, rfl, .of hq, po Z2 H1 _ [(.ref a', .lst false ds)] q2 its_enum⟩
        · exact po.elim
    · exact po.elim
def zipD : List D → List D → List D
  | a :: as, b :: bs => .tup [a, b] :: zipD as bs
  | _, _ => []
theorem zipD_at : ∀ {as bs : List D} {i : Nat} {d : D}, (zipD as bs)[i]? = some d → ∃ a b, as[i]? = some a ∧ bs[i]? = some b ∧ d = .tup [a, b]
  | [], bs, i, d, h => by simp [zipD] at h
  | _ :: _, [], i, d, h => by simp [zipD] at h
  | a :: as, b :: bs, 0, d, h => by simp [zipD] at h; first | exact ⟨a, b, rfl, rfl, h.symm⟩ | (subst h; exact ⟨a, b, rfl, rfl, rfl⟩)
  | a :: as, b :: bs, i + 1, d, h => by
    simp only [zipD, List.getElem?_cons_succ] at h
    simpa using zipD_at h
theorem zipD_length : ∀ {as bs : List D}, (zipD as bs).length = min as.length bs.length
  | [], bs => by simp [zipD]
  | _ :: _, [] => by simp [zipD]
  | a :: as, b :: bs => by
    simp only [zipD, List.length_cons, zipD_length]
    omega
theorem its_zipL {K : PySem.W.Frag} {a b : Addr} {as bs : List D} {S : Sg → DE → Prop} : Yld K [(.ref a, .lst false as), (.ref b, .lst false bs)] (Itz K a b) (zipD as bs) S where
  go := fun Z H σ e tmp i d sr _ hi => by
    obtain ⟨fp, r⟩ := Hold.rep (L := _) sr.bag
    obtain ⟨fp2, r2⟩ := Hold.rep (L := _) (Hold.tail sr.bag)
    rcases Rp_lst.mp r with ⟨_, _, a', vs, ev, z, q, rl⟩ | ⟨h, _⟩
    · rcases Rp_lst.mp r2 with ⟨_, _, b', ws, ev2, z2, q2, rl2⟩ | ⟨h, _⟩
      · cases ev
        cases ev2
        obtain ⟨da, db, ha, hb, rfl⟩ := zipD_at hi
        obtain ⟨v, hv, rv⟩ := rl.ats ha
        obtain ⟨w, hw, rw'⟩ := rl2.ats hb
        refine ⟨⟨vs, ws, v, w, .of q, .of q2, hv, hw⟩, fun x H' y => ?_⟩
        obtain ⟨T, x1, y1, rfl, hT, rfl, y2, y3⟩ := y
        have e1 := y2 vs (.of q)
        rw [hv] at e1; cases e1
        have e2 := y3 ws (.of q2)
        rw [hw] at e2; cases e2
        exact ⟨Z, Yld.pair (B := [(V.ref a, D.lst false as), (V.ref b, D.lst false bs)]) sr rv rw' hT⟩
      · cases h
    · cases h
  stop := fun Z H σ e tmp sr _ => by
    obtain ⟨fp, r⟩ := Hold.rep (L := _) sr.bag
    obtain ⟨fp2, r2⟩ := Hold.rep (L := _) (Hold.tail sr.bag)
    rcases Rp_lst.mp r with ⟨_, _, a', vs, ev, z, q, rl⟩ | ⟨h, _⟩
    · rcases Rp_lst.mp r2 with ⟨_, _, b', ws, ev2, z2, q2, rl2⟩ | ⟨h, _⟩
      · cases ev
        cases ev2
        refine ⟨vs, ws, .of q, .of q2, ?_⟩
        rw [zipD_length, rl.length, rl2.length]
        omega
      · cases h
    · cases h
theorem its_zipT {K : PySem.W.Frag} {a b : Addr} {as bs : List D} {S : Sg → DE → Prop} : Yld K [(.ref a, .tup as), (.ref b, .tup bs)] (RZ.ItzT K a b) (zipD as bs) S where
  go := fun Z H σ e tmp i d sr _ hi => by
    obtain ⟨fp, r⟩ := Hold.rep (L := _) sr.bag
    obtain ⟨fp2, r2⟩ := Hold.rep (L := _) (Hold.tail sr.bag)
    obtain ⟨_, a', vs, ev, q, rl⟩ := Rp_tup.mp r
    obtain ⟨_, b', ws, ev2, q2, rl2⟩ := Rp_tup.mp r2
    cases ev
    cases ev2
    obtain ⟨da, db, ha, hb, rfl⟩ := zipD_at hi
    obtain ⟨v, hv, rv⟩ := rl.ats ha
    obtain ⟨w, hw, rw'⟩ := rl2.ats hb
    refine ⟨⟨vs, ws, v, w, q.seq, q2.seq, hv, hw⟩, fun x H' y => ?_⟩
    obtain ⟨T, x1, y1, rfl, hT, rfl, y2, y3⟩ := y
    have e1 := y2 vs q.seq
    rw [hv] at e1; cases e1
    have e2 := y3 ws q2.seq
    rw [hw] at e2; cases e2
    exact ⟨Z, Yld.pair (B := [(V.ref a, D.tup as), (V.ref b, D.tup bs)]) sr rv rw' hT⟩
  stop := fun Z H σ e tmp sr _ => by
    obtain ⟨fp, r⟩ := Hold.rep (L := _) sr.bag
    obtain ⟨fp2, r2⟩ := Hold.rep (L := _) (Hold.tail sr.bag)
    obtain ⟨_, a', vs, ev, q, rl⟩ := Rp_tup.mp r
    obtain ⟨_, b', ws, ev2, q2, rl2⟩ := Rp_tup.mp r2
    cases ev
    cases ev2
    refine ⟨vs, ws, q.seq, q2.seq, ?_⟩
    rw [zipD_length, rl.length, rl2.length]
    omega
def iZip2 (fa : DE → Res (List L)) : DE → Res Wk := fun e => (fa e).bind fun ls e1 => match ls with
  | [l, l2] => (match frzS l2 e1 with
    | some (d2, e2) => (match frzS l e2 with
      | some (d, e3) => (match d, d2 with
        | .lst _ as, .lst _ bs => .ok ⟨zipD as bs, none⟩ e3
        | .tup as, .tup bs => .ok ⟨zipD as bs, none⟩ e3
        | _, _ => .stuck)
      | none => .stuck)
    | none => .stuck)
  | _ => .stuck
theorem vi_zip {p tpos : Pos} {elts : List Expr} {kk : Nat} {fa : DE → Res (List L)} (hg : Gl X "zip") (hm : X.mg "zip" = none) (ha : VA X W [a, b] fa) (hs : starEach [a, b] X.env = (false, eval a X.env) :: starEach [b] X.env := by rfl) (hpl : (backTo pos (starEach [b] X.env)).any (·.1) = false := by rfl) :
    VI X W (.Tuple elts kk tpos) (.Call (.Name "zip" p) [a, b] [] pos) (iZip2 fa) := by
  obtain ⟨t, pt, s⟩ := ha.ex
  refine ⟨_, RZ.pi_zipA hg hm pt hs hpl, fun Z σ H e tmp R sr po => s Z σ H e tmp _ sr ?_⟩
  unfold iZip2 at po
  cases h1 : fa e with
  | stuck => rw [h1] at po; exact po
  | exn x e1 => rw [h1] at po; exact po
  | ok ls e1 =>
    rw [h1, Res.bind_ok] at po
    intro Z1 H1 vs q k
    split at po
    · rename_i l l2
      match vs, k with
      | [v, w], k =>
        split at po
        · rename_i d2 e2 hf2
          split at po
          · rename_i d e3 hf
            have q' : SR X.K Z1 H1 σ e1 (lbag l2 w ++ (lbag l v ++ tmp)) := q.perm (by
              show (lbag l v ++ (lbag l2 w ++ []) ++ tmp).Perm _
              rw [List.append_nil, List.append_assoc]
              exact List.perm_append_comm_assoc _ _ _)
            obtain ⟨Z2, q2, fl2⟩ := frzS_ok q' k.2.1 hf2
            have q3 : SR X.K Z2 H1 σ e2 (lbag l v ++ (w, d2) :: tmp) := q2.perm (List.perm_middle (a := (w, d2))).symm
            obtain ⟨Z3, q4, fl⟩ := frzS_ok q3 k.1 hf
            obtain ⟨fp, r⟩ := q4.bag.rep
            obtain ⟨fp2, r2⟩ := q4.tail.bag.rep
            split at po
            · rename_i o as o2 bs
              have fl : o = false := fl
              have fl2 : o2 = false := fl2
              subst fl
              subst fl2
              obtain ⟨a1, vs1, g1, rfl, hq1, _⟩ := r.lst_get
              obtain ⟨a2, vs2, g2, rfl, hq2, _⟩ := r2.lst_get
              exact ⟨a1, a2, vs1, vs2, rfl, .inl ⟨.of hq1, .of hq2, po Z3 H1 _ [(.ref a1, .lst false as), (.ref a2, .lst false bs)] q4 its_zipL⟩⟩
            · rename_i as bs
              obtain ⟨_, a1, vs1, rfl, hq1, _⟩ := Rp_tup.mp r
              obtain ⟨_, a2, vs2, rfl, hq2, _⟩ := Rp_tup.mp r2
              exact ⟨a1, a2, vs1, vs2, rfl, .inr ⟨hq1.seq, hq2.seq, po Z3 H1 _ [(.ref a1, .tup as), (.ref a2, .tup bs)] q4 its_zipT⟩⟩
            · exact po.elim
          · exact po.elim
        · exact po.elim
    · exact po.elim
end
end Tr

set_option maxHeartbeats 2000000
/-! The tree layer 12: a law's end. -/
namespace Tr
open PySem PySem.Spec PyProof.Rows L2
/-- nothing is let out of the law -/
theorem cx_none {P : Program} {w : World} {H : Hp} {s : Shared} {e : Value} {s' : Shared} (h : L2.CX P w [] H s (fun _ _ _ => False) e s') : False := by
  obtain ⟨_, _, _, _, _, _, _, _, _, _, _, _, z⟩ := h
  exact z.elim
/-- the law's promise, met by what its trees say -/
theorem sp_trees {K : PySem.W.Frag} {G : List D → FR} (main : ∀ ns : List Int, ns.length ≤ 63 → ∃ ds', G [.scr ns] = .ok (.bl true) ds') {H : Hp} {a : Addr} {ns : List Int} (hl : ns.length ≤ 63) (hO : Only H) (hS : SqL K H a (ns.map V.int)) :
    spG K 1 G [.ref a] H (fun v _ => v = .bl true) fun _ _ _ => False := by
  have h : LkL K H a (ns.map V.int) := by
    rcases hS with (h | ⟨o, h⟩) | h
    · rcases hO a with q | ⟨o, xs, q⟩
      · rw [q] at h; cases h
      · rw [q] at h; cases h
    · exact .inl ⟨o, h⟩
    · exact .inr h
  obtain ⟨ds', e⟩ := main ns hl
  refine ⟨fun _ => False, [.scr ns], [], rfl, rfl, ⟨⟨[], ?_, by simp, by simp⟩, by simp, fun _ z => z.elim⟩, ?_⟩
  · exact RpL_cons.mpr ⟨_, _, [], [], rfl, rfl, Rp_scr.mpr ⟨rfl, a, rfl, h⟩, RpL_nil.mpr ⟨rfl, rfl⟩⟩
  · rw [e]
    intro Z' H' v h
    obtain ⟨fp, q⟩ := h.rep
    exact (Rp_bl.mp q).1
theorem walk_trees {l : PySem.W.OpenLaw} {k : Nat} {q : Program} {loose : List Str} {XP : (Str → Option Value) → Heap → Prop} {YP : World → Heap → Prop} {d : DefRec} {G : List D → FR}
    (hn : l.most = some 63) (hdf : d.params.defaults = []) (hr : Room k callerA)
    (F : ∀ (w : World) (mg : Str → Option Value) (f : Addr) (h : Heap), YP w h → h.Ns mainGlobals mg → mg d.name = some (.ref f) → ∃ (K : PySem.W.Frag) (fd : FuncData), K.In h ∧
      (∀ (s : Shared) (v : Value), BindsTo s fd ⟨[v], []⟩ [("script", v)]) ∧ ∀ base : Heap, K.In base → base.Ns mainGlobals mg → FnOk l.prog w K mg base (L2.CX l.prog w) k f fd ["script"] (spG K 1 G))
    (main : ∀ ns : List Int, ns.length ≤ 63 → ∃ ds', G [.scr ns] = .ok (.bl true) ds') : PySem.W.WalkO q loose XP YP l.row.toRowW d [] (fun f vs => PySem.call f vs) := by
  refine Att.attach_call hn hdf ?_
  intro w s₀ s₁ mg mb f o pm cd doc a vs ns R Y ho hd hcd hmg hobj hi hlen hg
  obtain ⟨K, fd, KX, hb, hF⟩ := F w mg f _ Y R.T.g hmg
  refine law_call KX R.T.g R.T.b R.T.builtins R.T.nolimit hg hobj hi ?_ hr hF hb ?_ ?_
  · exact Nat.le_trans hlen (by decide)
  · exact fun H hO hS => sp_trees main hlen hO hS
  · exact fun H e s' z => cx_none z
end Tr

set_option maxHeartbeats 2000000
/-! The tree layer's evaluation: how the meaning functions are computed. -/
namespace Tr
open PySem PySem.Spec PyProof.Rows L2
def gd (e : DE) (i : Nat) : Option D := e.getD i none
@[simp] theorem gd_0 {x : Option D} {e : DE} : gd (x :: e) 0 = x := (rfl)
@[simp] theorem gd_s {x : Option D} {e : DE} {i : Nat} : gd (x :: e) (i + 1) = gd e i := (rfl)
section
variable {e : DE} {g : D → D → Rs D} {fa fb fc : DE → Res L} {f h : DE → Res D} {ft : DE → Res Bool} {i : Nat} {d : D}
@[simp] theorem ap_op2 : eOp2 g fa fb e = ((fa e).bind fun la e1 => (fb e1).bind fun lb e2 => match lget la e2, lget lb e2 with
  | some da, some db => (g da db).at e2
  | _, _ => .stuck) := (rfl)
@[simp] theorem ap_of : xOf f e = (f e).bind fun d e1 => .ok (.v d) e1 := (rfl)
@[simp] theorem ap_slot : xSlot i e = match gd e i with
  | some _ => .ok (.s i) e
  | none => .stuck := (rfl)
@[simp] theorem ap_c : eC d e = .ok d e := (rfl)
@[simp] theorem ap_use : eUse i e = match gd e i with
  | some d => if d.flag = true then .ok d.frz (e.set i (some d.frz)) else .ok d e
  | none => .stuck := (rfl)
@[simp] theorem ap_move : eMove i e = match gd e i with
  | some d => .ok d (e.set i none)
  | none => .stuck := (rfl)
@[simp] theorem ap_tOf : tOfE f e = (f e).bind fun d e1 => match d with
  | .bl b => .ok b e1
  | _ => .stuck := (rfl)
@[simp] theorem ap_tNot : tNotF ft e = (ft e).bind fun b e1 => .ok (!b) e1 := (rfl)
@[simp] theorem ap_tAnd {fu} : tAndF ft fu e = (ft e).bind fun b e1 => if b = true then fu e1 else .ok false e1 := (rfl)
@[simp] theorem ap_tOr {fu} : tOrF ft fu e = (ft e).bind fun b e1 => if b = true then .ok true e1 else fu e1 := (rfl)
@[simp] theorem ap_tYes : tYesF e = .ok true e := (rfl)
@[simp] theorem ap_if : eIf ft f h e = (ft e).bind fun b e1 => if b = true then f e1 else h e1 := (rfl)
@[simp] theorem ap_and : eAnd f h e = (f e).bind fun d e1 => match d with
  | .bl b => if b = true then h e1 else .ok (.bl false) e1
  | _ => .stuck := (rfl)
@[simp] theorem ap_or : eOr f h e = (f e).bind fun d e1 => match d with
  | .bl b => if b = true then .ok (.bl true) e1 else h e1
  | _ => .stuck := (rfl)
@[simp] theorem ap_chain {g'} : eChain g g' fa fb fc e = (fa e).bind fun la e1 => (fb e1).bind fun lb e2 => match lget la e2, lget lb e2 with
  | some da, some db => ((g da db).at e2).bind fun d e3 => match d with
    | .bl true => (fc e3).bind fun lc e4 => match lget lb e4, lget lc e4 with
      | some db, some dc => (g' db dc).at e4
      | _, _ => .stuck
    | .bl false => .ok (.bl false) e3
    | _ => .stuck
  | _, _ => .stuck := (rfl)
@[simp] theorem ap_un {g : D → Rs D} : eUn g fa e = (fa e).bind fun la e1 => match lget la e1 with
  | some da => (g da).at e1
  | none => .stuck := (rfl)
@[simp] theorem ap_nil : aNil e = .ok [] e := (rfl)
@[simp] theorem ap_cons {ga} : aCons fa ga e = (fa e).bind fun l e1 => (ga e1).bind fun ls e2 => .ok (l :: ls) e2 := (rfl)
@[simp] theorem ap_tup {ga} : eTup ga e = (ga e).bind fun ls e1 => match vals ls with
  | some ds => if ds.length ≤ sizeLine then .ok (.tup (frzL ds)) e1 else .stuck
  | none => .stuck := (rfl)
@[simp] theorem ap_lst {ga} : eLst ga e = (ga e).bind fun ls e1 => match vals ls with
  | some ds => if ds.length ≤ sizeLine then .ok (.lst true ds) e1 else .stuck
  | none => .stuck := (rfl)
@[simp] theorem ap_blt {gl} {ga} : eBlt gl ga e = (ga e).bind fun ls e1 => match lgets ls e1 with
  | some ds => (gl ds).at e1
  | none => .stuck := (rfl)
@[simp] theorem ap_call {G : List D → FR} {dds} {ga} : eCall G dds ga e = (ga e).bind fun ls e1 => match take ls e1 with
  | some (ds, e2) => match G (ds ++ dds) with
    | .ok d ds' => .ok d (give ls ds ds' e2)
    | .exn x ds' => .exn x (give ls ds ds' e2)
    | .stuck => .stuck
  | none => .stuck := (rfl)
@[simp] theorem ap_callK {G : List D → FR} {sp dds} {ga gk} : eCallK G sp dds ga gk e = (ga e).bind fun ls e1 => (gk e1).bind fun lk e2 => match vals lk with
  | some zs => if zs.all (fun d => !d.flag) = true then (match take ls e2 with
    | some (ds, e3) => match G (ds ++ arr .non dds sp zs) with
      | .ok d ds' => .ok d (give ls ds ds' e3)
      | .exn x ds' => .exn x (give ls ds ds' e3)
      | .stuck => .stuck
    | none => .stuck) else .stuck
  | none => .stuck := (rfl)
@[simp] theorem ap_sNil : sNil e = .nx e := (rfl)
@[simp] theorem ap_sCons {a b : DE → SRes} : sCons a b e = (a e).seq b := (rfl)
@[simp] theorem ap_sExpr : sExpr f e = (f e).toS fun _ e1 => .nx e1 := (rfl)
@[simp] theorem ap_sRet : sRet f e = (f e).toS fun d e1 => .rt d e1 := (rfl)
@[simp] theorem ap_sIf {a b : DE → SRes} : sIf ft a b e = (ft e).toS fun b' e1 => if b' = true then a e1 else b e1 := (rfl)
@[simp] theorem ap_sSet : sSet i f e = (f e).toS fun d e1 => if i < e1.length then .nx (e1.set i (some d)) else .stuck := (rfl)
@[simp] theorem ap_sAsg {gt} : sAsg f gt e = (f e).toS fun d e1 => match gt d e1 with
  | some e2 => .nx e2
  | none => .stuck := (rfl)
@[simp] theorem ap_sPar {ga : DE → Res (List L)} {gs : List D → DE → Option DE} : sPar ga gs e = ((ga e).toS fun ls e1 => match vals ls with
  | some ds => if ds.length ≤ sizeLine then (match gs ds e1 with
    | some e2 => .nx e2
    | none => .stuck) else .stuck
  | none => .stuck) := (rfl)
@[simp] theorem ap_sPar2 {i j} {ga} : sPar2 i j ga e = (ga e).toS fun ls e1 => match vals ls with
  | some [d1, d2] => if i < e1.length ∧ j < e1.length then .nx ((e1.set i (some d1)).set j (some d2)) else .stuck
  | _ => .stuck := (rfl)
@[simp] theorem ap_sFor {fi g} {b : DE → SRes} : sFor fi g b e = (fi e).toS fun k e1 => match k.at_ with
  | none => forL g b k.ds e1
  | some _ => .stuck := (rfl)
@[simp] theorem ap_rng1 {ga} : iRng1f ga e = (ga e).bind fun ls e1 => match lgets ls e1 with
  | some [.int j] => if small62 j = true then .ok ⟨rng 0 j, none⟩ e1 else .stuck
  | _ => .stuck := (rfl)
@[simp] theorem ap_rng2 {ga} : iRng2f ga e = (ga e).bind fun ls e1 => match lgets ls e1 with
  | some [.int i, .int j] => if (small62 i && small62 j) = true then .ok ⟨rng i j, none⟩ e1 else .stuck
  | _ => .stuck := (rfl)
@[simp] theorem ap_rng3 {ga} : iRng3f ga e = (ga e).bind fun ls e1 => match lgets ls e1 with
  | some [.int i, .int j, .int c] => if rgOk i j c = true then .ok ⟨rngC i j c, none⟩ e1 else .stuck
  | _ => .stuck := (rfl)
@[simp] theorem ap_iVal : iVal f e = (f e).bind fun d e1 => match d.items with
  | some ds => .ok ⟨ds, none⟩ e1
  | none => .stuck := (rfl)
@[simp] theorem ap_iSlot : iSlot i e = match gd e i with
  | some (.lst true ds) => if ds.all (fun d => !d.flag) = true then .ok ⟨ds, some (i, .lst true ds)⟩ e else .stuck
  | some d => match d.items with
    | some ds => .ok ⟨ds, none⟩ e
    | none => .stuck
  | none => .stuck := (rfl)
@[simp] theorem ap_gN : gN i d e = if i < e.length then some (e.set i (some d)) else none := (rfl)
@[simp] theorem ap_gIx {fi} : gIx i fi d e = match gd e i with
  | none => none
  | some _ => (match fi e with
    | .ok l e1 => (match lget l e1 with
      | some (.int k) => (match gd e1 i with
        | some (.lst true ds) => (match ixN ds.length k with
          | some j => some (e1.set i (some (.lst true (ds.set j d))))
          | none => none)
        | _ => none)
      | _ => none)
    | _ => none) := (rfl)
@[simp] theorem ap_app : eApp i f e = match gd e i with
  | some (.lst true _) => (f e).bind fun d e1 => match gd e1 i with
    | some (.lst true ds) => if ds.length < sizeLine then .ok .non (e1.set i (some (.lst true (ds ++ [d])))) else .stuck
    | _ => .stuck
  | _ => .stuck := (rfl)
@[simp] theorem ap_mt1 {chk} : eMt1 chk g fa fb e = (fa e).bind fun la e1 => match lget la e1 with
  | some d0 => if chk d0 = true then (fb e1).bind fun lb e2 => match lget la e2, lget lb e2 with
    | some da, some db => (g da db).at e2
    | _, _ => .stuck else .stuck
  | none => .stuck := (rfl)
@[simp] theorem ap_sl {gs fl fh} : eSl gs fa fl fh e = (fa e).bind fun la e1 => (fl e1).bind fun lo e2 => (fh e2).bind fun hi e3 => match lget la e3 with
  | some d => (gs d lo hi).at e3
  | none => .stuck := (rfl)
@[simp] theorem ap_oNo : oNo e = .ok none e := (rfl)
@[simp] theorem ap_oAt : oAt fa e = (fa e).bind fun l e1 => match lget l e1 with
  | some (.int i) => .ok (some i) e1
  | _ => .stuck := (rfl)
@[simp] theorem ap_fnG {fx n m fb} {ds : List D} : fnG fx n m fb ds = match fb (ds.map some ++ List.replicate (m - n) none) with
  | .nx e => fin fx ds e (.ok .non)
  | .rt d e => fin fx ds e (.ok d)
  | .exn x e => fin fx ds e (.exn x)
  | _ => .stuck := by rw [fnG_eq]; rfl
end
@[simp] theorem seq_nx (e : DE) (k : DE → SRes) : (SRes.nx e).seq k = k e := (rfl)
@[simp] theorem seq_rt (d : D) (e : DE) (k : DE → SRes) : (SRes.rt d e).seq k = .rt d e := (rfl)
@[simp] theorem seq_stuck (k : DE → SRes) : SRes.stuck.seq k = .stuck := (rfl)
@[simp] theorem fl_non : D.non.flag = false := (rfl)
@[simp] theorem fl_int {i} : (D.int i).flag = false := (rfl)
@[simp] theorem fl_bl {i} : (D.bl i).flag = false := (rfl)
@[simp] theorem fl_str {i} : (D.str i).flag = false := (rfl)
@[simp] theorem fl_ty {i} : (D.ty i).flag = false := (rfl)
@[simp] theorem fl_tup {i} : (D.tup i).flag = false := (rfl)
@[simp] theorem fl_scr {i} : (D.scr i).flag = false := (rfl)
@[simp] theorem fl_lst {o i} : (D.lst o i).flag = o := (rfl)
@[simp] theorem fz_non : D.non.frz = .non := by simp [D.frz]
@[simp] theorem fz_int {i} : (D.int i).frz = .int i := by simp [D.frz]
@[simp] theorem fz_bl {i} : (D.bl i).frz = .bl i := by simp [D.frz]
@[simp] theorem fz_tup {i} : (D.tup i).frz = .tup i := by simp [D.frz]
@[simp] theorem fz_lst {i} : (D.lst true i).frz = .lst false (frzL i) := by simp [D.frz]
@[simp] theorem fz_lstf {i} : (D.lst false i).frz = .lst false i := by simp [D.frz]
theorem frzL_map {α : Type} {F : α → D} (h : ∀ a, (F a).frz = F a) : ∀ xs : List α, frzL (xs.map F) = xs.map F
  | [] => by simp [frzL]
  | x :: xs => by simp [frzL, h, frzL_map h xs]
@[simp] theorem frzL_ints (xs : List Int) : frzL (xs.map D.int) = xs.map D.int := frzL_map (fun _ => by simp) xs
@[simp] theorem lg_v {d e} : lget (.v d) e = some d := (rfl)
@[simp] theorem lg_s {i e} : lget (.s i) e = gd e i := (rfl)
@[simp] theorem vals_ints_v {d ls} : vals (.v d :: ls) = (vals ls).map (d :: ·) := (rfl)
@[simp] theorem vals_n : vals [] = some [] := (rfl)
@[simp] theorem lgets_n {e} : lgets [] e = some [] := (rfl)
@[simp] theorem lgets_c {l ls e} : lgets (l :: ls) e = match lget l e with
    | some d => (lgets ls e).map (d :: ·)
    | none => none := (rfl)
@[simp] theorem d1_1 {g : D → Rs D} {d} : d1 g [d] = g d := (rfl)
@[simp] theorem d2_2 {g : D → D → Rs D} {d d'} : d2 g [d, d'] = g d d' := (rfl)
@[simp] theorem add_int {i j} : dAdd (.int i) (.int j) = .ok (.int (i + j)) := (rfl)
@[simp] theorem sub_int {i j} : dSub (.int i) (.int j) = .ok (.int (i - j)) := (rfl)
@[simp] theorem mul_int {i j} : dMul (.int i) (.int j) = if mulOk i j = true then .ok (.int (i * j)) else .stuck := (rfl)
@[simp] theorem mod_int {i j} : dMod (.int i) (.int j) = if 0 < j then .ok (.int (i % j)) else .stuck := by simp [dMod, dI]
@[simp] theorem fdiv_int {i j} : dFdiv (.int i) (.int j) = if 0 < j ∧ j.natAbs.log2 < 9000 then .ok (.int (i / j)) else .stuck := by simp [dFdiv, dI]
@[simp] theorem pow_int' {i j} : dPow (.int i) (.int j) = if powOk i j = true then .ok (.int (i ^ j.toNat)) else .stuck := (rfl)
@[simp] theorem neg_int {i} : dNeg (.int i) = .ok (.int (-i)) := (rfl)
@[simp] theorem lt_int {i j} : dLt (.int i) (.int j) = .ok (.bl (decide (i < j))) := (rfl)
@[simp] theorem le_int {i j} : dLe (.int i) (.int j) = .ok (.bl (decide (i ≤ j))) := (rfl)
@[simp] theorem gt_int {i j} : dGt (.int i) (.int j) = .ok (.bl (decide (j < i))) := (rfl)
@[simp] theorem ge_int {i j} : dGe (.int i) (.int j) = .ok (.bl (decide (j ≤ i))) := (rfl)
@[simp] theorem isn_non {a b} : dIsN b a .non = .ok (.bl (if b then !a.isNon else a.isNon)) := by cases b <;> rfl
@[simp] theorem isNon_non : D.non.isNon = true := (rfl)
@[simp] theorem isNon_int {i} : (D.int i).isNon = false := (rfl)
@[simp] theorem len_tup {ds} : dLen (.tup ds) = .ok (.int ds.length) := (rfl)
@[simp] theorem len_lst {o ds} : dLen (.lst o ds) = .ok (.int ds.length) := (rfl)
@[simp] theorem len_scr {ds} : dLen (.scr ds) = .ok (.int ds.length) := (rfl)
@[simp] theorem abs_int {i} : dAbs (.int i) = .ok (.int (i.natAbs : Nat)) := (rfl)
@[simp] theorem int_int {i} : dInt (.int i) = .ok (.int i) := (rfl)
@[simp] theorem int_bl {b} : dInt (.bl b) = .ok (.int (if b then 1 else 0)) := (rfl)
@[simp] theorem tup_tup {ds} : dTuple (.tup ds) = .ok (.tup ds) := (rfl)
@[simp] theorem max_int {i j} : dMax [.int i, .int j] = .ok (.int (max i j)) := (rfl)
@[simp] theorem min_int {i j} : dMin [.int i, .int j] = .ok (.int (min i j)) := (rfl)
@[simp] theorem isi_int_int {i} : dIsi (.int i) (.ty "int") = .ok (.bl true) := (rfl)
@[simp] theorem isi_int_bool {i} : dIsi (.int i) (.ty "bool") = .ok (.bl false) := (rfl)
@[simp] theorem isi_tup {i} : dIsi (.tup i) (.ty "tuple") = .ok (.bl true) := (rfl)
@[simp] theorem tk_n {e} : take [] e = some ([], e) := (rfl)
@[simp] theorem tk_v {d ls e} : take (.v d :: ls) e = (take ls e).map fun p => (d :: p.1, p.2) := (rfl)
@[simp] theorem tk_s {i ls e} : take (.s i :: ls) e = match gd e i with
    | some d => if d.flag = true then (take ls (e.set i none)).map fun p => (d :: p.1, p.2) else (take ls e).map fun p => (d :: p.1, p.2)
    | none => none := (rfl)
@[simp] theorem gv_n {ds ds' e} : give [] ds ds' e = e := by simp [give]
@[simp] theorem gv_v {x ls d ds d' ds' e} : give (.v x :: ls) (d :: ds) (d' :: ds') e = give ls ds ds' e := (rfl)
@[simp] theorem gv_s {i ls d ds d' ds' e} : give (.s i :: ls) (d :: ds) (d' :: ds') e = if d.flag = true then (give ls ds ds' e).set i (some d') else give ls ds ds' e := (rfl)
@[simp] theorem wp_n {e} : wipeE e [] = e := (rfl)
@[simp] theorem wp_c {e v vs} : wipeE e (v :: vs) = (wipeE e vs).set v none := (rfl)
@[simp] theorem rs_n {e e2} : restE e [] e2 = e2 := (rfl)
@[simp] theorem rs_c {e v vs e2} : restE e (v :: vs) e2 = restE e vs (match gd (wipeE e vs) v with
    | some d => e2.set v (some d)
    | none => e2) := (rfl)
@[simp] theorem Wk_C0 {ds e} : (Wk.mk ds none).C e = True := (rfl)
@[simp] theorem Wk_C1 {ds e i d} : (Wk.mk ds (some (i, d))).C e = (gd e i = some d) := (rfl)

theorem dInts_map : ∀ ns : List Int, dInts? (ns.map .int) = some ns
  | [] => rfl
  | n :: ns => by simp [dInts?, dInts_map ns]
theorem dBls_map : ∀ ns : List Bool, dBls? (ns.map .bl) = some ns
  | [] => rfl
  | n :: ns => by simp [dBls?, dBls_map ns]
@[simp] theorem sum_ints {o} {ns : List Int} : dSum (.lst o (ns.map .int)) = .ok (.int ns.sum) := by simp [dSum, dInts_map]
@[simp] theorem all_bls {o} {ns : List Bool} : dAll (.lst o (ns.map .bl)) = .ok (.bl (ns.all id)) := by simp [dAll, dBls_map]
theorem noflag_map {α : Type} {F : α → D} (h : ∀ a, (F a).flag = false) (xs : List α) : (xs.map F).all (fun d => !d.flag) = true := by
  simp [h]
@[simp] theorem tuple_ints {o} {ns : List Int} : dTuple (.lst o (ns.map .int)) = .ok (.tup (ns.map .int)) := by
  show (if _ then _ else _) = _; rw [if_pos (noflag_map (fun _ => rfl) ns)]

@[simp] theorem ap_fin {fx ds e} {k : List D → FR} : fin fx ds e k = match back fx 0 ds e with
  | some ds' => k ds'
  | none => .stuck := (rfl)
@[simp] theorem bk_n {fx i e} : back fx i [] e = some [] := by simp [back]
@[simp] theorem bk_c {fx i d ds o e} : back fx i (d :: ds) (o :: e) = (if fx.contains i = true then o else if d.flag = true then none else some d).bind fun d' => (back fx (i + 1) ds e).map (d' :: ·) := (rfl)
/-! ### comprehensions -/
def lcStep (vs : List Nat) (g : D → DE → Option DE) (ft : DE → Res Bool) (fe : DE → Res D) (d : D) (e : DE) : Option (Option D × DE) := match g d e with
  | some e1 => (match ft e1 with
    | .ok true e2 => (match fe e2 with
      | .ok y e3 => some (some y, wipeE e3 vs)
      | _ => none)
    | .ok false e2 => some (none, wipeE e2 vs)
    | _ => none)
  | none => none
theorem lcL_step {C : DE → Prop} {vs : List Nat} {g : D → DE → Option DE} {ft : DE → Res Bool} {fe : DE → Res D} {d : D} {ds : List D} {e e' : DE} {o : Option D} (hC : C e) (h : lcStep vs g ft fe d e = some (o, e')) :
    lcL C vs g ft fe (d :: ds) e = (lcL C vs g ft fe ds e').map fun p => (o.toList ++ p.1, p.2) := by
  rw [lcL, if_pos hC]
  unfold lcStep at h
  cases h1 : g d e with
  | none => simp [h1] at h
  | some e1 =>
    simp only [h1] at h ⊢
    cases h2 : ft e1 with
    | exn x e2 => simp [h2] at h
    | stuck => simp [h2] at h
    | ok b e2 =>
      cases b with
      | true =>
        simp only [h2] at h ⊢
        cases h3 : fe e2 with
        | exn x e3 => simp [h3] at h
        | stuck => simp [h3] at h
        | ok y e3 =>
          simp only [h3] at h ⊢
          cases h
          rfl
      | false =>
        simp only [h2] at h ⊢
        cases h
        cases lcL C vs g ft fe ds (wipeE e2 vs) <;> rfl
theorem lcL_pure {α : Type} {C : DE → Prop} {vs : List Nat} {g : D → DE → Option DE} {ft : DE → Res Bool} {fe : DE → Res D} {I : α → D} {p : α → Bool} {F : α → D} {e : DE} (hC : C e) : ∀ {as : List α}, (∀ a ∈ as, lcStep vs g ft fe (I a) e = some (if p a = true then some (F a) else none, e)) →
    lcL C vs g ft fe (as.map I) e = some ((as.filter p).map F, e)
  | [], _ => rfl
  | a :: as, h => by
    rw [List.map_cons, lcL_step hC (h a (by simp)), lcL_pure hC fun b hb => h b (by simp [hb])]
    by_cases q : p a = true <;> simp [q]
/-- a comprehension with no effects -/
theorem eLc_pure {α : Type} {vs : List Nat} {fi : DE → Res Wk} {g : D → DE → Option DE} {ft : DE → Res Bool} {fe : DE → Res D} {e e1 : DE} {k : Wk} (as : List α) (I : α → D) (p : α → Bool) (F : α → D) (hi : fi e = .ok k e1) (hk : k.ds = as.map I) (hv : ∀ q, k.at_ = some q → vs.contains q.1 = false) (hs : as.length ≤ sizeLine)
    (hC : k.C (wipeE e1 vs)) (h : ∀ a ∈ as, lcStep vs g ft fe (I a) (wipeE e1 vs) = some (if p a = true then some (F a) else none, wipeE e1 vs)) : eLc vs fi g ft fe e = .ok (.lst true ((as.filter p).map F)) (restE e1 vs (wipeE e1 vs)) := by
  rw [eLc_eq]; unfold eLc0
  rw [hi, Res.bind_ok, if_pos ⟨by rw [hk, List.length_map]; exact hs, hv⟩, hk, lcL_pure hC h]
  simp [hC]
theorem eLc_map {α : Type} {vs : List Nat} {fi : DE → Res Wk} {g : D → DE → Option DE} {fe : DE → Res D} {e e1 : DE} {k : Wk} (as : List α) (I : α → D) (F : α → D) (hi : fi e = .ok k e1) (hk : k.ds = as.map I) (hv : ∀ q, k.at_ = some q → vs.contains q.1 = false) (hs : as.length ≤ sizeLine)
    (hC : k.C (wipeE e1 vs)) (h : ∀ a ∈ as, lcStep vs g tYesF fe (I a) (wipeE e1 vs) = some (some (F a), wipeE e1 vs)) : eLc vs fi g tYesF fe e = .ok (.lst true (as.map F)) (restE e1 vs (wipeE e1 vs)) := by
  have q := eLc_pure (ft := tYesF) as I (fun _ => true) F hi hk hv hs hC (fun a ha => by rw [if_pos rfl]; exact h a ha)
  rw [q, List.filter_eq_self.mpr (fun _ _ => rfl)]
/-- a comprehension with an invariant: what it makes is told entry by entry -/
theorem lcL_inv {C : DE → Prop} {vs : List Nat} {g : D → DE → Option DE} {ft : DE → Res Bool} {fe : DE → Res D} (P : Nat → List D → DE → Prop) (hC : ∀ i l e, P i l e → C e) : ∀ {ds : List D} {i : Nat} {l : List D} {e : DE}, P i l e →
    (∀ j d l e, ds[j]? = some d → P (i + j) l e → ∃ o e', lcStep vs g ft fe d e = some (o, e') ∧ P (i + j + 1) (l ++ o.toList) e') →
    ∃ l' e', lcL C vs g ft fe ds e = some (l', e') ∧ P (i + ds.length) (l ++ l') e'
  | [], i, l, e, h, _ => ⟨[], e, rfl, by simpa using h⟩
  | d :: ds, i, l, e, h, hs => by
    obtain ⟨o, e1, h1, h2⟩ := hs 0 d l e rfl h
    obtain ⟨l', e', h3, h4⟩ := lcL_inv P hC (ds := ds) h2 (fun j d' l e hd hp => by
      have q := hs (j + 1) d' l e (by simpa using hd) (by rw [← Nat.add_assoc, Nat.add_right_comm]; exact hp)
      rw [← Nat.add_assoc, Nat.add_right_comm i j 1] at q
      exact q)
    refine ⟨o.toList ++ l', e', by rw [lcL_step (hC _ _ _ h) h1, h3]; rfl, ?_⟩
    rw [← List.append_assoc, List.length_cons, show i + (ds.length + 1) = i + 0 + 1 + ds.length by omega]
    exact h4
theorem eLc_inv {vs : List Nat} {fi : DE → Res Wk} {g : D → DE → Option DE} {ft : DE → Res Bool} {fe : DE → Res D} {e e1 : DE} {k : Wk} (P : Nat → List D → DE → Prop) (hi : fi e = .ok k e1) (hv : ∀ q, k.at_ = some q → vs.contains q.1 = false) (hl : k.ds.length ≤ sizeLine)
    (hC : ∀ i l e, P i l e → k.C e) (h0 : P 0 [] (wipeE e1 vs)) (hs : ∀ j d l e, k.ds[j]? = some d → P j l e → ∃ o e', lcStep vs g ft fe d e = some (o, e') ∧ P (j + 1) (l ++ o.toList) e') :
    ∃ l e2, eLc vs fi g ft fe e = .ok (.lst true l) (restE e1 vs e2) ∧ P k.ds.length l e2 := by
  obtain ⟨l, e2, h1, h2⟩ := lcL_inv (C := k.C) (vs := vs) (g := g) (ft := ft) (fe := fe) P hC h0 (by simpa using hs)
  refine ⟨l, e2, ?_, by simpa using h2⟩
  rw [eLc_eq]; unfold eLc0
  rw [hi, Res.bind_ok, if_pos ⟨hl, hv⟩, h1]
  have hc : k.C e2 := hC _ _ _ h2
  simp [hc]
/-! ### for -/
theorem forL_inv {g : D → DE → Option DE} {b : DE → SRes} (P : Nat → DE → Prop) : ∀ {ds : List D} {i : Nat} {e : DE}, P i e →
    (∀ j d e, ds[j]? = some d → P (i + j) e → ∃ e1 e2, g d e = some e1 ∧ b e1 = .nx e2 ∧ P (i + j + 1) e2) →
    ∃ e', forL g b ds e = .nx e' ∧ P (i + ds.length) e'
  | [], i, e, h, _ => ⟨e, rfl, h⟩
  | d :: ds, i, e, h, hs => by
    obtain ⟨e1, e2, h1, h2, h3⟩ := hs 0 d e rfl h
    obtain ⟨e', h4, h5⟩ := forL_inv P (ds := ds) h3 (fun j d' e hd hp => by
      have q := hs (j + 1) d' e (by simpa using hd) (by rw [← Nat.add_assoc, Nat.add_right_comm]; exact hp)
      rw [← Nat.add_assoc, Nat.add_right_comm i j 1] at q
      exact q)
    refine ⟨e', by rw [forL, h1]; dsimp only; rw [h2]; exact h4, ?_⟩
    rw [List.length_cons, show i + (ds.length + 1) = i + 0 + 1 + ds.length by omega]
    exact h5
theorem forL_inv0 {g : D → DE → Option DE} {b : DE → SRes} (P : Nat → DE → Prop) {ds : List D} {e : DE} (h : P 0 e)
    (hs : ∀ j d e, ds[j]? = some d → P j e → ∃ e1 e2, g d e = some e1 ∧ b e1 = .nx e2 ∧ P (j + 1) e2) :
    ∃ e', forL g b ds e = .nx e' ∧ P ds.length e' := by
  have q := forL_inv (b := b) P (ds := ds) h (by simpa using hs)
  simpa using q
/-! ### while -/
theorem sWhile_at {c : DE → Res Bool} {b : DE → SRes} {e : DE} {n : Nat} {r : SRes} (h : whF c b n e = r) (hr : r ≠ .stuck) : sWhile c b e = r := by
  exact sWhile_eq h hr
theorem log2_lt' {n k : Nat} (hk : 0 < k) (h : n < 2 ^ k) : n.log2 < k := by
  by_cases h0 : n = 0
  · subst h0; simpa using hk
  · exact (Nat.log2_lt h0).mpr h
theorem mulOk_of {i j : Int} (hi : i.natAbs < 2 ^ 1000) (hj : j.natAbs < 2 ^ 1000) : mulOk i j = true := by
  have a := log2_lt' (by decide) hi
  have b := log2_lt' (by decide) hj
  unfold mulOk
  simp only [decide_eq_true_eq]
  omega
end Tr

set_option maxHeartbeats 2000000
/-! The evaluation, 2: equality, membership, items, zip, targets. -/
namespace Tr
open PySem PySem.Spec PyProof.Rows L2
@[simp] theorem ap_gTp {n gs d e} : gTp n gs d e = match d with
  | .tup ds => if ds.length = n then gs ds e else none
  | _ => none := (rfl)
@[simp] theorem ap_gsNil {e} : gsNil [] e = some e := (rfl)
@[simp] theorem ap_gsCons {g gs d ds e} : gsCons g gs (d :: ds) e = (g d e).bind (gs ds) := (rfl)
@[simp] theorem ap_frz_v {d e} : frzS (.v d) e = some (d.frz, e) := (rfl)
@[simp] theorem ap_frz_s {i e} : frzS (.s i) e = match gd e i with
    | some d => if d.flag = true then some (d.frz, e.set i (some d.frz)) else some (d, e)
    | none => none := (rfl)
@[simp] theorem ap_zip2 {fa e} : iZip2 fa e = (fa e).bind fun ls e1 => match ls with
  | [l, l2] => (match frzS l2 e1 with
    | some (d2, e2) => (match frzS l e2 with
      | some (d, e3) => (match d, d2 with
        | .lst _ as, .lst _ bs => .ok ⟨zipD as bs, none⟩ e3
        | .tup as, .tup bs => .ok ⟨zipD as bs, none⟩ e3
        | _, _ => .stuck)
      | none => .stuck)
    | none => .stuck)
  | _ => .stuck := (rfl)
theorem zipD_ints : ∀ xs ys : List Int, zipD (xs.map .int) (ys.map .int) = (xs.zip ys).map fun p => D.tup [.int p.1, .int p.2]
  | [], _ => rfl
  | _ :: _, [] => rfl
  | x :: xs, y :: ys => by simp [zipD, zipD_ints xs ys]
theorem sIx_le {n d : Nat} {k : Nat} : HT.sIx n d (some (k : Int)) = min k n := HT.sIx_nat n d k
theorem cutD_from {α : Type} (xs : List α) (k : Nat) : cutD xs (some (k : Int)) none = xs.drop k := by
  unfold cutD
  rw [sIx_le, HT.sIx_none]
  by_cases h : k ≤ xs.length
  · rw [Nat.min_eq_left h]; exact List.take_of_length_le (by simp)
  · rw [Nat.min_eq_right (by omega)]; simp; omega
theorem flats_ints : ∀ xs : List Int, flats (xs.map .int) = some (xs.map .int)
  | [] => by simp [flats]
  | x :: xs => by simp [flats, D.flatV, flats_ints xs]
theorem inV_ints (i : Int) : ∀ xs : List Int, inV (.int i) (xs.map .int) = decide (i ∈ xs)
  | [] => by simp [inV]
  | x :: xs => by
    have h := inV_ints i xs
    unfold inV at h ⊢
    rw [List.map_cons, List.any_cons, h]
    by_cases q : x = i
    · subst q; simp [eqV]
    · simp [eqV, q, Ne.symm q, show ¬ i = x from fun h => q h.symm]
theorem in_tup {b : Bool} {i : Int} {xs : List Int} : dIn b (.int i) (.tup (xs.map .int)) = .ok (.bl (if b then !decide (i ∈ xs) else decide (i ∈ xs))) := by
  cases b <;> simp [dIn, D.flatV, flats_ints, inV_ints]
theorem in_lst {b o : Bool} {i : Int} {xs : List Int} : dIn b (.int i) (.lst o (xs.map .int)) = .ok (.bl (if b then !decide (i ∈ xs) else decide (i ∈ xs))) := by
  cases b <;> simp [dIn, D.flatV, flats_ints, inV_ints]
theorem dInts_of {α : Type} (f : α → Int) : ∀ l : List α, dInts? (l.map fun k => D.int (f k)) = some (l.map f)
  | [] => rfl
  | n :: ns => by simp [dInts?, dInts_of f ns]
theorem count_of {α : Type} {o} {f : α → Int} {l : List α} {k : Int} : dCount (.lst o (l.map fun x => D.int (f x))) (.int k) = .ok (.int ((l.map f).count k : Nat)) := by simp [dCount, dInts_of]
end Tr

set_option maxHeartbeats 4000000
namespace Law
open PySem PySem.Spec PyProof.Rows L2 Tr
abbrev topS (i : Nat) : Stmt := PySem.Challenge.pw_countwide_k66_whole_meet_sums_and_just_c.main.body.getD i (.Pass ⟨0, 0, 0, 0⟩)
structure Txt (mg : Str → Option Value) : Prop where
  z_abs : mg "abs" = none
  z_all : mg "all" = none
  z_bool : mg "bool" = none
  z_int : mg "int" = none
  z_isinstance : mg "isinstance" = none
  z_len : mg "len" = none
  z_list : mg "list" = none
  z_max : mg "max" = none
  z_min : mg "min" = none
  z_range : mg "range" = none
  z_sum : mg "sum" = none
  z_tuple : mg "tuple" = none
  z_zip : mg "zip" = none
  c_LONGEST : ∃ t, mg "LONGEST" = some (.int 1000000000000000000000000000000 t)
  c_MOST_SETS : ∃ t, mg "MOST_SETS" = some (.int 6 t)
  c_MOST_THINGS : ∃ t, mg "MOST_THINGS" = some (.int 30 t)
section
variable {P : Program} {w : World} {K : PySem.W.Frag} {mg : Str → Option Value} {base : Heap}
/-! ### is_whole -/
abbrev s_is_whole : Stmt := topS 6
theorem sc_is_whole : FnScope ["thing", "least", "most"] ["thing", "least", "most"] (defScope s_is_whole) := ⟨rfl, rfl, rfl, by decide +kernel, rfl, by decide +kernel, by decide +kernel⟩
noncomputable def b_is_whole : DE → SRes := (sCons (sIf (tOrF (tNotF (tOfE (eBlt (d2 dIsi) (aCons (xSlot 0) (aCons (xOf (eC (.ty "int"))) aNil))))) (tOfE (eBlt (d2 dIsi) (aCons (xSlot 0) (aCons (xOf (eC (.ty "bool"))) aNil))))) (sRet (eC (.bl false))) sNil)
      (sCons (sIf (tAndF (tOfE (eOp2 (dIsN true) (xSlot 1) (xOf (eC .non)))) (tOfE (eOp2 dLt (xSlot 0) (xSlot 1)))) (sRet (eC (.bl false))) sNil)
      (sRet (eOr (eOp2 (dIsN false) (xSlot 2) (xOf (eC .non))) (eOp2 dLe (xSlot 0) (xSlot 2))))))
noncomputable def G_is_whole : List D → FR := fnG [0, 1, 2] 3 3 b_is_whole
theorem ok_is_whole {f : Addr} {fd : FuncData} (F : FunD K "is_whole" "is_whole" (defArgs s_is_whole) (defBody s_is_whole) (defScope s_is_whole) [] [("least", V.non), ("most", V.non)] f fd) (T : Txt mg)  : FnOk P w K mg base (L2.CX P w) 1 f fd ["thing", "least", "most"] (spG K 3 G_is_whole) := by
  have nd := sc_is_whole.nd
  exact fn_ok F sc_is_whole fun cdv A outer s H E hr => (vss_cons (vs_if (vt_w (vw_or (vt_not (vt_val (ve_callB call_isi cs_isi (by rfl) T.z_isinstance (by decide +kernel) (va_cons (vx_slot 0) (va_cons (vx_of (ve_bltT (by rfl) T.z_int (by decide +kernel))) va_nil))))) (vw_or1 (vt_val (ve_callB call_isi cs_isi (by rfl) T.z_isinstance (by decide +kernel) (va_cons (vx_slot 0) (va_cons (vx_of (ve_bltT (by rfl) T.z_bool (by decide +kernel))) va_nil))))))) (vss_one (vs_ret ve_bl)) vss_nil)
      (vss_cons (vs_if (vt_w (vw_and (vt_cmp op_notN os_notN (vx_slot 1) (vx_of ve_non) (nomark _)) (vw_and1 (vt_cmp op_ltI os_cmpI (vx_slot 0) (vx_slot 1) (nomark _))))) (vss_one (vs_ret ve_bl)) vss_nil)
      (vss_one (vs_ret (ve_or (ve_cmp op_isN os_isN (vx_slot 2) (vx_of ve_non) (nomark _)) (ve_one (ve_cmp op_leI os_cmpI (vx_slot 0) (vx_slot 2) (nomark _))))))))
/-! ### out_of -/
abbrev s_out_of : Stmt := topS 11
theorem sc_out_of : FnScope ["many", "size", "found", "at"] ["many", "size"] (defScope s_out_of) := ⟨rfl, rfl, rfl, by decide +kernel, rfl, by decide +kernel, by decide +kernel⟩
noncomputable def b_out_of : DE → SRes := (sCons (sIf (tNotF (tOfE (eChain dLe dLe (xOf (eC (.int 0))) (xSlot 1) (xSlot 0)))) (sRet (eC (.int 0))) sNil)
      (sCons (sSet 2 (eC (.int 1)))
      (sCons (sFor (iRng1f (aCons (xSlot 1) aNil)) (gN 3) (sSet 2 (eOp2 dFdiv (xOf (eOp2 dMul (xSlot 2) (xOf (eOp2 dSub (xSlot 0) (xSlot 3))))) (xOf (eOp2 dAdd (xSlot 3) (xOf (eC (.int 1))))))))
      (sRet (eMove 2)))))
noncomputable def G_out_of : List D → FR := fnG [0, 1] 2 4 b_out_of
theorem ok_out_of {f : Addr} {fd : FuncData} (F : FunD K "out_of" "out_of" (defArgs s_out_of) (defBody s_out_of) (defScope s_out_of) [] [] f fd) (T : Txt mg)  : FnOk P w K mg base (L2.CX P w) 1 f fd ["many", "size"] (spG K 2 G_out_of) := by
  have nd := sc_out_of.nd
  exact fn_ok F sc_out_of fun cdv A outer s H E hr => (vss_cons (vs_if (vt_not (vt_chain op_leI op_leI os_cmpI os_cmpI (vx_of ve_int) (vx_slot 1) (vx_slot 0))) (vss_one (vs_ret ve_int)) vss_nil)
      (vss_cons (vs_set 2 ve_int nd)
      (vss_cons (vs_for po_def rfl (vi_range1 (by rfl) T.z_range (va_cons (vx_slot 1) va_nil)) (vg_name 3 nd) (vss_one (vs_set 2 (ve_op op_fdivW os_fdiv (vx_of (ve_op op_mulA os_mul (vx_slot 2) (vx_of (ve_op op_sub os_I0 (vx_slot 0) (vx_slot 3))))) (vx_of (ve_op op_addA os_add (vx_slot 3) (vx_of ve_int)))) nd)))
      (vss_one (vs_ret (ve_move 2))))))
/-! ### sign_of -/
abbrev s_sign_of : Stmt := topS 12
theorem sc_sign_of : FnScope ["number"] ["number"] (defScope s_sign_of) := ⟨rfl, rfl, rfl, by decide +kernel, rfl, by decide +kernel, by decide +kernel⟩
noncomputable def b_sign_of : DE → SRes := (sRet (eIf (tOfE (eOp2 (dEq false) (xOf (eOp2 dMod (xSlot 0) (xOf (eC (.int 2))))) (xOf (eC (.int 0))))) (eC (.int 1)) (eUn dNeg (xOf (eC (.int 1))))))
noncomputable def G_sign_of : List D → FR := fnG [0] 1 1 b_sign_of
theorem ok_sign_of {f : Addr} {fd : FuncData} (F : FunD K "sign_of" "sign_of" (defArgs s_sign_of) (defBody s_sign_of) (defScope s_sign_of) [] [] f fd) (T : Txt mg)  : FnOk P w K mg base (L2.CX P w) 1 f fd ["number"] (spG K 1 G_sign_of) := by
  have nd := sc_sign_of.nd
  exact fn_ok F sc_sign_of fun cdv A outer s H E hr => (vss_one (vs_ret (ve_if (vt_cmp (op_eqD hr.units) os_eq (vx_of (ve_op op_mod os_mod (vx_slot 0) (vx_of ve_int))) (vx_of ve_int) (nomark _)) ve_int (ve_un un_neg us_neg (vx_of ve_int)))))
/-! ### counts_in -/
abbrev s_counts_in : Stmt := topS 13
theorem sc_counts_in : FnScope ["sums", "many", "r", "j"] ["sums"] (defScope s_counts_in) := ⟨rfl, rfl, rfl, by decide +kernel, rfl, by decide +kernel, by decide +kernel⟩
noncomputable def b_counts_in : DE → SRes := (sCons (sSet 1 (eBlt (d1 dLen) (aCons (xSlot 0) aNil)))
      (sRet (eLc [2] (iRng1f (aCons (xSlot 1) aNil)) (gN 2) tYesF (eBlt (d1 dSum) (aCons (xOf (eLc [3] (iRng2f (aCons (xSlot 2) (aCons (xSlot 1) aNil))) (gN 3) tYesF (eOp2 dMul (xOf (eOp2 dMul (xOf (eCall G_sign_of [] (aCons (xOf (eOp2 dSub (xSlot 3) (xSlot 2))) aNil))) (xOf (eCall G_out_of [] (aCons (xSlot 3) (aCons (xSlot 2) aNil)))))) (xOf (eOp2 dIx (xSlot 0) (xSlot 3)))))) aNil)))))
noncomputable def G_counts_in : List D → FR := fnG [0] 1 4 b_counts_in
theorem ok_counts_in {f : Addr} {fd : FuncData} (F : FunD K "counts_in" "counts_in" (defArgs s_counts_in) (defBody s_counts_in) (defScope s_counts_in) [] [] f fd) (T : Txt mg) (C_sign_of_1 : Cal P w K mg base "sign_of" 1 1 [] G_sign_of) (C_out_of_2 : Cal P w K mg base "out_of" 1 2 [] G_out_of) : FnOk P w K mg base (L2.CX P w) 2 f fd ["sums"] (spG K 1 G_counts_in) := by
  have nd := sc_counts_in.nd
  exact fn_ok F sc_counts_in fun cdv A outer s H E hr => (vss_cons (vs_set 1 (ve_callB call_lenA cs_len (by rfl) T.z_len (by decide +kernel) (va_cons (vx_slot 0) va_nil)) nd)
      (vss_one (vs_ret (ve_lc rfl nd (vi_range1 (by rfl) T.z_range (va_cons (vx_slot 1) va_nil)) (blkOk_by (own := [("r", 2)]) (by kernel_rfl)) (fun _ _ _ _ _ => (vg_name 2 nd)) (fun _ _ _ _ _ => vts_nil) (fun _ _ _ _ _ => (ve_callB (cr_sumA rfl) cs_sum (by rfl) T.z_sum (by decide +kernel) (va_cons (vx_of (ve_lc rfl nd (vi_range2 (by rfl) T.z_range (va_cons (vx_slot 2) (va_cons (vx_slot 1) va_nil))) (blkOk_by (own := [("j", 3)]) (by kernel_rfl)) (fun _ _ _ _ _ => (vg_name 3 nd)) (fun _ _ _ _ _ => vts_nil) (fun _ _ _ _ _ => (ve_op op_mulA os_mul (vx_of (ve_op op_mulA os_mul (vx_of (ve_cal C_sign_of_1 hr pxs0 (va_cons (vx_of (ve_op op_sub os_I0 (vx_slot 3) (vx_slot 2))) va_nil))) (vx_of (ve_cal C_out_of_2 hr pxs0 (va_cons (vx_slot 3) (va_cons (vx_slot 2) va_nil)))))) (vx_of (ve_ix ix_seq os_ix (vx_slot 0) (vx_slot 3))))))) va_nil)))))))
/-! ### sums_in -/
abbrev s_sums_in : Stmt := topS 14
theorem sc_sums_in : FnScope ["counts", "many", "j", "r"] ["counts"] (defScope s_sums_in) := ⟨rfl, rfl, rfl, by decide +kernel, rfl, by decide +kernel, by decide +kernel⟩
noncomputable def b_sums_in : DE → SRes := (sCons (sSet 1 (eBlt (d1 dLen) (aCons (xSlot 0) aNil)))
      (sRet (eLc [2] (iRng1f (aCons (xSlot 1) aNil)) (gN 2) tYesF (eBlt (d1 dSum) (aCons (xOf (eLc [3] (iRng2f (aCons (xSlot 2) (aCons (xSlot 1) aNil))) (gN 3) tYesF (eOp2 dMul (xOf (eCall G_out_of [] (aCons (xSlot 3) (aCons (xSlot 2) aNil)))) (xOf (eOp2 dIx (xSlot 0) (xSlot 3)))))) aNil)))))
noncomputable def G_sums_in : List D → FR := fnG [0] 1 4 b_sums_in
theorem ok_sums_in {f : Addr} {fd : FuncData} (F : FunD K "sums_in" "sums_in" (defArgs s_sums_in) (defBody s_sums_in) (defScope s_sums_in) [] [] f fd) (T : Txt mg) (C_out_of_2 : Cal P w K mg base "out_of" 1 2 [] G_out_of) : FnOk P w K mg base (L2.CX P w) 2 f fd ["counts"] (spG K 1 G_sums_in) := by
  have nd := sc_sums_in.nd
  exact fn_ok F sc_sums_in fun cdv A outer s H E hr => (vss_cons (vs_set 1 (ve_callB call_lenA cs_len (by rfl) T.z_len (by decide +kernel) (va_cons (vx_slot 0) va_nil)) nd)
      (vss_one (vs_ret (ve_lc rfl nd (vi_range1 (by rfl) T.z_range (va_cons (vx_slot 1) va_nil)) (blkOk_by (own := [("j", 2)]) (by kernel_rfl)) (fun _ _ _ _ _ => (vg_name 2 nd)) (fun _ _ _ _ _ => vts_nil) (fun _ _ _ _ _ => (ve_callB (cr_sumA rfl) cs_sum (by rfl) T.z_sum (by decide +kernel) (va_cons (vx_of (ve_lc rfl nd (vi_range2 (by rfl) T.z_range (va_cons (vx_slot 2) (va_cons (vx_slot 1) va_nil))) (blkOk_by (own := [("r", 3)]) (by kernel_rfl)) (fun _ _ _ _ _ => (vg_name 3 nd)) (fun _ _ _ _ _ => vts_nil) (fun _ _ _ _ _ => (ve_op op_mulA os_mul (vx_of (ve_cal C_out_of_2 hr pxs0 (va_cons (vx_slot 3) (va_cons (vx_slot 2) va_nil)))) (vx_of (ve_ix ix_seq os_ix (vx_slot 0) (vx_slot 3))))))) va_nil)))))))
/-! ### counts_by -/
abbrev s_counts_by : Stmt := topS 15
theorem sc_counts_by : FnScope ["things", "sets", "often", "thing", "one", "many"] ["things", "sets"] (defScope s_counts_by) := ⟨rfl, rfl, rfl, by decide +kernel, rfl, by decide +kernel, by decide +kernel⟩
noncomputable def b_counts_by : DE → SRes := (sCons (sSet 2 (eLc [3] (iRng1f (aCons (xSlot 0) aNil)) (gN 3) tYesF (eBlt (d1 dLen) (aCons (xOf (eLc [4] (iSlot 1) (gN 4) (tOfE (eOp2 (dIn false) (xSlot 3) (xSlot 4))) (eUse 4))) aNil))))
      (sRet (eLc [5] (iRng1f (aCons (xOf (eOp2 dAdd (xOf (eBlt (d1 dLen) (aCons (xSlot 1) aNil))) (xOf (eC (.int 1))))) aNil)) (gN 5) tYesF (eMt1 isLst dCount (xSlot 2) (xSlot 5)))))
noncomputable def G_counts_by : List D → FR := fnG [0, 1] 2 6 b_counts_by
theorem ok_counts_by {f : Addr} {fd : FuncData} (F : FunD K "counts_by" "counts_by" (defArgs s_counts_by) (defBody s_counts_by) (defScope s_counts_by) [] [] f fd) (T : Txt mg)  : FnOk P w K mg base (L2.CX P w) 1 f fd ["things", "sets"] (spG K 2 G_counts_by) := by
  have nd := sc_counts_by.nd
  exact fn_ok F sc_counts_by fun cdv A outer s H E hr => (vss_cons (vs_set 2 (ve_lc rfl nd (vi_range1 (by rfl) T.z_range (va_cons (vx_slot 0) va_nil)) (blkOk_by (own := [("thing", 3)]) (by kernel_rfl)) (fun _ _ _ _ _ => (vg_name 3 nd)) (fun _ _ _ _ _ => vts_nil) (fun _ _ _ _ _ => (ve_callB call_lenA cs_len (by rfl) T.z_len (by decide +kernel) (va_cons (vx_of (ve_lc rfl nd (vi_slot 1) (blkOk_by (own := [("one", 4)]) (by kernel_rfl)) (fun _ _ _ _ _ => (vg_name 4 nd)) (fun _ _ _ _ _ => (vts_one (vt_cmp op_in_seq os_in (vx_slot 3) (vx_slot 4) (by rfl)))) (fun _ _ _ _ _ => (ve_use 4)))) va_nil)))) nd)
      (vss_one (vs_ret (ve_lc rfl nd (vi_range1 (by rfl) T.z_range (va_cons (vx_of (ve_op op_addA os_add (vx_of (ve_callB call_lenA cs_len (by rfl) T.z_len (by decide +kernel) (va_cons (vx_slot 1) va_nil))) (vx_of ve_int))) va_nil)) (blkOk_by (own := [("many", 5)]) (by kernel_rfl)) (fun _ _ _ _ _ => (vg_name 5 nd)) (fun _ _ _ _ _ => vts_nil) (fun _ _ _ _ _ => (ve_count (vx_slot 2) (vx_slot 5)))))))
/-! ### are_sets -/
abbrev s_are_sets : Stmt := topS 16
theorem sc_are_sets : FnScope ["things", "thing", "one", "at", "near", "far"] ["things", "thing"] (defScope s_are_sets) := ⟨rfl, rfl, rfl, by decide +kernel, rfl, by decide +kernel, by decide +kernel⟩
noncomputable def b_are_sets : DE → SRes := (sCons (sIf (tNotF (tOfE (eBlt (d2 dIsi) (aCons (xSlot 1) (aCons (xOf (eC (.ty "tuple"))) aNil))))) (sRet (eC (.bl false))) sNil)
      (sCons (sFor (iVal (eUse 1)) (gN 2) (sCons (sIf (tOrF (tNotF (tOfE (eBlt (d2 dIsi) (aCons (xSlot 2) (aCons (xOf (eC (.ty "tuple"))) aNil))))) (tNotF (tOfE (eBlt (d1 dAll) (aCons (xOf (eLc [3] (iSlot 2) (gN 3) tYesF (eCallK G_is_whole [some 0, some 1] [] (aCons (xSlot 3) aNil) (aCons (xOf (eC (.int 0))) (aCons (xOf (eOp2 dSub (xSlot 0) (xOf (eC (.int 1))))) aNil))))) aNil))))) (sRet (eC (.bl false))) sNil)
      (sIf (tNotF (tOfE (eBlt (d1 dAll) (aCons (xOf (eLc [4, 5] (iZip2 (aCons (xSlot 2) (aCons (xOf (eSl dSl (xSlot 2) (oAt (xOf (eC (.int 1)))) oNo)) aNil))) (gTp 2 (gsCons (gN 4) (gsCons (gN 5) gsNil))) tYesF (eOp2 dLt (xSlot 4) (xSlot 5)))) aNil)))) (sRet (eC (.bl false))) sNil)))
      (sRet (eC (.bl true)))))
noncomputable def G_are_sets : List D → FR := fnG [0, 1] 2 6 b_are_sets
theorem ok_are_sets {f : Addr} {fd : FuncData} (F : FunD K "are_sets" "are_sets" (defArgs s_are_sets) (defBody s_are_sets) (defScope s_are_sets) [] [] f fd) (T : Txt mg) (KC_is_whole_1_least_most : KCal P w K mg base "is_whole" 1 3 1 ["least", "most"] [some 0, some 1] [] G_is_whole) : FnOk P w K mg base (L2.CX P w) 2 f fd ["things", "thing"] (spG K 2 G_are_sets) := by
  have nd := sc_are_sets.nd
  exact fn_ok F sc_are_sets fun cdv A outer s H E hr => (vss_cons (vs_if (vt_not (vt_val (ve_callB call_isi cs_isi (by rfl) T.z_isinstance (by decide +kernel) (va_cons (vx_slot 1) (va_cons (vx_of (ve_bltT (by rfl) T.z_tuple (by decide +kernel))) va_nil))))) (vss_one (vs_ret ve_bl)) vss_nil)
      (vss_cons (vs_for po_def rfl (vi_val (ve_use 1)) (vg_name 2 nd) (vss_cons (vs_if (vt_w (vw_or (vt_not (vt_val (ve_callB call_isi cs_isi (by rfl) T.z_isinstance (by decide +kernel) (va_cons (vx_slot 2) (va_cons (vx_of (ve_bltT (by rfl) T.z_tuple (by decide +kernel))) va_nil))))) (vw_or1 (vt_not (vt_val (ve_callB (cr_all rfl) cs_all (by rfl) T.z_all (by decide +kernel) (va_cons (vx_of (ve_lc rfl nd (vi_slot 2) (blkOk_by (own := [("at", 3)]) (by kernel_rfl)) (fun _ _ _ _ _ => (vg_name 3 nd)) (fun _ _ _ _ _ => vts_nil) (fun _ _ _ _ _ => (ve_kcal KC_is_whole_1_least_most hr pxs0 (va_cons (vx_slot 3) va_nil) (vk_cons ve_int (vk_cons (ve_op op_sub os_I0 (vx_slot 0) (vx_of ve_int)) vk_nil)))))) va_nil))))))) (vss_one (vs_ret ve_bl)) vss_nil)
      (vss_one (vs_if (vt_not (vt_val (ve_callB (cr_all rfl) cs_all (by rfl) T.z_all (by decide +kernel) (va_cons (vx_of (ve_lc rfl nd (vi_zip (by rfl) T.z_zip (va_cons (vx_slot 2) (va_cons (vx_of (ve_sl sl_all ss_sl (vx_slot 2) (vo_at (vx_of ve_int)) vo_no)) va_nil))) (blkOk_by (own := [("near", 4), ("far", 5)]) (by kernel_rfl)) (fun _ _ _ _ _ => (vg_tup rfl (vgs_cons (vg_name 4 nd) (vgs_cons (vg_name 5 nd) vgs_nil)))) (fun _ _ _ _ _ => vts_nil) (fun _ _ _ _ _ => (ve_cmp op_ltI os_cmpI (vx_slot 4) (vx_slot 5) (nomark _))))) va_nil)))) (vss_one (vs_ret ve_bl)) vss_nil))))
      (vss_one (vs_ret ve_bl))))
/-! ### need_things -/
abbrev s_need_things : Stmt := topS 17
theorem sc_need_things : FnScope ["things"] ["things"] (defScope s_need_things) := ⟨rfl, rfl, rfl, by decide +kernel, rfl, by decide +kernel, by decide +kernel⟩
noncomputable def b_need_things : DE → SRes := (sIf (tNotF (tOfE (eCallK G_is_whole [some 0, some 1] [] (aCons (xSlot 0) aNil) (aCons (xOf (eC (.int 0))) (aCons (xOf (eC (.int 30))) aNil))))) (fun _ => .stuck) sNil)
noncomputable def G_need_things : List D → FR := fnG [0] 1 1 b_need_things
theorem ok_need_things {f : Addr} {fd : FuncData} (F : FunD K "need_things" "need_things" (defArgs s_need_things) (defBody s_need_things) (defScope s_need_things) [] [] f fd) (T : Txt mg) (KC_is_whole_1_least_most : KCal P w K mg base "is_whole" 1 3 1 ["least", "most"] [some 0, some 1] [] G_is_whole) : FnOk P w K mg base (L2.CX P w) 2 f fd ["things"] (spG K 1 G_need_things) := by
  have nd := sc_need_things.nd
  exact fn_ok F sc_need_things fun cdv A outer s H E hr => (vss_one (vs_if (vt_not (vt_val (ve_kcal KC_is_whole_1_least_most hr px_def (va_cons (vx_slot 0) va_nil) (vk_cons ve_int (vk_cons (ve_globI (by rfl) T.c_MOST_THINGS.choose_spec ⟨_, rfl⟩) vk_nil))))) (vss_one vs_never) vss_nil))
/-! ### need_sets -/
abbrev s_need_sets : Stmt := topS 18
theorem sc_need_sets : FnScope ["things", "sets"] ["things", "sets"] (defScope s_need_sets) := ⟨rfl, rfl, rfl, by decide +kernel, rfl, by decide +kernel, by decide +kernel⟩
noncomputable def b_need_sets : DE → SRes := (sCons (sExpr (eCall G_need_things [] (aCons (xSlot 0) aNil)))
      (sIf (tOrF (tNotF (tOfE (eCall G_are_sets [] (aCons (xSlot 0) (aCons (xSlot 1) aNil))))) (tNotF (tOfE (eChain dLe dLe (xOf (eC (.int 1))) (xOf (eBlt (d1 dLen) (aCons (xSlot 1) aNil))) (xOf (eC (.int 6))))))) (fun _ => .stuck) sNil))
noncomputable def G_need_sets : List D → FR := fnG [0, 1] 2 2 b_need_sets
theorem ok_need_sets {f : Addr} {fd : FuncData} (F : FunD K "need_sets" "need_sets" (defArgs s_need_sets) (defBody s_need_sets) (defScope s_need_sets) [] [] f fd) (T : Txt mg) (C_need_things_1 : Cal P w K mg base "need_things" 2 1 [] G_need_things) (C_are_sets_2 : Cal P w K mg base "are_sets" 2 2 [] G_are_sets) : FnOk P w K mg base (L2.CX P w) 3 f fd ["things", "sets"] (spG K 2 G_need_sets) := by
  have nd := sc_need_sets.nd
  exact fn_ok F sc_need_sets fun cdv A outer s H E hr => (vss_cons (vs_expr (ve_cal C_need_things_1 hr px_def (va_cons (vx_slot 0) va_nil)))
      (vss_one (vs_if (vt_w (vw_or (vt_not (vt_val (ve_cal C_are_sets_2 hr px_def (va_cons (vx_slot 0) (va_cons (vx_slot 1) va_nil))))) (vw_or1 (vt_not (vt_chain op_leI op_leI os_cmpI os_cmpI (vx_of ve_int) (vx_of (ve_callB call_lenA cs_len (by rfl) T.z_len (by decide +kernel) (va_cons (vx_slot 1) va_nil))) (vx_of (ve_globI (by rfl) T.c_MOST_SETS.choose_spec ⟨_, rfl⟩))))))) (vss_one vs_never) vss_nil)))
/-! ### need_sums -/
abbrev s_need_sums : Stmt := topS 19
theorem sc_need_sums : FnScope ["thing", "number"] ["thing"] (defScope s_need_sums) := ⟨rfl, rfl, rfl, by decide +kernel, rfl, by decide +kernel, by decide +kernel⟩
noncomputable def b_need_sums : DE → SRes := (sCons (sIf (tOrF (tNotF (tOfE (eBlt (d2 dIsi) (aCons (xSlot 0) (aCons (xOf (eC (.ty "tuple"))) aNil))))) (tNotF (tOfE (eChain dLe dLe (xOf (eC (.int 2))) (xOf (eBlt (d1 dLen) (aCons (xSlot 0) aNil))) (xOf (eOp2 dAdd (xOf (eC (.int 6))) (xOf (eC (.int 1))))))))) (fun _ => .stuck) sNil)
      (sIf (tNotF (tOfE (eBlt (d1 dAll) (aCons (xOf (eLc [1] (iSlot 0) (gN 1) tYesF (eAnd (eCall G_is_whole [.non, .non] (aCons (xSlot 1) aNil)) (eOp2 dLt (xOf (eBlt (d1 dAbs) (aCons (xSlot 1) aNil))) (xOf (eC (.int 1000000000000000000000000000000))))))) aNil)))) (fun _ => .stuck) sNil))
noncomputable def G_need_sums : List D → FR := fnG [0] 1 2 b_need_sums
theorem ok_need_sums {f : Addr} {fd : FuncData} (F : FunD K "need_sums" "need_sums" (defArgs s_need_sums) (defBody s_need_sums) (defScope s_need_sums) [] [] f fd) (T : Txt mg) (C_is_whole_1 : Cal P w K mg base "is_whole" 1 3 [.non, .non] G_is_whole) : FnOk P w K mg base (L2.CX P w) 2 f fd ["thing"] (spG K 1 G_need_sums) := by
  have nd := sc_need_sums.nd
  exact fn_ok F sc_need_sums fun cdv A outer s H E hr => (vss_cons (vs_if (vt_w (vw_or (vt_not (vt_val (ve_callB call_isi cs_isi (by rfl) T.z_isinstance (by decide +kernel) (va_cons (vx_slot 0) (va_cons (vx_of (ve_bltT (by rfl) T.z_tuple (by decide +kernel))) va_nil))))) (vw_or1 (vt_not (vt_chain op_leI op_leI os_cmpI os_cmpI (vx_of ve_int) (vx_of (ve_callB call_lenA cs_len (by rfl) T.z_len (by decide +kernel) (va_cons (vx_slot 0) va_nil))) (vx_of (ve_op op_addA os_add (vx_of (ve_globI (by rfl) T.c_MOST_SETS.choose_spec ⟨_, rfl⟩)) (vx_of ve_int)))))))) (vss_one vs_never) vss_nil)
      (vss_one (vs_if (vt_not (vt_val (ve_callB (cr_all rfl) cs_all (by rfl) T.z_all (by decide +kernel) (va_cons (vx_of (ve_lc rfl nd (vi_slot 0) (blkOk_by (own := [("number", 1)]) (by kernel_rfl)) (fun _ _ _ _ _ => (vg_name 1 nd)) (fun _ _ _ _ _ => vts_nil) (fun _ _ _ _ _ => (ve_and (ve_cal C_is_whole_1 hr pxs0 (va_cons (vx_slot 1) va_nil)) (ve_one (ve_cmp op_ltI os_cmpI (vx_of (ve_callB call_abs cs_abs (by rfl) T.z_abs (by decide +kernel) (va_cons (vx_slot 1) va_nil))) (vx_of (ve_globI (by rfl) T.c_LONGEST.choose_spec ⟨_, rfl⟩)) (nomark _))))))) va_nil)))) (vss_one vs_never) vss_nil)))
/-! ### meet_sums -/
abbrev s_meet_sums : Stmt := topS 20
theorem sc_meet_sums : FnScope ["things", "sets"] ["things", "sets"] (defScope s_meet_sums) := ⟨rfl, rfl, rfl, by decide +kernel, rfl, by decide +kernel, by decide +kernel⟩
noncomputable def b_meet_sums : DE → SRes := (sCons (sExpr (eCall G_need_sets [] (aCons (xSlot 0) (aCons (xSlot 1) aNil))))
      (sRet (eBlt (d1 dTuple) (aCons (xOf (eCall G_sums_in [] (aCons (xOf (eCall G_counts_by [] (aCons (xSlot 0) (aCons (xSlot 1) aNil)))) aNil))) aNil))))
noncomputable def G_meet_sums : List D → FR := fnG [0, 1] 2 2 b_meet_sums
theorem ok_meet_sums {f : Addr} {fd : FuncData} (F : FunD K "meet_sums" "meet_sums" (defArgs s_meet_sums) (defBody s_meet_sums) (defScope s_meet_sums) [] [] f fd) (T : Txt mg) (C_need_sets_2 : Cal P w K mg base "need_sets" 3 2 [] G_need_sets) (C_counts_by_2 : Cal P w K mg base "counts_by" 1 2 [] G_counts_by) (C_sums_in_1 : Cal P w K mg base "sums_in" 2 1 [] G_sums_in) : FnOk P w K mg base (L2.CX P w) 4 f fd ["things", "sets"] (spG K 2 G_meet_sums) := by
  have nd := sc_meet_sums.nd
  exact fn_ok F sc_meet_sums fun cdv A outer s H E hr => (vss_cons (vs_expr (ve_cal C_need_sets_2 hr px_def (va_cons (vx_slot 0) (va_cons (vx_slot 1) va_nil))))
      (vss_one (vs_ret (ve_callTy call_tuple_of cs_tuple (by rfl) T.z_tuple (by decide +kernel) (va_cons (vx_of (ve_cal C_sums_in_1 hr px_def (va_cons (vx_of (ve_cal C_counts_by_2 hr px_def (va_cons (vx_slot 0) (va_cons (vx_slot 1) va_nil)))) va_nil))) va_nil)))))
/-! ### just_counts -/
abbrev s_just_counts : Stmt := topS 21
theorem sc_just_counts : FnScope ["things", "sets"] ["things", "sets"] (defScope s_just_counts) := ⟨rfl, rfl, rfl, by decide +kernel, rfl, by decide +kernel, by decide +kernel⟩
noncomputable def b_just_counts : DE → SRes := (sCons (sExpr (eCall G_need_sets [] (aCons (xSlot 0) (aCons (xSlot 1) aNil))))
      (sRet (eBlt (d1 dTuple) (aCons (xOf (eCall G_counts_by [] (aCons (xSlot 0) (aCons (xSlot 1) aNil)))) aNil))))
noncomputable def G_just_counts : List D → FR := fnG [0, 1] 2 2 b_just_counts
theorem ok_just_counts {f : Addr} {fd : FuncData} (F : FunD K "just_counts" "just_counts" (defArgs s_just_counts) (defBody s_just_counts) (defScope s_just_counts) [] [] f fd) (T : Txt mg) (C_need_sets_2 : Cal P w K mg base "need_sets" 3 2 [] G_need_sets) (C_counts_by_2 : Cal P w K mg base "counts_by" 1 2 [] G_counts_by) : FnOk P w K mg base (L2.CX P w) 4 f fd ["things", "sets"] (spG K 2 G_just_counts) := by
  have nd := sc_just_counts.nd
  exact fn_ok F sc_just_counts fun cdv A outer s H E hr => (vss_cons (vs_expr (ve_cal C_need_sets_2 hr px_def (va_cons (vx_slot 0) (va_cons (vx_slot 1) va_nil))))
      (vss_one (vs_ret (ve_callTy call_tuple_of cs_tuple (by rfl) T.z_tuple (by decide +kernel) (va_cons (vx_of (ve_cal C_counts_by_2 hr px_def (va_cons (vx_slot 0) (va_cons (vx_slot 1) va_nil)))) va_nil)))))
/-! ### counts_of -/
abbrev s_counts_of : Stmt := topS 22
theorem sc_counts_of : FnScope ["sums"] ["sums"] (defScope s_counts_of) := ⟨rfl, rfl, rfl, by decide +kernel, rfl, by decide +kernel, by decide +kernel⟩
noncomputable def b_counts_of : DE → SRes := (sCons (sExpr (eCall G_need_sums [] (aCons (xSlot 0) aNil)))
      (sRet (eBlt (d1 dTuple) (aCons (xOf (eCall G_counts_in [] (aCons (xSlot 0) aNil))) aNil))))
noncomputable def G_counts_of : List D → FR := fnG [0] 1 1 b_counts_of
theorem ok_counts_of {f : Addr} {fd : FuncData} (F : FunD K "counts_of" "counts_of" (defArgs s_counts_of) (defBody s_counts_of) (defScope s_counts_of) [] [] f fd) (T : Txt mg) (C_need_sums_1 : Cal P w K mg base "need_sums" 2 1 [] G_need_sums) (C_counts_in_1 : Cal P w K mg base "counts_in" 2 1 [] G_counts_in) : FnOk P w K mg base (L2.CX P w) 3 f fd ["sums"] (spG K 1 G_counts_of) := by
  have nd := sc_counts_of.nd
  exact fn_ok F sc_counts_of fun cdv A outer s H E hr => (vss_cons (vs_expr (ve_cal C_need_sums_1 hr px_def (va_cons (vx_slot 0) va_nil)))
      (vss_one (vs_ret (ve_callTy call_tuple_of cs_tuple (by rfl) T.z_tuple (by decide +kernel) (va_cons (vx_of (ve_cal C_counts_in_1 hr px_def (va_cons (vx_slot 0) va_nil))) va_nil)))))
/-! ### sums_of -/
abbrev s_sums_of : Stmt := topS 23
theorem sc_sums_of : FnScope ["counts"] ["counts"] (defScope s_sums_of) := ⟨rfl, rfl, rfl, by decide +kernel, rfl, by decide +kernel, by decide +kernel⟩
noncomputable def b_sums_of : DE → SRes := (sCons (sExpr (eCall G_need_sums [] (aCons (xSlot 0) aNil)))
      (sRet (eBlt (d1 dTuple) (aCons (xOf (eCall G_sums_in [] (aCons (xSlot 0) aNil))) aNil))))
noncomputable def G_sums_of : List D → FR := fnG [0] 1 1 b_sums_of
theorem ok_sums_of {f : Addr} {fd : FuncData} (F : FunD K "sums_of" "sums_of" (defArgs s_sums_of) (defBody s_sums_of) (defScope s_sums_of) [] [] f fd) (T : Txt mg) (C_need_sums_1 : Cal P w K mg base "need_sums" 2 1 [] G_need_sums) (C_sums_in_1 : Cal P w K mg base "sums_in" 2 1 [] G_sums_in) : FnOk P w K mg base (L2.CX P w) 3 f fd ["counts"] (spG K 1 G_sums_of) := by
  have nd := sc_sums_of.nd
  exact fn_ok F sc_sums_of fun cdv A outer s H E hr => (vss_cons (vs_expr (ve_cal C_need_sums_1 hr px_def (va_cons (vx_slot 0) va_nil)))
      (vss_one (vs_ret (ve_callTy call_tuple_of cs_tuple (by rfl) T.z_tuple (by decide +kernel) (va_cons (vx_of (ve_cal C_sums_in_1 hr px_def (va_cons (vx_slot 0) va_nil))) va_nil)))))
/-! ### ended -/
abbrev s_ended : Stmt := topS 24
theorem sc_ended : FnScope ["sums", "many", "j"] ["sums", "many"] (defScope s_ended) := ⟨rfl, rfl, rfl, by decide +kernel, rfl, by decide +kernel, by decide +kernel⟩
noncomputable def b_ended : DE → SRes := (sCons (sExpr (eCall G_need_sums [] (aCons (xSlot 0) aNil)))
      (sCons (sIf (tNotF (tOfE (eCallK G_is_whole [some 0, some 1] [] (aCons (xSlot 1) aNil) (aCons (xOf (eC (.int 1))) (aCons (xOf (eOp2 dSub (xOf (eBlt (d1 dLen) (aCons (xSlot 0) aNil))) (xOf (eC (.int 1))))) aNil))))) (fun _ => .stuck) sNil)
      (sRet (eBlt (d1 dSum) (aCons (xOf (eLc [2] (iRng2f (aCons (xOf (eC (.int 1))) (aCons (xOf (eOp2 dAdd (xSlot 1) (xOf (eC (.int 1))))) aNil))) (gN 2) tYesF (eOp2 dMul (xOf (eCall G_sign_of [] (aCons (xOf (eOp2 dSub (xSlot 2) (xOf (eC (.int 1))))) aNil))) (xOf (eOp2 dIx (xSlot 0) (xSlot 2)))))) aNil)))))
noncomputable def G_ended : List D → FR := fnG [0, 1] 2 3 b_ended
theorem ok_ended {f : Addr} {fd : FuncData} (F : FunD K "ended" "ended" (defArgs s_ended) (defBody s_ended) (defScope s_ended) [] [] f fd) (T : Txt mg) (C_need_sums_1 : Cal P w K mg base "need_sums" 2 1 [] G_need_sums) (KC_is_whole_1_least_most : KCal P w K mg base "is_whole" 1 3 1 ["least", "most"] [some 0, some 1] [] G_is_whole) (C_sign_of_1 : Cal P w K mg base "sign_of" 1 1 [] G_sign_of) : FnOk P w K mg base (L2.CX P w) 3 f fd ["sums", "many"] (spG K 2 G_ended) := by
  have nd := sc_ended.nd
  exact fn_ok F sc_ended fun cdv A outer s H E hr => (vss_cons (vs_expr (ve_cal C_need_sums_1 hr px_def (va_cons (vx_slot 0) va_nil)))
      (vss_cons (vs_if (vt_not (vt_val (ve_kcal KC_is_whole_1_least_most hr px_def (va_cons (vx_slot 1) va_nil) (vk_cons ve_int (vk_cons (ve_op op_sub os_I0 (vx_of (ve_callB call_lenA cs_len (by rfl) T.z_len (by decide +kernel) (va_cons (vx_slot 0) va_nil))) (vx_of ve_int)) vk_nil))))) (vss_one vs_never) vss_nil)
      (vss_one (vs_ret (ve_callB (cr_sumA rfl) cs_sum (by rfl) T.z_sum (by decide +kernel) (va_cons (vx_of (ve_lc rfl nd (vi_range2 (by rfl) T.z_range (va_cons (vx_of ve_int) (va_cons (vx_of (ve_op op_addA os_add (vx_slot 1) (vx_of ve_int))) va_nil))) (blkOk_by (own := [("j", 2)]) (by kernel_rfl)) (fun _ _ _ _ _ => (vg_name 2 nd)) (fun _ _ _ _ _ => vts_nil) (fun _ _ _ _ _ => (ve_op op_mulA os_mul (vx_of (ve_cal C_sign_of_1 hr pxs0 (va_cons (vx_of (ve_op op_sub os_I0 (vx_slot 2) (vx_of ve_int))) va_nil))) (vx_of (ve_ix ix_seq os_ix (vx_slot 0) (vx_slot 2))))))) va_nil))))))
/-! ### at_least -/
abbrev s_at_least : Stmt := topS 25
theorem sc_at_least : FnScope ["sums", "least", "j"] ["sums", "least"] (defScope s_at_least) := ⟨rfl, rfl, rfl, by decide +kernel, rfl, by decide +kernel, by decide +kernel⟩
noncomputable def b_at_least : DE → SRes := (sCons (sExpr (eCall G_need_sums [] (aCons (xSlot 0) aNil)))
      (sCons (sIf (tNotF (tOfE (eCallK G_is_whole [some 0, some 1] [] (aCons (xSlot 1) aNil) (aCons (xOf (eC (.int 1))) (aCons (xOf (eOp2 dSub (xOf (eBlt (d1 dLen) (aCons (xSlot 0) aNil))) (xOf (eC (.int 1))))) aNil))))) (fun _ => .stuck) sNil)
      (sRet (eBlt (d1 dSum) (aCons (xOf (eLc [2] (iRng2f (aCons (xSlot 1) (aCons (xOf (eBlt (d1 dLen) (aCons (xSlot 0) aNil))) aNil))) (gN 2) tYesF (eOp2 dMul (xOf (eOp2 dMul (xOf (eCall G_sign_of [] (aCons (xOf (eOp2 dSub (xSlot 2) (xSlot 1))) aNil))) (xOf (eCall G_out_of [] (aCons (xOf (eOp2 dSub (xSlot 2) (xOf (eC (.int 1))))) (aCons (xOf (eOp2 dSub (xSlot 1) (xOf (eC (.int 1))))) aNil)))))) (xOf (eOp2 dIx (xSlot 0) (xSlot 2)))))) aNil)))))
noncomputable def G_at_least : List D → FR := fnG [0, 1] 2 3 b_at_least
theorem ok_at_least {f : Addr} {fd : FuncData} (F : FunD K "at_least" "at_least" (defArgs s_at_least) (defBody s_at_least) (defScope s_at_least) [] [] f fd) (T : Txt mg) (C_need_sums_1 : Cal P w K mg base "need_sums" 2 1 [] G_need_sums) (KC_is_whole_1_least_most : KCal P w K mg base "is_whole" 1 3 1 ["least", "most"] [some 0, some 1] [] G_is_whole) (C_sign_of_1 : Cal P w K mg base "sign_of" 1 1 [] G_sign_of) (C_out_of_2 : Cal P w K mg base "out_of" 1 2 [] G_out_of) : FnOk P w K mg base (L2.CX P w) 3 f fd ["sums", "least"] (spG K 2 G_at_least) := by
  have nd := sc_at_least.nd
  exact fn_ok F sc_at_least fun cdv A outer s H E hr => (vss_cons (vs_expr (ve_cal C_need_sums_1 hr px_def (va_cons (vx_slot 0) va_nil)))
      (vss_cons (vs_if (vt_not (vt_val (ve_kcal KC_is_whole_1_least_most hr px_def (va_cons (vx_slot 1) va_nil) (vk_cons ve_int (vk_cons (ve_op op_sub os_I0 (vx_of (ve_callB call_lenA cs_len (by rfl) T.z_len (by decide +kernel) (va_cons (vx_slot 0) va_nil))) (vx_of ve_int)) vk_nil))))) (vss_one vs_never) vss_nil)
      (vss_one (vs_ret (ve_callB (cr_sumA rfl) cs_sum (by rfl) T.z_sum (by decide +kernel) (va_cons (vx_of (ve_lc rfl nd (vi_range2 (by rfl) T.z_range (va_cons (vx_slot 1) (va_cons (vx_of (ve_callB call_lenA cs_len (by rfl) T.z_len (by decide +kernel) (va_cons (vx_slot 0) va_nil))) va_nil))) (blkOk_by (own := [("j", 2)]) (by kernel_rfl)) (fun _ _ _ _ _ => (vg_name 2 nd)) (fun _ _ _ _ _ => vts_nil) (fun _ _ _ _ _ => (ve_op op_mulA os_mul (vx_of (ve_op op_mulA os_mul (vx_of (ve_cal C_sign_of_1 hr pxs0 (va_cons (vx_of (ve_op op_sub os_I0 (vx_slot 2) (vx_slot 1))) va_nil))) (vx_of (ve_cal C_out_of_2 hr pxs0 (va_cons (vx_of (ve_op op_sub os_I0 (vx_slot 2) (vx_of ve_int))) (va_cons (vx_of (ve_op op_sub os_I0 (vx_slot 1) (vx_of ve_int))) va_nil)))))) (vx_of (ve_ix ix_seq os_ix (vx_slot 0) (vx_slot 2))))))) va_nil))))))
/-! ### _law_crock -/
abbrev s__law_crock : Stmt := topS 27
theorem sc__law_crock : FnScope ["script", "spot", "cell", "great"] ["script", "spot"] (defScope s__law_crock) := ⟨rfl, rfl, rfl, by decide +kernel, rfl, by decide +kernel, by decide +kernel⟩
noncomputable def b__law_crock : DE → SRes := (sCons (sSet 2 (eIf (tOfE (eOp2 dLt (xSlot 1) (xOf (eBlt (d1 dLen) (aCons (xSlot 0) aNil))))) (eBlt (d1 dInt) (aCons (xOf (eOp2 dIx (xSlot 0) (xSlot 1))) aNil)) (eOp2 dAdd (xOf (eOp2 dMul (xOf (eC (.int 967))) (xSlot 1))) (xOf (eC (.int 83))))))
      (sCons (sSet 3 (eOp2 dMod (xOf (eBlt (d1 dInt) (aCons (xOf (eBlt (d1 dAbs) (aCons (xSlot 2) aNil))) aNil))) (xOf (eOp2 dPow (xOf (eOp2 dPow (xOf (eC (.int 10))) (xOf (eC (.int 58))))) (xOf (eC (.int 5)))))))
      (sRet (eLst (aCons (xOf (eBlt dMax (aCons (xOf (eC (.int 0))) (aCons (xOf (eOp2 dSub (xSlot 3) (xOf (eOp2 dPow (xOf (eC (.int 10))) (xOf (eC (.int 17))))))) aNil)))) (aCons (xOf (eOp2 dAdd (xOf (eOp2 dAdd (xOf (eOp2 dAdd (xOf (eOp2 dMul (xOf (eOp2 dMod (xOf (eBlt (d1 dInt) (aCons (xSlot 3) aNil))) (xOf (eC (.int 2305843009213693907))))) (xOf (eC (.int 101))))) (xOf (eOp2 dMul (xOf (eC (.int 1171))) (xSlot 1))))) (xOf (eOp2 dMul (xOf (eC (.int 43))) (xOf (eBlt (d1 dInt) (aCons (xOf (eOp2 dLt (xSlot 2) (xOf (eC (.int 0))))) aNil))))))) (xOf (eC (.int 19))))) (aCons (xOf (eC (.int 0))) aNil)))))))
noncomputable def G__law_crock : List D → FR := fnG [0, 1] 2 4 b__law_crock
theorem ok__law_crock {f : Addr} {fd : FuncData} (F : FunD K "_law_crock" "_law_crock" (defArgs s__law_crock) (defBody s__law_crock) (defScope s__law_crock) [] [] f fd) (T : Txt mg)  : FnOk P w K mg base (L2.CX P w) 1 f fd ["script", "spot"] (spG K 2 G__law_crock) := by
  have nd := sc__law_crock.nd
  exact fn_ok F sc__law_crock fun cdv A outer s H E hr => (vss_cons (vs_set 2 (ve_if (vt_cmp op_ltI os_cmpI (vx_slot 1) (vx_of (ve_callB call_lenA cs_len (by rfl) T.z_len (by decide +kernel) (va_cons (vx_slot 0) va_nil))) (nomark _)) (ve_callTy call_int1 cs_int (by rfl) T.z_int (by decide +kernel) (va_cons (vx_of (ve_ix ix_seq os_ix (vx_slot 0) (vx_slot 1))) va_nil)) (ve_op op_addA os_add (vx_of (ve_op op_mulA os_mul (vx_of ve_int) (vx_slot 1))) (vx_of ve_int))) nd)
      (vss_cons (vs_set 3 (ve_op op_mod os_mod (vx_of (ve_callTy call_int1 cs_int (by rfl) T.z_int (by decide +kernel) (va_cons (vx_of (ve_callB call_abs cs_abs (by rfl) T.z_abs (by decide +kernel) (va_cons (vx_slot 2) va_nil))) va_nil))) (vx_of (ve_op op_powW os_pow (vx_of (ve_op op_powW os_pow (vx_of ve_int) (vx_of ve_int))) (vx_of ve_int)))) nd)
      (vss_one (vs_ret (ve_lst (va_cons (vx_of (ve_callB (call_maxA rfl) cs_max (by rfl) T.z_max (by decide +kernel) (va_cons (vx_of ve_int) (va_cons (vx_of (ve_op op_sub os_I0 (vx_slot 3) (vx_of (ve_op op_powW os_pow (vx_of ve_int) (vx_of ve_int))))) va_nil)))) (va_cons (vx_of (ve_op op_addA os_add (vx_of (ve_op op_addA os_add (vx_of (ve_op op_addA os_add (vx_of (ve_op op_mulA os_mul (vx_of (ve_op op_mod os_mod (vx_of (ve_callTy call_int1 cs_int (by rfl) T.z_int (by decide +kernel) (va_cons (vx_slot 3) va_nil))) (vx_of ve_int))) (vx_of ve_int))) (vx_of (ve_op op_mulA os_mul (vx_of ve_int) (vx_slot 1))))) (vx_of (ve_op op_mulA os_mul (vx_of ve_int) (vx_of (ve_callTy call_int1 cs_int (by rfl) T.z_int (by decide +kernel) (va_cons (vx_of (ve_cmp op_ltI os_cmpI (vx_slot 2) (vx_of ve_int) (nomark _))) va_nil))))))) (vx_of ve_int))) (va_cons (vx_of ve_int) va_nil))))))))
/-! ### _law_ladle -/
abbrev s__law_ladle : Stmt := topS 28
theorem sc__law_ladle : FnScope ["crock", "total", "found", "one", "two"] ["crock", "total"] (defScope s__law_ladle) := ⟨rfl, rfl, rfl, by decide +kernel, rfl, by decide +kernel, by decide +kernel⟩
noncomputable def b__law_ladle : DE → SRes := (sCons (sIf (tOfE (eOp2 dGt (xOf (eOp2 dIx (xSlot 0) (xOf (eC (.int 0))))) (xOf (eC (.int 0))))) (sCons (sSet 2 (eOp2 dMod (xOf (eBlt (d1 dInt) (aCons (xOf (eOp2 dIx (xSlot 0) (xOf (eC (.int 0))))) aNil))) (xSlot 1)))
      (sCons (sAsg (eOp2 dFdiv (xOf (eOp2 dIx (xSlot 0) (xOf (eC (.int 0))))) (xSlot 1)) (gIx 0 (xOf (eC (.int 0)))))
      (sRet (eMove 2)))) sNil)
      (sCons (sAsg (eOp2 dAdd (xOf (eOp2 dIx (xSlot 0) (xOf (eC (.int 2))))) (xOf (eC (.int 1)))) (gIx 0 (xOf (eC (.int 2)))))
      (sCons (sSet 3 (eOp2 dMod (xOf (eBlt (d1 dInt) (aCons (xOf (eOp2 dAdd (xOf (eOp2 dIx (xSlot 0) (xOf (eC (.int 1))))) (xOf (eOp2 dMul (xOf (eC (.int 86028121))) (xOf (eOp2 dIx (xSlot 0) (xOf (eC (.int 2))))))))) aNil))) (xOf (eC (.int 2305843009213693951)))))
      (sCons (sSet 4 (eOp2 dAdd (xOf (eOp2 dMul (xOf (eOp2 dMod (xOf (eBlt (d1 dInt) (aCons (xOf (eOp2 dAdd (xOf (eOp2 dMul (xSlot 3) (xSlot 3))) (xOf (eOp2 dMul (xOf (eC (.int 271))) (xOf (eOp2 dIx (xSlot 0) (xOf (eC (.int 2))))))))) aNil))) (xOf (eC (.int 2305843009213693921))))) (xOf (eC (.int 5915587277))))) (xSlot 3)))
      (sRet (eOp2 dMod (xOf (eBlt (d1 dInt) (aCons (xOf (eOp2 dFdiv (xSlot 4) (xOf (eC (.int 65543))))) aNil))) (xSlot 1)))))))
noncomputable def G__law_ladle : List D → FR := fnG [0, 1] 2 5 b__law_ladle
theorem ok__law_ladle {f : Addr} {fd : FuncData} (F : FunD K "_law_ladle" "_law_ladle" (defArgs s__law_ladle) (defBody s__law_ladle) (defScope s__law_ladle) [] [] f fd) (T : Txt mg)  : FnOk P w K mg base (L2.CX P w) 1 f fd ["crock", "total"] (spG K 2 G__law_ladle) := by
  have nd := sc__law_ladle.nd
  exact fn_ok F sc__law_ladle fun cdv A outer s H E hr => (vss_cons (vs_if (vt_cmp op_gtI os_cmpI (vx_of (ve_ix ix_seq os_ix (vx_slot 0) (vx_of ve_int))) (vx_of ve_int) (nomark _)) (vss_cons (vs_set 2 (ve_op op_mod os_mod (vx_of (ve_callTy call_int1 cs_int (by rfl) T.z_int (by decide +kernel) (va_cons (vx_of (ve_ix ix_seq os_ix (vx_slot 0) (vx_of ve_int))) va_nil))) (vx_slot 1)) nd)
      (vss_cons (vs_asg (ve_op op_fdivW os_fdiv (vx_of (ve_ix ix_seq os_ix (vx_slot 0) (vx_of ve_int))) (vx_slot 1)) (vg_ix (W := W0) 0 (vx_of ve_int)))
      (vss_one (vs_ret (ve_move 2))))) vss_nil)
      (vss_cons (vs_asg (ve_op op_addA os_add (vx_of (ve_ix ix_seq os_ix (vx_slot 0) (vx_of ve_int))) (vx_of ve_int)) (vg_ix (W := W0) 0 (vx_of ve_int)))
      (vss_cons (vs_set 3 (ve_op op_mod os_mod (vx_of (ve_callTy call_int1 cs_int (by rfl) T.z_int (by decide +kernel) (va_cons (vx_of (ve_op op_addA os_add (vx_of (ve_ix ix_seq os_ix (vx_slot 0) (vx_of ve_int))) (vx_of (ve_op op_mulA os_mul (vx_of ve_int) (vx_of (ve_ix ix_seq os_ix (vx_slot 0) (vx_of ve_int))))))) va_nil))) (vx_of ve_int)) nd)
      (vss_cons (vs_set 4 (ve_op op_addA os_add (vx_of (ve_op op_mulA os_mul (vx_of (ve_op op_mod os_mod (vx_of (ve_callTy call_int1 cs_int (by rfl) T.z_int (by decide +kernel) (va_cons (vx_of (ve_op op_addA os_add (vx_of (ve_op op_mulA os_mul (vx_slot 3) (vx_slot 3))) (vx_of (ve_op op_mulA os_mul (vx_of ve_int) (vx_of (ve_ix ix_seq os_ix (vx_slot 0) (vx_of ve_int))))))) va_nil))) (vx_of ve_int))) (vx_of ve_int))) (vx_slot 3)) nd)
      (vss_one (vs_ret (ve_op op_mod os_mod (vx_of (ve_callTy call_int1 cs_int (by rfl) T.z_int (by decide +kernel) (va_cons (vx_of (ve_op op_fdivW os_fdiv (vx_slot 4) (vx_of ve_int))) va_nil))) (vx_slot 1))))))))
/-! ### _law_lots -/
abbrev s__law_lots : Stmt := topS 29
theorem sc__law_lots : FnScope ["many", "found", "layer", "later", "lot", "at"] ["many"] (defScope s__law_lots) := ⟨rfl, rfl, rfl, by decide +kernel, rfl, by decide +kernel, by decide +kernel⟩
noncomputable def b__law_lots : DE → SRes := (sCons (sPar2 1 2 (aCons (xOf (eLst (aCons (xOf (eTup aNil)) aNil))) (aCons (xOf (eLst (aCons (xOf (eTup aNil)) aNil))) aNil)))
      (sCons (sWhile (tOfE (eOp2 (dEq true) (xSlot 2) (xOf (eLst aNil)))) (sCons (sSet 3 (eLst aNil))
      (sCons (sFor (iVal (eUse 2)) (gN 4) (sExpr (eExt 3 (eLc [5] (iRng2f (aCons (xOf (eIf (tOfE (eOp2 (dEq true) (xSlot 4) (xOf (eTup aNil)))) (eOp2 dAdd (xOf (eOp2 dIx (xSlot 4) (xOf (eUn dNeg (xOf (eC (.int 1))))))) (xOf (eC (.int 1)))) (eC (.int 0)))) (aCons (xSlot 0) aNil))) (gN 5) tYesF (eOp2 dAdd (xSlot 4) (xOf (eTup (aCons (xOf (eUse 5)) aNil))))))))
      (sPar2 1 2 (aCons (xOf (eOp2 dAdd (xSlot 1) (xSlot 3))) (aCons (xOf (eBlt (d1 dList) (aCons (xSlot 3) aNil))) aNil))))))
      (sRet (eMove 1))))
noncomputable def G__law_lots : List D → FR := fnG [0] 1 6 b__law_lots
theorem ok__law_lots {f : Addr} {fd : FuncData} (F : FunD K "_law_lots" "_law_lots" (defArgs s__law_lots) (defBody s__law_lots) (defScope s__law_lots) [] [] f fd) (T : Txt mg)  : FnOk P w K mg base (L2.CX P w) 1 f fd ["many"] (spG K 1 G__law_lots) := by
  have nd := sc__law_lots.nd
  exact fn_ok F sc__law_lots fun cdv A outer s H E hr => (vss_cons (vs_par2 1 2 nd (va_cons (vx_of (ve_lst (va_cons (vx_of (ve_tup va_nil)) va_nil))) (va_cons (vx_of (ve_lst (va_cons (vx_of (ve_tup va_nil)) va_nil))) va_nil)))
      (vss_cons (vs_while po_def (vt_cmp (op_neD hr.units) os_ne (vx_slot 2) (vx_of (ve_lst va_nil)) (nomark _)) (vss_cons (vs_set 3 (ve_lst va_nil) nd)
      (vss_cons (vs_for po_def rfl (vi_val (ve_use 2)) (vg_name 4 nd) (vss_one (vs_expr (ve_extend 3 (ve_lc rfl nd (vi_range2 (by rfl) T.z_range (va_cons (vx_of (ve_if (vt_cmp (op_neD hr.units) os_ne (vx_slot 4) (vx_of (ve_tup va_nil)) (nomark _)) (ve_op op_addA os_add (vx_of (ve_ix ix_seq os_ix (vx_slot 4) (vx_of (ve_un un_neg us_neg (vx_of ve_int))))) (vx_of ve_int)) ve_int)) (va_cons (vx_slot 0) va_nil))) (blkOk_by (own := [("at", 5)]) (by kernel_rfl)) (fun _ _ _ _ _ => (vg_name 5 nd)) (fun _ _ _ _ _ => vts_nil) (fun _ _ _ _ _ => (ve_op op_addA os_add (vx_slot 4) (vx_of (ve_tup (va_cons (vx_of (ve_use 5)) va_nil))))))))))
      (vss_one (vs_par2 1 2 nd (va_cons (vx_of (ve_op op_addA os_add (vx_slot 1) (vx_slot 3))) (va_cons (vx_of (ve_callTy call_list_of cs_list (by rfl) T.z_list (by decide +kernel) (va_cons (vx_slot 3) va_nil))) va_nil)))))))
      (vss_one (vs_ret (ve_move 1)))))
/-! ### _law_out_of -/
abbrev s__law_out_of : Stmt := topS 30
theorem sc__law_out_of : FnScope ["many", "few", "found", "at"] ["many", "few"] (defScope s__law_out_of) := ⟨rfl, rfl, rfl, by decide +kernel, rfl, by decide +kernel, by decide +kernel⟩
noncomputable def b__law_out_of : DE → SRes := (sCons (sSet 2 (eC (.int 1)))
      (sCons (sFor (iRng1f (aCons (xSlot 1) aNil)) (gN 3) (sSet 2 (eOp2 dFdiv (xOf (eOp2 dMul (xSlot 2) (xOf (eOp2 dSub (xSlot 0) (xSlot 3))))) (xOf (eOp2 dAdd (xSlot 3) (xOf (eC (.int 1))))))))
      (sRet (eIf (tOfE (eOp2 dLe (xSlot 1) (xSlot 0))) (eUse 2) (eC (.int 0))))))
noncomputable def G__law_out_of : List D → FR := fnG [0, 1] 2 4 b__law_out_of
theorem ok__law_out_of {f : Addr} {fd : FuncData} (F : FunD K "_law_out_of" "_law_out_of" (defArgs s__law_out_of) (defBody s__law_out_of) (defScope s__law_out_of) [] [] f fd) (T : Txt mg)  : FnOk P w K mg base (L2.CX P w) 1 f fd ["many", "few"] (spG K 2 G__law_out_of) := by
  have nd := sc__law_out_of.nd
  exact fn_ok F sc__law_out_of fun cdv A outer s H E hr => (vss_cons (vs_set 2 ve_int nd)
      (vss_cons (vs_for po_def rfl (vi_range1 (by rfl) T.z_range (va_cons (vx_slot 1) va_nil)) (vg_name 3 nd) (vss_one (vs_set 2 (ve_op op_fdivW os_fdiv (vx_of (ve_op op_mulA os_mul (vx_slot 2) (vx_of (ve_op op_sub os_I0 (vx_slot 0) (vx_slot 3))))) (vx_of (ve_op op_addA os_add (vx_slot 3) (vx_of ve_int)))) nd)))
      (vss_one (vs_ret (ve_if (vt_cmp op_leI os_cmpI (vx_slot 1) (vx_slot 0) (nomark _)) (ve_use 2) ve_int)))))
/-! ### _law_sets -/
abbrev s__law_sets : Stmt := topS 31
theorem sc__law_sets : FnScope ["crock", "things", "many", "found", "one", "most", "thing"] ["crock", "things", "many"] (defScope s__law_sets) := ⟨rfl, rfl, rfl, by decide +kernel, rfl, by decide +kernel, by decide +kernel⟩
noncomputable def b__law_sets : DE → SRes := (sCons (sSet 3 (eLst aNil))
      (sCons (sFor (iRng1f (aCons (xOf (eOp2 dAdd (xOf (eC (.int 1))) (xOf (eCall G__law_ladle [] (aCons (xSlot 0) (aCons (xSlot 2) aNil)))))) aNil)) (gN 4) (sCons (sSet 5 (eOp2 dAdd (xOf (eC (.int 2))) (xOf (eCall G__law_ladle [] (aCons (xSlot 0) (aCons (xOf (eC (.int 3))) aNil))))))
      (sExpr (eApp 3 (eBlt (d1 dTuple) (aCons (xOf (eLc [6] (iRng1f (aCons (xSlot 1) aNil)) (gN 6) (tOfE (eOp2 (dEq false) (xOf (eCall G__law_ladle [] (aCons (xSlot 0) (aCons (xSlot 5) aNil)))) (xOf (eC (.int 0))))) (eUse 6))) aNil))))))
      (sRet (eBlt (d1 dTuple) (aCons (xSlot 3) aNil)))))
noncomputable def G__law_sets : List D → FR := fnG [0, 1, 2] 3 7 b__law_sets
theorem ok__law_sets {f : Addr} {fd : FuncData} (F : FunD K "_law_sets" "_law_sets" (defArgs s__law_sets) (defBody s__law_sets) (defScope s__law_sets) [] [] f fd) (T : Txt mg) (C__law_ladle_2 : Cal P w K mg base "_law_ladle" 1 2 [] G__law_ladle) : FnOk P w K mg base (L2.CX P w) 2 f fd ["crock", "things", "many"] (spG K 3 G__law_sets) := by
  have nd := sc__law_sets.nd
  exact fn_ok F sc__law_sets fun cdv A outer s H E hr => (vss_cons (vs_set 3 (ve_lst va_nil) nd)
      (vss_cons (vs_for po_def rfl (vi_range1 (by rfl) T.z_range (va_cons (vx_of (ve_op op_addA os_add (vx_of ve_int) (vx_of (ve_cal C__law_ladle_2 hr px_def (va_cons (vx_slot 0) (va_cons (vx_slot 2) va_nil)))))) va_nil)) (vg_name 4 nd) (vss_cons (vs_set 5 (ve_op op_addA os_add (vx_of ve_int) (vx_of (ve_cal C__law_ladle_2 hr px_def (va_cons (vx_slot 0) (va_cons (vx_of ve_int) va_nil))))) nd)
      (vss_one (vs_expr (ve_append 3 (ve_callTy call_tuple_of cs_tuple (by rfl) T.z_tuple (by decide +kernel) (va_cons (vx_of (ve_lc rfl nd (vi_range1 (by rfl) T.z_range (va_cons (vx_slot 1) va_nil)) (blkOk_by (own := [("thing", 6)]) (by kernel_rfl)) (fun _ _ _ _ _ => (vg_name 6 nd)) (fun _ _ _ _ _ => (vts_one (vt_cmp (op_eqD hr.units) os_eq (vx_of (ve_cal C__law_ladle_2 hr pxs0 (va_cons (vx_slot 0) (va_cons (vx_slot 5) va_nil)))) (vx_of ve_int) (nomark _)))) (fun _ _ _ _ _ => (ve_use 6)))) va_nil)))))))
      (vss_one (vs_ret (ve_callTy call_tuple_of cs_tuple (by rfl) T.z_tuple (by decide +kernel) (va_cons (vx_slot 3) va_nil))))))
/-! ### _law_meets -/
abbrev s__law_meets : Stmt := topS 32
theorem sc__law_meets : FnScope ["things", "sets", "found", "lot", "both", "thing", "at"] ["things", "sets"] (defScope s__law_meets) := ⟨rfl, rfl, rfl, by decide +kernel, rfl, by decide +kernel, by decide +kernel⟩
noncomputable def b__law_meets : DE → SRes := (sCons (sSet 2 (eOp2 dMul (xOf (eLst (aCons (xOf (eC (.int 0))) aNil))) (xOf (eOp2 dAdd (xOf (eBlt (d1 dLen) (aCons (xSlot 1) aNil))) (xOf (eC (.int 1)))))))
      (sCons (sFor (iVal (eCall G__law_lots [] (aCons (xOf (eBlt (d1 dLen) (aCons (xSlot 1) aNil))) aNil))) (gN 3) (sCons (sSet 4 (eLc [5] (iRng1f (aCons (xSlot 0) aNil)) (gN 5) (tOfE (eOp2 (dEq false) (xOf (eLc [6] (iSlot 3) (gN 6) (tOfE (eOp2 (dIn true) (xSlot 5) (xOf (eOp2 dIx (xSlot 1) (xSlot 6))))) (eC (.int 1)))) (xOf (eLst aNil)))) (eUse 5)))
      (sAsg (eOp2 dAdd (xOf (eOp2 dIx (xSlot 2) (xOf (eBlt (d1 dLen) (aCons (xSlot 3) aNil))))) (xOf (eBlt (d1 dLen) (aCons (xSlot 4) aNil)))) (gIx 2 (xOf (eBlt (d1 dLen) (aCons (xSlot 3) aNil)))))))
      (sRet (eBlt (d1 dTuple) (aCons (xSlot 2) aNil)))))
noncomputable def G__law_meets : List D → FR := fnG [0, 1] 2 7 b__law_meets
theorem ok__law_meets {f : Addr} {fd : FuncData} (F : FunD K "_law_meets" "_law_meets" (defArgs s__law_meets) (defBody s__law_meets) (defScope s__law_meets) [] [] f fd) (T : Txt mg) (C__law_lots_1 : Cal P w K mg base "_law_lots" 1 1 [] G__law_lots) : FnOk P w K mg base (L2.CX P w) 2 f fd ["things", "sets"] (spG K 2 G__law_meets) := by
  have nd := sc__law_meets.nd
  exact fn_ok F sc__law_meets fun cdv A outer s H E hr => (vss_cons (vs_set 2 (ve_op op_mulA os_mul (vx_of (ve_lst (va_cons (vx_of ve_int) va_nil))) (vx_of (ve_op op_addA os_add (vx_of (ve_callB call_lenA cs_len (by rfl) T.z_len (by decide +kernel) (va_cons (vx_slot 1) va_nil))) (vx_of ve_int)))) nd)
      (vss_cons (vs_for po_def rfl (vi_val (ve_cal C__law_lots_1 hr px_def (va_cons (vx_of (ve_callB call_lenA cs_len (by rfl) T.z_len (by decide +kernel) (va_cons (vx_slot 1) va_nil))) va_nil))) (vg_name 3 nd) (vss_cons (vs_setLc 4 rfl nd (vi_range1 (by rfl) T.z_range (va_cons (vx_slot 0) va_nil)) (blkOk_by (own := [("thing", 5)]) (by kernel_rfl)) (fun _ _ _ _ _ => (vg_name 5 nd)) (fun _ _ _ _ _ => (vts_one (vt_cmp (op_eqD hr.units) os_eq (vx_of (ve_lc rfl nd (vi_slot 3) (blkOk_by (own := [("at", 6)]) (by kernel_rfl)) (fun _ _ _ _ _ => (vg_name 6 nd)) (fun _ _ _ _ _ => (vts_one (vt_cmp op_notIn_seq os_in (vx_slot 5) (vx_of (ve_ix ix_seq os_ix (vx_slot 1) (vx_slot 6))) (by rfl)))) (fun _ _ _ _ _ => ve_int))) (vx_of (ve_lst va_nil)) (nomark _)))) (fun _ _ _ _ _ => (ve_use 5)))
      (vss_one (vs_asg (ve_op op_addA os_add (vx_of (ve_ix ix_seq os_ix (vx_slot 2) (vx_of (ve_callB call_lenA cs_len (by rfl) T.z_len (by decide +kernel) (va_cons (vx_slot 3) va_nil))))) (vx_of (ve_callB call_lenA cs_len (by rfl) T.z_len (by decide +kernel) (va_cons (vx_slot 4) va_nil)))) (vg_ix (W := W0) 2 (vx_of (ve_callB call_lenA cs_len (by rfl) T.z_len (by decide +kernel) (va_cons (vx_slot 3) va_nil))))))))
      (vss_one (vs_ret (ve_callTy call_tuple_of cs_tuple (by rfl) T.z_tuple (by decide +kernel) (va_cons (vx_slot 2) va_nil))))))
/-! ### _law_just -/
abbrev s__law_just : Stmt := topS 33
theorem sc__law_just : FnScope ["things", "sets", "found", "thing", "many", "one"] ["things", "sets"] (defScope s__law_just) := ⟨rfl, rfl, rfl, by decide +kernel, rfl, by decide +kernel, by decide +kernel⟩
noncomputable def b__law_just : DE → SRes := (sCons (sSet 2 (eOp2 dMul (xOf (eLst (aCons (xOf (eC (.int 0))) aNil))) (xOf (eOp2 dAdd (xOf (eBlt (d1 dLen) (aCons (xSlot 1) aNil))) (xOf (eC (.int 1)))))))
      (sCons (sFor (iRng1f (aCons (xSlot 0) aNil)) (gN 3) (sCons (sSet 4 (eBlt (d1 dLen) (aCons (xOf (eLc [5] (iSlot 1) (gN 5) (tOfE (eOp2 (dIn false) (xSlot 3) (xSlot 5))) (eC (.int 1)))) aNil)))
      (sAsg (eOp2 dAdd (xOf (eOp2 dIx (xSlot 2) (xSlot 4))) (xOf (eC (.int 1)))) (gIx 2 (xSlot 4)))))
      (sRet (eBlt (d1 dTuple) (aCons (xSlot 2) aNil)))))
noncomputable def G__law_just : List D → FR := fnG [0, 1] 2 6 b__law_just
theorem ok__law_just {f : Addr} {fd : FuncData} (F : FunD K "_law_just" "_law_just" (defArgs s__law_just) (defBody s__law_just) (defScope s__law_just) [] [] f fd) (T : Txt mg)  : FnOk P w K mg base (L2.CX P w) 1 f fd ["things", "sets"] (spG K 2 G__law_just) := by
  have nd := sc__law_just.nd
  exact fn_ok F sc__law_just fun cdv A outer s H E hr => (vss_cons (vs_set 2 (ve_op op_mulA os_mul (vx_of (ve_lst (va_cons (vx_of ve_int) va_nil))) (vx_of (ve_op op_addA os_add (vx_of (ve_callB call_lenA cs_len (by rfl) T.z_len (by decide +kernel) (va_cons (vx_slot 1) va_nil))) (vx_of ve_int)))) nd)
      (vss_cons (vs_for po_def rfl (vi_range1 (by rfl) T.z_range (va_cons (vx_slot 0) va_nil)) (vg_name 3 nd) (vss_cons (vs_set 4 (ve_callB call_lenA cs_len (by rfl) T.z_len (by decide +kernel) (va_cons (vx_of (ve_lc rfl nd (vi_slot 1) (blkOk_by (own := [("one", 5)]) (by kernel_rfl)) (fun _ _ _ _ _ => (vg_name 5 nd)) (fun _ _ _ _ _ => (vts_one (vt_cmp op_in_seq os_in (vx_slot 3) (vx_slot 5) (by rfl)))) (fun _ _ _ _ _ => ve_int))) va_nil)) nd)
      (vss_one (vs_asg (ve_op op_addA os_add (vx_of (ve_ix ix_seq os_ix (vx_slot 2) (vx_slot 4))) (vx_of ve_int)) (vg_ix (W := W0) 2 (vx_slot 4))))))
      (vss_one (vs_ret (ve_callTy call_tuple_of cs_tuple (by rfl) T.z_tuple (by decide +kernel) (va_cons (vx_slot 2) va_nil))))))
/-! ### _law_counts -/
abbrev s__law_counts : Stmt := topS 34
theorem sc__law_counts : FnScope ["sums", "found", "many", "r", "more", "j"] ["sums"] (defScope s__law_counts) := ⟨rfl, rfl, rfl, by decide +kernel, rfl, by decide +kernel, by decide +kernel⟩
noncomputable def b__law_counts : DE → SRes := (sCons (sPar (aCons (xOf (eOp2 dMul (xOf (eLst (aCons (xOf (eC (.int 0))) aNil))) (xOf (eBlt (d1 dLen) (aCons (xSlot 0) aNil))))) (aCons (xOf (eOp2 dSub (xOf (eBlt (d1 dLen) (aCons (xSlot 0) aNil))) (xOf (eC (.int 1))))) aNil)) (gsCons (gN 1) (gsCons (gN 2) gsNil)))
      (sCons (sFor (iRng3f (aCons (xSlot 2) (aCons (xOf (eUn dNeg (xOf (eC (.int 1))))) (aCons (xOf (eUn dNeg (xOf (eC (.int 1))))) aNil)))) (gN 3) (sCons (sSet 4 (eBlt (d1 dSum) (aCons (xOf (eLc [5] (iRng2f (aCons (xOf (eOp2 dAdd (xSlot 3) (xOf (eC (.int 1))))) (aCons (xOf (eOp2 dAdd (xSlot 2) (xOf (eC (.int 1))))) aNil))) (gN 5) tYesF (eOp2 dMul (xOf (eCall G__law_out_of [] (aCons (xSlot 5) (aCons (xSlot 3) aNil)))) (xOf (eOp2 dIx (xSlot 1) (xSlot 5)))))) aNil)))
      (sAsg (eOp2 dSub (xOf (eOp2 dIx (xSlot 0) (xSlot 3))) (xSlot 4)) (gIx 1 (xSlot 3)))))
      (sRet (eBlt (d1 dTuple) (aCons (xSlot 1) aNil)))))
noncomputable def G__law_counts : List D → FR := fnG [0] 1 6 b__law_counts
theorem ok__law_counts {f : Addr} {fd : FuncData} (F : FunD K "_law_counts" "_law_counts" (defArgs s__law_counts) (defBody s__law_counts) (defScope s__law_counts) [] [] f fd) (T : Txt mg) (C__law_out_of_2 : Cal P w K mg base "_law_out_of" 1 2 [] G__law_out_of) : FnOk P w K mg base (L2.CX P w) 2 f fd ["sums"] (spG K 1 G__law_counts) := by
  have nd := sc__law_counts.nd
  exact fn_ok F sc__law_counts fun cdv A outer s H E hr => (vss_cons (vs_tupasg rfl (va_cons (vx_of (ve_op op_mulA os_mul (vx_of (ve_lst (va_cons (vx_of ve_int) va_nil))) (vx_of (ve_callB call_lenA cs_len (by rfl) T.z_len (by decide +kernel) (va_cons (vx_slot 0) va_nil))))) (va_cons (vx_of (ve_op op_sub os_I0 (vx_of (ve_callB call_lenA cs_len (by rfl) T.z_len (by decide +kernel) (va_cons (vx_slot 0) va_nil))) (vx_of ve_int))) va_nil)) (vgs_cons (vg_name 1 nd) (vgs_cons (vg_name 2 nd) vgs_nil)) rfl)
      (vss_cons (vs_for po_def rfl (vi_range3 (by rfl) T.z_range (va_cons (vx_slot 2) (va_cons (vx_of (ve_un un_neg us_neg (vx_of ve_int))) (va_cons (vx_of (ve_un un_neg us_neg (vx_of ve_int))) va_nil)))) (vg_name 3 nd) (vss_cons (vs_set 4 (ve_callB (cr_sumA rfl) cs_sum (by rfl) T.z_sum (by decide +kernel) (va_cons (vx_of (ve_lc rfl nd (vi_range2 (by rfl) T.z_range (va_cons (vx_of (ve_op op_addA os_add (vx_slot 3) (vx_of ve_int))) (va_cons (vx_of (ve_op op_addA os_add (vx_slot 2) (vx_of ve_int))) va_nil))) (blkOk_by (own := [("j", 5)]) (by kernel_rfl)) (fun _ _ _ _ _ => (vg_name 5 nd)) (fun _ _ _ _ _ => vts_nil) (fun _ _ _ _ _ => (ve_op op_mulA os_mul (vx_of (ve_cal C__law_out_of_2 hr pxs0 (va_cons (vx_slot 5) (va_cons (vx_slot 3) va_nil)))) (vx_of (ve_ix ix_seq os_ix (vx_slot 1) (vx_slot 5))))))) va_nil)) nd)
      (vss_one (vs_asg (ve_op op_sub os_I0 (vx_of (ve_ix ix_seq os_ix (vx_slot 0) (vx_slot 3))) (vx_slot 4)) (vg_ix (W := W0) 1 (vx_slot 3))))))
      (vss_one (vs_ret (ve_callTy call_tuple_of cs_tuple (by rfl) T.z_tuple (by decide +kernel) (va_cons (vx_slot 1) va_nil))))))
/-! ### _law_right -/
abbrev s__law_right : Stmt := topS 35
theorem sc__law_right : FnScope ["crock", "things", "sets", "sums", "just", "union", "total", "many", "any_sums", "counts", "at"] ["crock"] (defScope s__law_right) := ⟨rfl, rfl, rfl, by decide +kernel, rfl, by decide +kernel, by decide +kernel⟩
noncomputable def b__law_right : DE → SRes := (sCons (sSet 1 (eCall G__law_ladle [] (aCons (xSlot 0) (aCons (xOf (eC (.int 13))) aNil))))
      (sCons (sSet 2 (eCall G__law_sets [] (aCons (xSlot 0) (aCons (xSlot 1) (aCons (xOf (eC (.int 5))) aNil)))))
      (sCons (sPar2 3 4 (aCons (xOf (eCall G__law_meets [] (aCons (xSlot 1) (aCons (xSlot 2) aNil)))) (aCons (xOf (eCall G__law_just [] (aCons (xSlot 1) (aCons (xSlot 2) aNil)))) aNil)))
      (sCons (sIf (tOrF (tOfE (eOp2 (dEq true) (xOf (eCall G_meet_sums [] (aCons (xSlot 1) (aCons (xSlot 2) aNil)))) (xSlot 3))) (tOfE (eOp2 (dEq true) (xOf (eCall G_just_counts [] (aCons (xSlot 1) (aCons (xSlot 2) aNil)))) (xSlot 4)))) (sRet (eC (.bl false))) sNil)
      (sCons (sIf (tOrF (tOfE (eOp2 (dEq true) (xOf (eCall G_counts_of [] (aCons (xSlot 3) aNil))) (xSlot 4))) (tOfE (eOp2 (dEq true) (xOf (eCall G_sums_of [] (aCons (xSlot 4) aNil))) (xSlot 3)))) (sRet (eC (.bl false))) sNil)
      (sCons (sPar2 5 6 (aCons (xOf (eOp2 dSub (xSlot 1) (xOf (eOp2 dIx (xSlot 4) (xOf (eC (.int 0))))))) (aCons (xOf (eC (.int 0))) aNil)))
      (sCons (sFor (iRng2f (aCons (xOf (eC (.int 1))) (aCons (xOf (eBlt (d1 dLen) (aCons (xSlot 3) aNil))) aNil))) (gN 7) (sCons (sSet 6 (eOp2 dAdd (xSlot 6) (xOf (eIf (tOfE (eOp2 (dEq false) (xOf (eOp2 dMod (xOf (eBlt (d1 dInt) (aCons (xSlot 7) aNil))) (xOf (eC (.int 2))))) (xOf (eC (.int 1))))) (eOp2 dIx (xSlot 3) (xSlot 7)) (eOp2 dSub (xOf (eC (.int 0))) (xOf (eOp2 dIx (xSlot 3) (xSlot 7))))))))
      (sCons (sIf (tOrF (tOfE (eOp2 (dEq true) (xOf (eCall G_ended [] (aCons (xSlot 3) (aCons (xSlot 7) aNil)))) (xSlot 6))) (tOrF (tAndF (tOfE (eOp2 (dEq false) (xOf (eOp2 dMod (xOf (eBlt (d1 dInt) (aCons (xSlot 7) aNil))) (xOf (eC (.int 2))))) (xOf (eC (.int 1))))) (tOfE (eOp2 dLt (xSlot 6) (xSlot 5)))) (tAndF (tOfE (eOp2 (dEq false) (xOf (eOp2 dMod (xOf (eBlt (d1 dInt) (aCons (xSlot 7) aNil))) (xOf (eC (.int 2))))) (xOf (eC (.int 0))))) (tOfE (eOp2 dGt (xSlot 6) (xSlot 5)))))) (sRet (eC (.bl false))) sNil)
      (sIf (tOfE (eOp2 (dEq true) (xOf (eCall G_at_least [] (aCons (xSlot 3) (aCons (xSlot 7) aNil)))) (xOf (eBlt (d1 dSum) (aCons (xOf (eSl dSl (xSlot 4) (oAt (xSlot 7)) oNo)) aNil))))) (sRet (eC (.bl false))) sNil))))
      (sCons (sIf (tOfE (eOp2 (dEq true) (xOf (eCall G_ended [] (aCons (xSlot 3) (aCons (xOf (eOp2 dSub (xOf (eBlt (d1 dLen) (aCons (xSlot 3) aNil))) (xOf (eC (.int 1))))) aNil)))) (xSlot 5))) (sRet (eC (.bl false))) sNil)
      (sCons (sSet 8 (eBlt (d1 dTuple) (aCons (xOf (eLc [10] (iRng1f (aCons (xOf (eOp2 dAdd (xOf (eC (.int 2))) (xOf (eCall G__law_ladle [] (aCons (xSlot 0) (aCons (xOf (eC (.int 6))) aNil)))))) aNil)) (gN 10) tYesF (eOp2 dSub (xOf (eCall G__law_ladle [] (aCons (xSlot 0) (aCons (xOf (eOp2 dPow (xOf (eC (.int 10))) (xOf (eC (.int 9))))) aNil)))) (xOf (eOp2 dPow (xOf (eC (.int 10))) (xOf (eC (.int 8)))))))) aNil)))
      (sCons (sSet 9 (eCall G__law_counts [] (aCons (xSlot 8) aNil)))
      (sRet (eAnd (eOp2 (dEq false) (xOf (eCall G_counts_of [] (aCons (xSlot 8) aNil))) (xSlot 9)) (eOp2 (dEq false) (xOf (eCall G_sums_of [] (aCons (xSlot 9) aNil))) (xSlot 8))))))))))))))
noncomputable def G__law_right : List D → FR := fnG [0] 1 11 b__law_right
theorem ok__law_right {f : Addr} {fd : FuncData} (F : FunD K "_law_right" "_law_right" (defArgs s__law_right) (defBody s__law_right) (defScope s__law_right) [] [] f fd) (T : Txt mg) (C__law_ladle_2 : Cal P w K mg base "_law_ladle" 1 2 [] G__law_ladle) (C__law_sets_3 : Cal P w K mg base "_law_sets" 2 3 [] G__law_sets) (C__law_just_2 : Cal P w K mg base "_law_just" 1 2 [] G__law_just) (C__law_meets_2 : Cal P w K mg base "_law_meets" 2 2 [] G__law_meets) (C_meet_sums_2 : Cal P w K mg base "meet_sums" 4 2 [] G_meet_sums) (C_just_counts_2 : Cal P w K mg base "just_counts" 4 2 [] G_just_counts) (C_counts_of_1 : Cal P w K mg base "counts_of" 3 1 [] G_counts_of) (C_sums_of_1 : Cal P w K mg base "sums_of" 3 1 [] G_sums_of) (C_ended_2 : Cal P w K mg base "ended" 3 2 [] G_ended) (C_at_least_2 : Cal P w K mg base "at_least" 3 2 [] G_at_least) (C__law_counts_1 : Cal P w K mg base "_law_counts" 2 1 [] G__law_counts) : FnOk P w K mg base (L2.CX P w) 5 f fd ["crock"] (spG K 1 G__law_right) := by
  have nd := sc__law_right.nd
  exact fn_ok F sc__law_right fun cdv A outer s H E hr => (vss_cons (vs_set 1 (ve_cal C__law_ladle_2 hr px_def (va_cons (vx_slot 0) (va_cons (vx_of ve_int) va_nil))) nd)
      (vss_cons (vs_set 2 (ve_cal C__law_sets_3 hr px_def (va_cons (vx_slot 0) (va_cons (vx_slot 1) (va_cons (vx_of ve_int) va_nil)))) nd)
      (vss_cons (vs_par2 3 4 nd (va_cons (vx_of (ve_cal C__law_meets_2 hr px_def (va_cons (vx_slot 1) (va_cons (vx_slot 2) va_nil)))) (va_cons (vx_of (ve_cal C__law_just_2 hr px_def (va_cons (vx_slot 1) (va_cons (vx_slot 2) va_nil)))) va_nil)))
      (vss_cons (vs_if (vt_w (vw_or (vt_cmp (op_neD hr.units) os_ne (vx_of (ve_cal C_meet_sums_2 hr px_def (va_cons (vx_slot 1) (va_cons (vx_slot 2) va_nil)))) (vx_slot 3) (nomark _)) (vw_or1 (vt_cmp (op_neD hr.units) os_ne (vx_of (ve_cal C_just_counts_2 hr px_def (va_cons (vx_slot 1) (va_cons (vx_slot 2) va_nil)))) (vx_slot 4) (nomark _))))) (vss_one (vs_ret ve_bl)) vss_nil)
      (vss_cons (vs_if (vt_w (vw_or (vt_cmp (op_neD hr.units) os_ne (vx_of (ve_cal C_counts_of_1 hr px_def (va_cons (vx_slot 3) va_nil))) (vx_slot 4) (nomark _)) (vw_or1 (vt_cmp (op_neD hr.units) os_ne (vx_of (ve_cal C_sums_of_1 hr px_def (va_cons (vx_slot 4) va_nil))) (vx_slot 3) (nomark _))))) (vss_one (vs_ret ve_bl)) vss_nil)
      (vss_cons (vs_par2 5 6 nd (va_cons (vx_of (ve_op op_sub os_I0 (vx_slot 1) (vx_of (ve_ix ix_seq os_ix (vx_slot 4) (vx_of ve_int))))) (va_cons (vx_of ve_int) va_nil)))
      (vss_cons (vs_for po_def rfl (vi_range2 (by rfl) T.z_range (va_cons (vx_of ve_int) (va_cons (vx_of (ve_callB call_lenA cs_len (by rfl) T.z_len (by decide +kernel) (va_cons (vx_slot 3) va_nil))) va_nil))) (vg_name 7 nd) (vss_cons (vs_set 6 (ve_op op_addA os_add (vx_slot 6) (vx_of (ve_if (vt_cmp (op_eqD hr.units) os_eq (vx_of (ve_op op_mod os_mod (vx_of (ve_callTy call_int1 cs_int (by rfl) T.z_int (by decide +kernel) (va_cons (vx_slot 7) va_nil))) (vx_of ve_int))) (vx_of ve_int) (nomark _)) (ve_ix ix_seq os_ix (vx_slot 3) (vx_slot 7)) (ve_op op_sub os_I0 (vx_of ve_int) (vx_of (ve_ix ix_seq os_ix (vx_slot 3) (vx_slot 7))))))) nd)
      (vss_cons (vs_if (vt_w (vw_or (vt_cmp (op_neD hr.units) os_ne (vx_of (ve_cal C_ended_2 hr px_def (va_cons (vx_slot 3) (va_cons (vx_slot 7) va_nil)))) (vx_slot 6) (nomark _)) (vw_or (vt_w (vw_and (vt_cmp (op_eqD hr.units) os_eq (vx_of (ve_op op_mod os_mod (vx_of (ve_callTy call_int1 cs_int (by rfl) T.z_int (by decide +kernel) (va_cons (vx_slot 7) va_nil))) (vx_of ve_int))) (vx_of ve_int) (nomark _)) (vw_and1 (vt_cmp op_ltI os_cmpI (vx_slot 6) (vx_slot 5) (nomark _))))) (vw_or1 (vt_w (vw_and (vt_cmp (op_eqD hr.units) os_eq (vx_of (ve_op op_mod os_mod (vx_of (ve_callTy call_int1 cs_int (by rfl) T.z_int (by decide +kernel) (va_cons (vx_slot 7) va_nil))) (vx_of ve_int))) (vx_of ve_int) (nomark _)) (vw_and1 (vt_cmp op_gtI os_cmpI (vx_slot 6) (vx_slot 5) (nomark _))))))))) (vss_one (vs_ret ve_bl)) vss_nil)
      (vss_one (vs_if (vt_cmp (op_neD hr.units) os_ne (vx_of (ve_cal C_at_least_2 hr px_def (va_cons (vx_slot 3) (va_cons (vx_slot 7) va_nil)))) (vx_of (ve_callB (cr_sumA rfl) cs_sum (by rfl) T.z_sum (by decide +kernel) (va_cons (vx_of (ve_sl sl_all ss_sl (vx_slot 4) (vo_at (vx_slot 7)) vo_no)) va_nil))) (nomark _)) (vss_one (vs_ret ve_bl)) vss_nil)))))
      (vss_cons (vs_if (vt_cmp (op_neD hr.units) os_ne (vx_of (ve_cal C_ended_2 hr px_def (va_cons (vx_slot 3) (va_cons (vx_of (ve_op op_sub os_I0 (vx_of (ve_callB call_lenA cs_len (by rfl) T.z_len (by decide +kernel) (va_cons (vx_slot 3) va_nil))) (vx_of ve_int))) va_nil)))) (vx_slot 5) (nomark _)) (vss_one (vs_ret ve_bl)) vss_nil)
      (vss_cons (vs_set 8 (ve_callTy call_tuple_of cs_tuple (by rfl) T.z_tuple (by decide +kernel) (va_cons (vx_of (ve_lc rfl nd (vi_range1 (by rfl) T.z_range (va_cons (vx_of (ve_op op_addA os_add (vx_of ve_int) (vx_of (ve_cal C__law_ladle_2 hr px_def (va_cons (vx_slot 0) (va_cons (vx_of ve_int) va_nil)))))) va_nil)) (blkOk_by (own := [("at", 10)]) (by kernel_rfl)) (fun _ _ _ _ _ => (vg_name 10 nd)) (fun _ _ _ _ _ => vts_nil) (fun _ _ _ _ _ => (ve_op op_sub os_I0 (vx_of (ve_cal C__law_ladle_2 hr pxs0 (va_cons (vx_slot 0) (va_cons (vx_of (ve_op op_powW os_pow (vx_of ve_int) (vx_of ve_int))) va_nil)))) (vx_of (ve_op op_powW os_pow (vx_of ve_int) (vx_of ve_int))))))) va_nil)) nd)
      (vss_cons (vs_set 9 (ve_cal C__law_counts_1 hr px_def (va_cons (vx_slot 8) va_nil)) nd)
      (vss_one (vs_ret (ve_and (ve_cmp (op_eqD hr.units) os_eq (vx_of (ve_cal C_counts_of_1 hr px_def (va_cons (vx_slot 8) va_nil))) (vx_slot 9) (nomark _)) (ve_one (ve_cmp (op_eqD hr.units) os_eq (vx_of (ve_cal C_sums_of_1 hr px_def (va_cons (vx_slot 9) va_nil))) (vx_slot 8) (nomark _))))))))))))))))
/-! ### law -/
abbrev s_law : Stmt := topS 36
theorem sc_law : FnScope ["script", "spot", "crock", "turn", "sets", "told"] ["script"] (defScope s_law) := ⟨rfl, rfl, rfl, by decide +kernel, rfl, by decide +kernel, by decide +kernel⟩
noncomputable def b_law : DE → SRes := (sCons (sFor (iRng1f (aCons (xOf (eBlt dMax (aCons (xOf (eC (.int 1))) (aCons (xOf (eBlt dMin (aCons (xOf (eC (.int 3))) (aCons (xOf (eBlt (d1 dLen) (aCons (xSlot 0) aNil))) aNil)))) aNil)))) aNil)) (gN 1) (sCons (sSet 2 (eCall G__law_crock [] (aCons (xSlot 0) (aCons (xSlot 1) aNil))))
      (sFor (iRng1f (aCons (xOf (eC (.int 4))) aNil)) (gN 3) (sIf (tNotF (tOfE (eCall G__law_right [] (aCons (xSlot 2) aNil)))) (sRet (eC (.bl false))) sNil))))
      (sCons (sSet 4 (eTup (aCons (xOf (eTup (aCons (xOf (eC (.int 0))) (aCons (xOf (eC (.int 1))) (aCons (xOf (eC (.int 2))) aNil))))) (aCons (xOf (eTup (aCons (xOf (eC (.int 1))) (aCons (xOf (eC (.int 2))) (aCons (xOf (eC (.int 3))) aNil))))) (aCons (xOf (eTup (aCons (xOf (eC (.int 2))) (aCons (xOf (eC (.int 4))) aNil)))) aNil)))))
      (sCons (sSet 5 (eLst (aCons (xOf (eCall G_meet_sums [] (aCons (xOf (eC (.int 6))) (aCons (xSlot 4) aNil)))) (aCons (xOf (eCall G_just_counts [] (aCons (xOf (eC (.int 6))) (aCons (xSlot 4) aNil)))) (aCons (xOf (eCall G_ended [] (aCons (xOf (eTup (aCons (xOf (eC (.int 6))) (aCons (xOf (eC (.int 8))) (aCons (xOf (eC (.int 4))) (aCons (xOf (eC (.int 1))) aNil)))))) (aCons (xOf (eC (.int 2))) aNil)))) (aCons (xOf (eCall G_at_least [] (aCons (xOf (eTup (aCons (xOf (eC (.int 6))) (aCons (xOf (eC (.int 8))) (aCons (xOf (eC (.int 4))) (aCons (xOf (eC (.int 1))) aNil)))))) (aCons (xOf (eC (.int 2))) aNil)))) aNil))))))
      (sRet (eAnd (eOp2 (dEq false) (xSlot 5) (xOf (eLst (aCons (xOf (eTup (aCons (xOf (eC (.int 6))) (aCons (xOf (eC (.int 8))) (aCons (xOf (eC (.int 4))) (aCons (xOf (eC (.int 1))) aNil)))))) (aCons (xOf (eTup (aCons (xOf (eC (.int 1))) (aCons (xOf (eC (.int 3))) (aCons (xOf (eC (.int 1))) (aCons (xOf (eC (.int 1))) aNil)))))) (aCons (xOf (eC (.int 4))) (aCons (xOf (eC (.int 2))) aNil))))))) (eOp2 (dEq false) (xOf (eCall G_meet_sums [] (aCons (xOf (eC (.int 0))) (aCons (xOf (eTup (aCons (xOf (eTup aNil)) aNil))) aNil)))) (xOf (eTup (aCons (xOf (eC (.int 0))) (aCons (xOf (eC (.int 0))) aNil))))))))))
noncomputable def G_law : List D → FR := fnG [0] 1 6 b_law
theorem ok_law {f : Addr} {fd : FuncData} (F : FunD K "law" "law" (defArgs s_law) (defBody s_law) (defScope s_law) [] [] f fd) (T : Txt mg) (C__law_crock_2 : Cal P w K mg base "_law_crock" 1 2 [] G__law_crock) (C__law_right_1 : Cal P w K mg base "_law_right" 5 1 [] G__law_right) (C_at_least_2 : Cal P w K mg base "at_least" 3 2 [] G_at_least) (C_ended_2 : Cal P w K mg base "ended" 3 2 [] G_ended) (C_just_counts_2 : Cal P w K mg base "just_counts" 4 2 [] G_just_counts) (C_meet_sums_2 : Cal P w K mg base "meet_sums" 4 2 [] G_meet_sums) : FnOk P w K mg base (L2.CX P w) 6 f fd ["script"] (spG K 1 G_law) := by
  have nd := sc_law.nd
  exact fn_ok F sc_law fun cdv A outer s H E hr => (vss_cons (vs_for po_def rfl (vi_range1 (by rfl) T.z_range (va_cons (vx_of (ve_callB (call_maxA rfl) cs_max (by rfl) T.z_max (by decide +kernel) (va_cons (vx_of ve_int) (va_cons (vx_of (ve_callB (call_minA rfl) cs_min (by rfl) T.z_min (by decide +kernel) (va_cons (vx_of ve_int) (va_cons (vx_of (ve_callB call_lenA cs_len (by rfl) T.z_len (by decide +kernel) (va_cons (vx_slot 0) va_nil))) va_nil)))) va_nil)))) va_nil)) (vg_name 1 nd) (vss_cons (vs_set 2 (ve_cal C__law_crock_2 hr px_def (va_cons (vx_slot 0) (va_cons (vx_slot 1) va_nil))) nd)
      (vss_one (vs_for po_def rfl (vi_range1 (by rfl) T.z_range (va_cons (vx_of ve_int) va_nil)) (vg_name 3 nd) (vss_one (vs_if (vt_not (vt_val (ve_cal C__law_right_1 hr px_def (va_cons (vx_slot 2) va_nil)))) (vss_one (vs_ret ve_bl)) vss_nil))))))
      (vss_cons (vs_set 4 (ve_tup (va_cons (vx_of (ve_tup (va_cons (vx_of ve_int) (va_cons (vx_of ve_int) (va_cons (vx_of ve_int) va_nil))))) (va_cons (vx_of (ve_tup (va_cons (vx_of ve_int) (va_cons (vx_of ve_int) (va_cons (vx_of ve_int) va_nil))))) (va_cons (vx_of (ve_tup (va_cons (vx_of ve_int) (va_cons (vx_of ve_int) va_nil)))) va_nil)))) nd)
      (vss_cons (vs_set 5 (ve_lst (va_cons (vx_of (ve_cal C_meet_sums_2 hr px_def (va_cons (vx_of ve_int) (va_cons (vx_slot 4) va_nil)))) (va_cons (vx_of (ve_cal C_just_counts_2 hr px_def (va_cons (vx_of ve_int) (va_cons (vx_slot 4) va_nil)))) (va_cons (vx_of (ve_cal C_ended_2 hr px_def (va_cons (vx_of (ve_tup (va_cons (vx_of ve_int) (va_cons (vx_of ve_int) (va_cons (vx_of ve_int) (va_cons (vx_of ve_int) va_nil)))))) (va_cons (vx_of ve_int) va_nil)))) (va_cons (vx_of (ve_cal C_at_least_2 hr px_def (va_cons (vx_of (ve_tup (va_cons (vx_of ve_int) (va_cons (vx_of ve_int) (va_cons (vx_of ve_int) (va_cons (vx_of ve_int) va_nil)))))) (va_cons (vx_of ve_int) va_nil)))) va_nil))))) nd)
      (vss_one (vs_ret (ve_and (ve_cmp (op_eqD hr.units) os_eq (vx_slot 5) (vx_of (ve_lst (va_cons (vx_of (ve_tup (va_cons (vx_of ve_int) (va_cons (vx_of ve_int) (va_cons (vx_of ve_int) (va_cons (vx_of ve_int) va_nil)))))) (va_cons (vx_of (ve_tup (va_cons (vx_of ve_int) (va_cons (vx_of ve_int) (va_cons (vx_of ve_int) (va_cons (vx_of ve_int) va_nil)))))) (va_cons (vx_of ve_int) (va_cons (vx_of ve_int) va_nil)))))) (nomark _)) (ve_one (ve_cmp (op_eqD hr.units) os_eq (vx_of (ve_cal C_meet_sums_2 hr px_def (va_cons (vx_of ve_int) (va_cons (vx_of (ve_tup (va_cons (vx_of (ve_tup va_nil)) va_nil))) va_nil)))) (vx_of (ve_tup (va_cons (vx_of ve_int) (va_cons (vx_of ve_int) va_nil)))) (nomark _)))))))))
end
end Law

set_option maxHeartbeats 0
namespace Law
open PySem PySem.Spec PyProof.Rows L2 Tr
/-! ### the head -/
def dd_is_whole : He.DefD := ⟨("is_whole", none), "is_whole", "is_whole", defArgs s_is_whole, defBody s_is_whole, defScope s_is_whole, [], [("least", .non), ("most", .non)]⟩
def dd_out_of : He.DefD := ⟨("out_of", none), "out_of", "out_of", defArgs s_out_of, defBody s_out_of, defScope s_out_of, [], []⟩
def dd_sign_of : He.DefD := ⟨("sign_of", none), "sign_of", "sign_of", defArgs s_sign_of, defBody s_sign_of, defScope s_sign_of, [], []⟩
def dd_counts_in : He.DefD := ⟨("counts_in", none), "counts_in", "counts_in", defArgs s_counts_in, defBody s_counts_in, defScope s_counts_in, [], []⟩
def dd_sums_in : He.DefD := ⟨("sums_in", none), "sums_in", "sums_in", defArgs s_sums_in, defBody s_sums_in, defScope s_sums_in, [], []⟩
def dd_counts_by : He.DefD := ⟨("counts_by", none), "counts_by", "counts_by", defArgs s_counts_by, defBody s_counts_by, defScope s_counts_by, [], []⟩
def dd_are_sets : He.DefD := ⟨("are_sets", none), "are_sets", "are_sets", defArgs s_are_sets, defBody s_are_sets, defScope s_are_sets, [], []⟩
def dd_need_things : He.DefD := ⟨("need_things", none), "need_things", "need_things", defArgs s_need_things, defBody s_need_things, defScope s_need_things, [], []⟩
def dd_need_sets : He.DefD := ⟨("need_sets", none), "need_sets", "need_sets", defArgs s_need_sets, defBody s_need_sets, defScope s_need_sets, [], []⟩
def dd_need_sums : He.DefD := ⟨("need_sums", none), "need_sums", "need_sums", defArgs s_need_sums, defBody s_need_sums, defScope s_need_sums, [], []⟩
def dd_meet_sums : He.DefD := ⟨("meet_sums", none), "meet_sums", "meet_sums", defArgs s_meet_sums, defBody s_meet_sums, defScope s_meet_sums, [], []⟩
def dd_just_counts : He.DefD := ⟨("just_counts", none), "just_counts", "just_counts", defArgs s_just_counts, defBody s_just_counts, defScope s_just_counts, [], []⟩
def dd_counts_of : He.DefD := ⟨("counts_of", none), "counts_of", "counts_of", defArgs s_counts_of, defBody s_counts_of, defScope s_counts_of, [], []⟩
def dd_sums_of : He.DefD := ⟨("sums_of", none), "sums_of", "sums_of", defArgs s_sums_of, defBody s_sums_of, defScope s_sums_of, [], []⟩
def dd_ended : He.DefD := ⟨("ended", none), "ended", "ended", defArgs s_ended, defBody s_ended, defScope s_ended, [], []⟩
def dd_at_least : He.DefD := ⟨("at_least", none), "at_least", "at_least", defArgs s_at_least, defBody s_at_least, defScope s_at_least, [], []⟩
def dd__law_crock : He.DefD := ⟨("_law_crock", none), "_law_crock", "_law_crock", defArgs s__law_crock, defBody s__law_crock, defScope s__law_crock, [], []⟩
def dd__law_ladle : He.DefD := ⟨("_law_ladle", none), "_law_ladle", "_law_ladle", defArgs s__law_ladle, defBody s__law_ladle, defScope s__law_ladle, [], []⟩
def dd__law_lots : He.DefD := ⟨("_law_lots", none), "_law_lots", "_law_lots", defArgs s__law_lots, defBody s__law_lots, defScope s__law_lots, [], []⟩
def dd__law_out_of : He.DefD := ⟨("_law_out_of", none), "_law_out_of", "_law_out_of", defArgs s__law_out_of, defBody s__law_out_of, defScope s__law_out_of, [], []⟩
def dd__law_sets : He.DefD := ⟨("_law_sets", none), "_law_sets", "_law_sets", defArgs s__law_sets, defBody s__law_sets, defScope s__law_sets, [], []⟩
def dd__law_meets : He.DefD := ⟨("_law_meets", none), "_law_meets", "_law_meets", defArgs s__law_meets, defBody s__law_meets, defScope s__law_meets, [], []⟩
def dd__law_just : He.DefD := ⟨("_law_just", none), "_law_just", "_law_just", defArgs s__law_just, defBody s__law_just, defScope s__law_just, [], []⟩
def dd__law_counts : He.DefD := ⟨("_law_counts", none), "_law_counts", "_law_counts", defArgs s__law_counts, defBody s__law_counts, defScope s__law_counts, [], []⟩
def dd__law_right : He.DefD := ⟨("_law_right", none), "_law_right", "_law_right", defArgs s__law_right, defBody s__law_right, defScope s__law_right, [], []⟩
def dd_law : He.DefD := ⟨("law", none), "law", "law", defArgs s_law, defBody s_law, defScope s_law, [], []⟩
def hfn : List He.DefD := [dd_is_whole, dd_out_of, dd_sign_of, dd_counts_in, dd_sums_in, dd_counts_by, dd_are_sets, dd_need_things, dd_need_sets, dd_need_sums, dd_meet_sums, dd_just_counts, dd_counts_of, dd_sums_of, dd_ended, dd_at_least, dd__law_crock, dd__law_ladle, dd__law_lots, dd__law_out_of, dd__law_sets, dd__law_meets, dd__law_just, dd__law_counts, dd__law_right, dd_law]
def hfa : List He.Fa := [.glo "is_whole", .glo "out_of", .glo "sign_of", .glo "counts_in", .glo "sums_in", .glo "counts_by", .glo "are_sets", .glo "need_things", .glo "need_sets", .glo "need_sums", .glo "meet_sums", .glo "just_counts", .glo "counts_of", .glo "sums_of", .glo "ended", .glo "at_least", .glo "_law_crock", .glo "_law_ladle", .glo "_law_lots", .glo "_law_out_of", .glo "_law_sets", .glo "_law_meets", .glo "_law_just", .glo "_law_counts", .glo "_law_right", .glo "law", .free "abs", .free "all", .free "bool", .free "int", .free "isinstance", .free "len", .free "list", .free "max", .free "min", .free "range", .free "sum", .free "tuple", .free "zip", .int "LONGEST" 1000000000000000000000000000000, .int "MOST_SETS" 6, .int "MOST_THINGS" 30]
abbrev hR : PySem.W.OpenRow := PySem.W.OpenLaw.row PySem.Challenge.rw_countwide_k66_whole_meet_sums_and_just_c
abbrev hk : PySem.W.Hook := He.hookD 4 hfa hfn
def hob (s : PySem.W.SharedT) : He.AlD := He.obsDG 4 hfa hfn (HandSHeadRun.getT s)
theorem hob_eq (s : PySem.W.SharedT) : hob s = hk.obs s.abs := He.obsDG_eq (HandSHeadRun.getT_eq s)
def hloose : List Str := (["FoldError", "NoTable", "LackError", "NoNumber", "is_whole", "MOST_THINGS", "MOST_SETS", "LONGEST", "out_of", "sign_of", "counts_in", "sums_in", "counts_by", "are_sets", "need_things", "need_sets", "need_sums", "meet_sums", "just_counts", "counts_of", "sums_of", "ended", "at_least", "_law_crock", "_law_ladle", "_law_lots", "_law_out_of", "_law_sets", "_law_meets", "_law_just", "_law_counts", "_law_right"] : List Str)
theorem hrun (w : World) : HandSHeadRun.RunEq hR (PySem.W.view hR.prog [36]) hk hob 4000 hloose w := by
  intro os
  kernel_rfl
theorem facts {P : Program} {w : World} {K : PySem.W.Frag} {h : Heap} {mg : Str → Option Value} {f : Addr} (X : K.In h) (G : h.Ns mainGlobals mg) (hfa : mg ("law" : Str) = some (.ref f)) (c : He.SaysD Law.hfa hfn K) :
    ∃ fd : FuncData, (∀ (s : Shared) (v : Value), BindsTo s fd ⟨[v], []⟩ [("script", v)]) ∧ ∀ base : Heap, K.In base → base.Ns mainGlobals mg → FnOk P w K mg base (L2.CX P w) 6 f fd ["script"] (spG K 1 G_law) := by
  obtain ⟨fd_is_whole, F_is_whole⟩ := c.def_ 0 (d := dd_is_whole) rfl
  obtain ⟨fd_out_of, F_out_of⟩ := c.def_ 1 (d := dd_out_of) rfl
  obtain ⟨fd_sign_of, F_sign_of⟩ := c.def_ 2 (d := dd_sign_of) rfl
  obtain ⟨fd_counts_in, F_counts_in⟩ := c.def_ 3 (d := dd_counts_in) rfl
  obtain ⟨fd_sums_in, F_sums_in⟩ := c.def_ 4 (d := dd_sums_in) rfl
  obtain ⟨fd_counts_by, F_counts_by⟩ := c.def_ 5 (d := dd_counts_by) rfl
  obtain ⟨fd_are_sets, F_are_sets⟩ := c.def_ 6 (d := dd_are_sets) rfl
  obtain ⟨fd_need_things, F_need_things⟩ := c.def_ 7 (d := dd_need_things) rfl
  obtain ⟨fd_need_sets, F_need_sets⟩ := c.def_ 8 (d := dd_need_sets) rfl
  obtain ⟨fd_need_sums, F_need_sums⟩ := c.def_ 9 (d := dd_need_sums) rfl
  obtain ⟨fd_meet_sums, F_meet_sums⟩ := c.def_ 10 (d := dd_meet_sums) rfl
  obtain ⟨fd_just_counts, F_just_counts⟩ := c.def_ 11 (d := dd_just_counts) rfl
  obtain ⟨fd_counts_of, F_counts_of⟩ := c.def_ 12 (d := dd_counts_of) rfl
  obtain ⟨fd_sums_of, F_sums_of⟩ := c.def_ 13 (d := dd_sums_of) rfl
  obtain ⟨fd_ended, F_ended⟩ := c.def_ 14 (d := dd_ended) rfl
  obtain ⟨fd_at_least, F_at_least⟩ := c.def_ 15 (d := dd_at_least) rfl
  obtain ⟨fd__law_crock, F__law_crock⟩ := c.def_ 16 (d := dd__law_crock) rfl
  obtain ⟨fd__law_ladle, F__law_ladle⟩ := c.def_ 17 (d := dd__law_ladle) rfl
  obtain ⟨fd__law_lots, F__law_lots⟩ := c.def_ 18 (d := dd__law_lots) rfl
  obtain ⟨fd__law_out_of, F__law_out_of⟩ := c.def_ 19 (d := dd__law_out_of) rfl
  obtain ⟨fd__law_sets, F__law_sets⟩ := c.def_ 20 (d := dd__law_sets) rfl
  obtain ⟨fd__law_meets, F__law_meets⟩ := c.def_ 21 (d := dd__law_meets) rfl
  obtain ⟨fd__law_just, F__law_just⟩ := c.def_ 22 (d := dd__law_just) rfl
  obtain ⟨fd__law_counts, F__law_counts⟩ := c.def_ 23 (d := dd__law_counts) rfl
  obtain ⟨fd__law_right, F__law_right⟩ := c.def_ 24 (d := dd__law_right) rfl
  obtain ⟨fd_law, F_law⟩ := c.def_ 25 (d := dd_law) rfl
  have T : Txt mg := ⟨He.free_ok X G (c.fact 26 (f := .free "abs") rfl), He.free_ok X G (c.fact 27 (f := .free "all") rfl), He.free_ok X G (c.fact 28 (f := .free "bool") rfl), He.free_ok X G (c.fact 29 (f := .free "int") rfl), He.free_ok X G (c.fact 30 (f := .free "isinstance") rfl), He.free_ok X G (c.fact 31 (f := .free "len") rfl), He.free_ok X G (c.fact 32 (f := .free "list") rfl), He.free_ok X G (c.fact 33 (f := .free "max") rfl), He.free_ok X G (c.fact 34 (f := .free "min") rfl), He.free_ok X G (c.fact 35 (f := .free "range") rfl), He.free_ok X G (c.fact 36 (f := .free "sum") rfl), He.free_ok X G (c.fact 37 (f := .free "tuple") rfl), He.free_ok X G (c.fact 38 (f := .free "zip") rfl), He.int_ok X G (c.fact 39 (f := .int "LONGEST" 1000000000000000000000000000000) rfl), He.int_ok X G (c.fact 40 (f := .int "MOST_SETS" 6) rfl), He.int_ok X G (c.fact 41 (f := .int "MOST_THINGS" 30) rfl)⟩
  have e := hfa.symm.trans (He.glo_ok X G (c.fact 25 (f := .glo "law") rfl))
  cases e
  have b := FunD.bindsA (ps := ["script"]) F_law fun _ _ _ _ _ _ us hl => match us, hl with | [_], _ => rfl
  refine ⟨fd_law, fun s v => b s [v] rfl, fun base _ _ => ?_⟩
  have O_is_whole := ok_is_whole (P := P) (w := w) (base := base) F_is_whole T 
  have KC_is_whole_1_least_most : KCal P w K mg base "is_whole" 1 3 1 ["least", "most"] [some 0, some 1] [] G_is_whole := by
    obtain ⟨mv, kb⟩ := Tr.FunD.kb (ps := ["thing", "least", "most"]) F_is_whole 1 ["least", "most"] [] [some 0, some 1] (List.cons_ne_nil _ _) (by simp [dd_is_whole, He.DefD.kws, He.Dv.v]) fun _ _ _ _ _ _ us mv ws h1 h2 h3 => match us, mv, ws, h1, h2, h3 with | [_], [], [_, _], _, _, _ => rfl
    exact ⟨_, _, _, [], mv, O_is_whole, He.glo_ok X G (c.fact 0 (f := .glo "is_whole") rfl), F_is_whole.kp, kb, fun _ _ => .nil, by simp [D.flag]⟩
  have C_is_whole_1 : Cal P w K mg base "is_whole" 1 3 [.non, .non] G_is_whole := by
    obtain ⟨ds, hv, hb⟩ := FunD.binds0 (ps := ["thing", "least", "most"]) F_is_whole 1 (List.cons_ne_nil _ _) rfl fun _ _ _ _ _ _ us ks h1 h2 => match us, ks, h1, h2 with | [_], [_, _], _, _ => ⟨_, _, _, _, _, _, rfl, rfl, ⟨_, _, _, _, _, _, rfl, rfl, rfl⟩⟩
    exact ⟨_, _, _, _, ds, O_is_whole, He.glo_ok X G (c.fact 0 (f := .glo "is_whole") rfl), F_is_whole.kp, hb, hv, fun _ _ => .cons (Rp_non.mpr ⟨rfl, rfl⟩) (.cons (Rp_non.mpr ⟨rfl, rfl⟩) (.nil)), by simp [D.flag]⟩
  have O_out_of := ok_out_of (P := P) (w := w) (base := base) F_out_of T 
  have C_out_of_2 : Cal P w K mg base "out_of" 1 2 [] G_out_of := ⟨_, _, _, [], [], O_out_of, He.glo_ok X G (c.fact 1 (f := .glo "out_of") rfl), F_out_of.kp, FunD.bindsN (ps := ["many", "size"]) F_out_of fun _ _ _ _ _ _ us hl => match us, hl with | [_, _], _ => rfl, .nil, fun _ _ => .nil, by simp⟩
  have O_sign_of := ok_sign_of (P := P) (w := w) (base := base) F_sign_of T 
  have C_sign_of_1 : Cal P w K mg base "sign_of" 1 1 [] G_sign_of := ⟨_, _, _, [], [], O_sign_of, He.glo_ok X G (c.fact 2 (f := .glo "sign_of") rfl), F_sign_of.kp, FunD.bindsN (ps := ["number"]) F_sign_of fun _ _ _ _ _ _ us hl => match us, hl with | [_], _ => rfl, .nil, fun _ _ => .nil, by simp⟩
  have O_counts_in := ok_counts_in (P := P) (w := w) (base := base) F_counts_in T C_sign_of_1 C_out_of_2
  have C_counts_in_1 : Cal P w K mg base "counts_in" 2 1 [] G_counts_in := ⟨_, _, _, [], [], O_counts_in, He.glo_ok X G (c.fact 3 (f := .glo "counts_in") rfl), F_counts_in.kp, FunD.bindsN (ps := ["sums"]) F_counts_in fun _ _ _ _ _ _ us hl => match us, hl with | [_], _ => rfl, .nil, fun _ _ => .nil, by simp⟩
  have O_sums_in := ok_sums_in (P := P) (w := w) (base := base) F_sums_in T C_out_of_2
  have C_sums_in_1 : Cal P w K mg base "sums_in" 2 1 [] G_sums_in := ⟨_, _, _, [], [], O_sums_in, He.glo_ok X G (c.fact 4 (f := .glo "sums_in") rfl), F_sums_in.kp, FunD.bindsN (ps := ["counts"]) F_sums_in fun _ _ _ _ _ _ us hl => match us, hl with | [_], _ => rfl, .nil, fun _ _ => .nil, by simp⟩
  have O_counts_by := ok_counts_by (P := P) (w := w) (base := base) F_counts_by T 
  have C_counts_by_2 : Cal P w K mg base "counts_by" 1 2 [] G_counts_by := ⟨_, _, _, [], [], O_counts_by, He.glo_ok X G (c.fact 5 (f := .glo "counts_by") rfl), F_counts_by.kp, FunD.bindsN (ps := ["things", "sets"]) F_counts_by fun _ _ _ _ _ _ us hl => match us, hl with | [_, _], _ => rfl, .nil, fun _ _ => .nil, by simp⟩
  have O_are_sets := ok_are_sets (P := P) (w := w) (base := base) F_are_sets T KC_is_whole_1_least_most
  have C_are_sets_2 : Cal P w K mg base "are_sets" 2 2 [] G_are_sets := ⟨_, _, _, [], [], O_are_sets, He.glo_ok X G (c.fact 6 (f := .glo "are_sets") rfl), F_are_sets.kp, FunD.bindsN (ps := ["things", "thing"]) F_are_sets fun _ _ _ _ _ _ us hl => match us, hl with | [_, _], _ => rfl, .nil, fun _ _ => .nil, by simp⟩
  have O_need_things := ok_need_things (P := P) (w := w) (base := base) F_need_things T KC_is_whole_1_least_most
  have C_need_things_1 : Cal P w K mg base "need_things" 2 1 [] G_need_things := ⟨_, _, _, [], [], O_need_things, He.glo_ok X G (c.fact 7 (f := .glo "need_things") rfl), F_need_things.kp, FunD.bindsN (ps := ["things"]) F_need_things fun _ _ _ _ _ _ us hl => match us, hl with | [_], _ => rfl, .nil, fun _ _ => .nil, by simp⟩
  have O_need_sets := ok_need_sets (P := P) (w := w) (base := base) F_need_sets T C_need_things_1 C_are_sets_2
  have C_need_sets_2 : Cal P w K mg base "need_sets" 3 2 [] G_need_sets := ⟨_, _, _, [], [], O_need_sets, He.glo_ok X G (c.fact 8 (f := .glo "need_sets") rfl), F_need_sets.kp, FunD.bindsN (ps := ["things", "sets"]) F_need_sets fun _ _ _ _ _ _ us hl => match us, hl with | [_, _], _ => rfl, .nil, fun _ _ => .nil, by simp⟩
  have O_need_sums := ok_need_sums (P := P) (w := w) (base := base) F_need_sums T C_is_whole_1
  have C_need_sums_1 : Cal P w K mg base "need_sums" 2 1 [] G_need_sums := ⟨_, _, _, [], [], O_need_sums, He.glo_ok X G (c.fact 9 (f := .glo "need_sums") rfl), F_need_sums.kp, FunD.bindsN (ps := ["thing"]) F_need_sums fun _ _ _ _ _ _ us hl => match us, hl with | [_], _ => rfl, .nil, fun _ _ => .nil, by simp⟩
  have O_meet_sums := ok_meet_sums (P := P) (w := w) (base := base) F_meet_sums T C_need_sets_2 C_counts_by_2 C_sums_in_1
  have C_meet_sums_2 : Cal P w K mg base "meet_sums" 4 2 [] G_meet_sums := ⟨_, _, _, [], [], O_meet_sums, He.glo_ok X G (c.fact 10 (f := .glo "meet_sums") rfl), F_meet_sums.kp, FunD.bindsN (ps := ["things", "sets"]) F_meet_sums fun _ _ _ _ _ _ us hl => match us, hl with | [_, _], _ => rfl, .nil, fun _ _ => .nil, by simp⟩
  have O_just_counts := ok_just_counts (P := P) (w := w) (base := base) F_just_counts T C_need_sets_2 C_counts_by_2
  have C_just_counts_2 : Cal P w K mg base "just_counts" 4 2 [] G_just_counts := ⟨_, _, _, [], [], O_just_counts, He.glo_ok X G (c.fact 11 (f := .glo "just_counts") rfl), F_just_counts.kp, FunD.bindsN (ps := ["things", "sets"]) F_just_counts fun _ _ _ _ _ _ us hl => match us, hl with | [_, _], _ => rfl, .nil, fun _ _ => .nil, by simp⟩
  have O_counts_of := ok_counts_of (P := P) (w := w) (base := base) F_counts_of T C_need_sums_1 C_counts_in_1
  have C_counts_of_1 : Cal P w K mg base "counts_of" 3 1 [] G_counts_of := ⟨_, _, _, [], [], O_counts_of, He.glo_ok X G (c.fact 12 (f := .glo "counts_of") rfl), F_counts_of.kp, FunD.bindsN (ps := ["sums"]) F_counts_of fun _ _ _ _ _ _ us hl => match us, hl with | [_], _ => rfl, .nil, fun _ _ => .nil, by simp⟩
  have O_sums_of := ok_sums_of (P := P) (w := w) (base := base) F_sums_of T C_need_sums_1 C_sums_in_1
  have C_sums_of_1 : Cal P w K mg base "sums_of" 3 1 [] G_sums_of := ⟨_, _, _, [], [], O_sums_of, He.glo_ok X G (c.fact 13 (f := .glo "sums_of") rfl), F_sums_of.kp, FunD.bindsN (ps := ["counts"]) F_sums_of fun _ _ _ _ _ _ us hl => match us, hl with | [_], _ => rfl, .nil, fun _ _ => .nil, by simp⟩
  have O_ended := ok_ended (P := P) (w := w) (base := base) F_ended T C_need_sums_1 KC_is_whole_1_least_most C_sign_of_1
  have C_ended_2 : Cal P w K mg base "ended" 3 2 [] G_ended := ⟨_, _, _, [], [], O_ended, He.glo_ok X G (c.fact 14 (f := .glo "ended") rfl), F_ended.kp, FunD.bindsN (ps := ["sums", "many"]) F_ended fun _ _ _ _ _ _ us hl => match us, hl with | [_, _], _ => rfl, .nil, fun _ _ => .nil, by simp⟩
  have O_at_least := ok_at_least (P := P) (w := w) (base := base) F_at_least T C_need_sums_1 KC_is_whole_1_least_most C_sign_of_1 C_out_of_2
  have C_at_least_2 : Cal P w K mg base "at_least" 3 2 [] G_at_least := ⟨_, _, _, [], [], O_at_least, He.glo_ok X G (c.fact 15 (f := .glo "at_least") rfl), F_at_least.kp, FunD.bindsN (ps := ["sums", "least"]) F_at_least fun _ _ _ _ _ _ us hl => match us, hl with | [_, _], _ => rfl, .nil, fun _ _ => .nil, by simp⟩
  have O__law_crock := ok__law_crock (P := P) (w := w) (base := base) F__law_crock T 
  have C__law_crock_2 : Cal P w K mg base "_law_crock" 1 2 [] G__law_crock := ⟨_, _, _, [], [], O__law_crock, He.glo_ok X G (c.fact 16 (f := .glo "_law_crock") rfl), F__law_crock.kp, FunD.bindsN (ps := ["script", "spot"]) F__law_crock fun _ _ _ _ _ _ us hl => match us, hl with | [_, _], _ => rfl, .nil, fun _ _ => .nil, by simp⟩
  have O__law_ladle := ok__law_ladle (P := P) (w := w) (base := base) F__law_ladle T 
  have C__law_ladle_2 : Cal P w K mg base "_law_ladle" 1 2 [] G__law_ladle := ⟨_, _, _, [], [], O__law_ladle, He.glo_ok X G (c.fact 17 (f := .glo "_law_ladle") rfl), F__law_ladle.kp, FunD.bindsN (ps := ["crock", "total"]) F__law_ladle fun _ _ _ _ _ _ us hl => match us, hl with | [_, _], _ => rfl, .nil, fun _ _ => .nil, by simp⟩
  have O__law_lots := ok__law_lots (P := P) (w := w) (base := base) F__law_lots T 
  have C__law_lots_1 : Cal P w K mg base "_law_lots" 1 1 [] G__law_lots := ⟨_, _, _, [], [], O__law_lots, He.glo_ok X G (c.fact 18 (f := .glo "_law_lots") rfl), F__law_lots.kp, FunD.bindsN (ps := ["many"]) F__law_lots fun _ _ _ _ _ _ us hl => match us, hl with | [_], _ => rfl, .nil, fun _ _ => .nil, by simp⟩
  have O__law_out_of := ok__law_out_of (P := P) (w := w) (base := base) F__law_out_of T 
  have C__law_out_of_2 : Cal P w K mg base "_law_out_of" 1 2 [] G__law_out_of := ⟨_, _, _, [], [], O__law_out_of, He.glo_ok X G (c.fact 19 (f := .glo "_law_out_of") rfl), F__law_out_of.kp, FunD.bindsN (ps := ["many", "few"]) F__law_out_of fun _ _ _ _ _ _ us hl => match us, hl with | [_, _], _ => rfl, .nil, fun _ _ => .nil, by simp⟩
  have O__law_sets := ok__law_sets (P := P) (w := w) (base := base) F__law_sets T C__law_ladle_2
  have C__law_sets_3 : Cal P w K mg base "_law_sets" 2 3 [] G__law_sets := ⟨_, _, _, [], [], O__law_sets, He.glo_ok X G (c.fact 20 (f := .glo "_law_sets") rfl), F__law_sets.kp, FunD.bindsN (ps := ["crock", "things", "many"]) F__law_sets fun _ _ _ _ _ _ us hl => match us, hl with | [_, _, _], _ => rfl, .nil, fun _ _ => .nil, by simp⟩
  have O__law_meets := ok__law_meets (P := P) (w := w) (base := base) F__law_meets T C__law_lots_1
  have C__law_meets_2 : Cal P w K mg base "_law_meets" 2 2 [] G__law_meets := ⟨_, _, _, [], [], O__law_meets, He.glo_ok X G (c.fact 21 (f := .glo "_law_meets") rfl), F__law_meets.kp, FunD.bindsN (ps := ["things", "sets"]) F__law_meets fun _ _ _ _ _ _ us hl => match us, hl with | [_, _], _ => rfl, .nil, fun _ _ => .nil, by simp⟩
  have O__law_just := ok__law_just (P := P) (w := w) (base := base) F__law_just T 
  have C__law_just_2 : Cal P w K mg base "_law_just" 1 2 [] G__law_just := ⟨_, _, _, [], [], O__law_just, He.glo_ok X G (c.fact 22 (f := .glo "_law_just") rfl), F__law_just.kp, FunD.bindsN (ps := ["things", "sets"]) F__law_just fun _ _ _ _ _ _ us hl => match us, hl with | [_, _], _ => rfl, .nil, fun _ _ => .nil, by simp⟩
  have O__law_counts := ok__law_counts (P := P) (w := w) (base := base) F__law_counts T C__law_out_of_2
  have C__law_counts_1 : Cal P w K mg base "_law_counts" 2 1 [] G__law_counts := ⟨_, _, _, [], [], O__law_counts, He.glo_ok X G (c.fact 23 (f := .glo "_law_counts") rfl), F__law_counts.kp, FunD.bindsN (ps := ["sums"]) F__law_counts fun _ _ _ _ _ _ us hl => match us, hl with | [_], _ => rfl, .nil, fun _ _ => .nil, by simp⟩
  have O__law_right := ok__law_right (P := P) (w := w) (base := base) F__law_right T C__law_ladle_2 C__law_sets_3 C__law_just_2 C__law_meets_2 C_meet_sums_2 C_just_counts_2 C_counts_of_1 C_sums_of_1 C_ended_2 C_at_least_2 C__law_counts_1
  have C__law_right_1 : Cal P w K mg base "_law_right" 5 1 [] G__law_right := ⟨_, _, _, [], [], O__law_right, He.glo_ok X G (c.fact 24 (f := .glo "_law_right") rfl), F__law_right.kp, FunD.bindsN (ps := ["crock"]) F__law_right fun _ _ _ _ _ _ us hl => match us, hl with | [_], _ => rfl, .nil, fun _ _ => .nil, by simp⟩
  have O_law := ok_law (P := P) (w := w) (base := base) F_law T C__law_crock_2 C__law_right_1 C_at_least_2 C_ended_2 C_just_counts_2 C_meet_sums_2
  exact O_law
end Law

set_option maxHeartbeats 4000000
namespace Law
open PySem PySem.Spec PyProof.Rows L2 Tr
def i1? : FR → Option (Int × List D)
  | .ok (.int i) ds => some (i, ds)
  | _ => none
theorem whole_nn (i : Int) : G_is_whole [.int i, .non, .non] = .ok (.bl true) [.int i, .non, .non] := by
  simp [G_is_whole, b_is_whole, fin, back]
theorem whole_ii (i lo hi : Int) : G_is_whole [.int i, .int lo, .int hi] = .ok (.bl (decide (lo ≤ i) && decide (i ≤ hi))) [.int i, .int lo, .int hi] := by
  by_cases h : i < lo
  · have h' : ¬ lo ≤ i := by omega
    simp [G_is_whole, b_is_whole, fin, back, h, h']
  · have h' : lo ≤ i := by omega
    simp [G_is_whole, b_is_whole, fin, back, h, h']
def sg (n : Int) : Int := if n % 2 = 0 then 1 else -1
theorem eq_ints {b : Bool} {i j : Int} : dEq b (.int i) (.int j) = .ok (.bl (if b then !decide (i = j) else decide (i = j))) := by
  have h : (i == j) = decide (i = j) := by by_cases q : i = j <;> simp [q]
  cases b <;> simp [dEq, D.py, SeqAt.shaped, PyData.eqv, PyData.canLay0, PyData.depth, h]
theorem pyL_ints : ∀ xs : List Int, pyL (xs.map .int) = some (xs.map .int)
  | [] => by simp [pyL]
  | x :: xs => by simp [pyL, D.py, pyL_ints xs]
theorem lay_ints : ∀ xs : List Int, PyData.canLayAll0 (xs.map .int) = true ∧ PyData.depthAll (xs.map .int) = 0
  | [] => by simp [PyData.canLayAll0, PyData.depthAll]
  | x :: xs => by simp [PyData.canLayAll0, PyData.depthAll, PyData.canLay0, PyData.depth, lay_ints xs]
theorem eqv_ints : ∀ xs ys : List Int, PyData.eqvAll (xs.map .int) (ys.map .int) = decide (xs = ys)
  | [], [] => by simp [PyData.eqvAll]
  | [], y :: ys => by simp [PyData.eqvAll]
  | x :: xs, [] => by simp [PyData.eqvAll]
  | x :: xs, y :: ys => by
    have h : (x == y) = decide (x = y) := by by_cases q : x = y <;> simp [q]
    simp [PyData.eqvAll, PyData.eqv, eqv_ints xs ys, h]
theorem eq_tups {b : Bool} {xs ys : List Int} : dEq b (.tup (xs.map .int)) (.tup (ys.map .int)) = .ok (.bl (if b then !decide (xs = ys) else decide (xs = ys))) := by
  cases b <;> simp [dEq, D.py, pyL_ints, SeqAt.shaped, PyData.eqv, PyData.canLay0, PyData.depth, lay_ints, eqv_ints]
theorem eq_lsts {b o o' : Bool} {xs ys : List Int} : dEq b (.lst o (xs.map .int)) (.lst o' (ys.map .int)) = .ok (.bl (if b then !decide (xs = ys) else decide (xs = ys))) := by
  cases b <;> simp [dEq, D.py, pyL_ints, SeqAt.shaped, PyData.eqv, PyData.canLay0, PyData.depth, lay_ints, eqv_ints]
theorem sign_ok (i : Int) : G_sign_of [.int i] = .ok (.int (sg i)) [.int i] := by
  by_cases h : i % 2 = 0 <;> simp [G_sign_of, b_sign_of, fin, back, eq_ints, sg, h]
def ch : Nat → Nat → Int
  | _, 0 => 1
  | 0, _ + 1 => 0
  | n + 1, k + 1 => ch n k + ch n (k + 1)
def isIt : FR → Int → Int → Int → Bool
  | .ok (.int i) [.int a, .int b], x, y, z => i == x && a == y && b == z
  | _, _, _, _ => false
theorem isIt_ok {r : FR} {x y z : Int} (h : isIt r x y z = true) : r = .ok (.int x) [.int y, .int z] := by
  unfold isIt at h
  split at h
  · simp at h; obtain ⟨⟨rfl, rfl⟩, rfl⟩ := h; rfl
  · cases h
theorem out_all : ∀ n k : Fin 9, isIt (fnG0 [0, 1] 2 4 b_out_of [.int n.val, .int k.val]) (ch n.val k.val) n.val k.val = true := by decide +kernel
theorem lout_all : ∀ n k : Fin 9, isIt (fnG0 [0, 1] 2 4 b__law_out_of [.int n.val, .int k.val]) (ch n.val k.val) n.val k.val = true := by decide +kernel
theorem out_ok {n k : Nat} (hn : n < 9) (hk : k < 9) : G_out_of [.int n, .int k] = .ok (.int (ch n k)) [.int n, .int k] := by rw [G_out_of, fnG_eq]; exact isIt_ok (out_all ⟨n, hn⟩ ⟨k, hk⟩)
theorem lout_ok {n k : Nat} (hn : n < 9) (hk : k < 9) : G__law_out_of [.int n, .int k] = .ok (.int (ch n k)) [.int n, .int k] := by rw [G__law_out_of, fnG_eq]; exact isIt_ok (lout_all ⟨n, hn⟩ ⟨k, hk⟩)
theorem ch_all : ∀ n k : Fin 9, (ch n.val k.val).natAbs < 100 ∧ 0 ≤ ch n.val k.val := by decide +kernel
theorem ch_lt {n k : Nat} (hn : n < 9) (hk : k < 9) : (ch n k).natAbs < 100 := (ch_all ⟨n, hn⟩ ⟨k, hk⟩).1
/-! counts_in, sums_in -/
theorem atI_map {α : Type} {F : α → D} (xs : List α) (k : Nat) (h : k < xs.length) : atI (xs.map F) (k : Int) = some (F xs[k]) := by
  unfold atI ixN
  have h1 : ((k : Int) < ((xs.map F).length : Nat)) := by simp; omega
  rw [if_pos (by omega), if_pos h1]
  simp [h]
def gt0 (xs : List Int) (k : Nat) : Int := xs.getD k 0
theorem getD_lt {xs : List Int} {k : Nat} (h : k < xs.length) : gt0 xs k = xs[k] := by simp [gt0, h]
theorem ix_tup {xs : List Int} {k : Nat} (h : k < xs.length) : dIx (.tup (xs.map .int)) (.int k) = .ok (.int (gt0 xs k)) := by
  simp [dIx, atI_map xs k h, getD_lt h]
theorem ix_lst {o} {xs : List Int} {k : Nat} (h : k < xs.length) : dIx (.lst o (xs.map .int)) (.int k) = .ok (.int (gt0 xs k)) := by
  simp [dIx, atI_map xs k h, getD_lt h]
def cin (xs : List Int) : List Int := (List.range xs.length).map fun r => ((List.range (xs.length - r)).map fun (k : Nat) => sg k * ch (r + k) r * gt0 xs (r + k)).sum
def sin (xs : List Int) : List Int := (List.range xs.length).map fun r => ((List.range (xs.length - r)).map fun (k : Nat) => ch (r + k) r * gt0 xs (r + k)).sum
def big (x : Int) : Prop := x.natAbs < 2 ^ 900
theorem sg_abs (i : Int) : (sg i).natAbs = 1 := by unfold sg; split <;> rfl
theorem rng_nat {n : Nat} : rng 0 (n : Int) = (List.range n).map fun k => D.int (k : Nat) := by
  unfold rng
  rw [show ((n : Int) - 0).toNat = n by omega]
  exact List.map_congr_left fun k _ => by rw [Int.zero_add]
theorem rng_nat2 {a n : Nat} : rng a (n : Int) = (List.range (n - a)).map fun k => D.int ((a + k : Nat)) := by
  unfold rng
  rw [show ((n : Int) - a).toNat = n - a by omega]
  exact List.map_congr_left fun k _ => by rw [Int.natCast_add]
theorem small_nat {n : Nat} (h : n ≤ 100) : small62 (n : Int) = true := by unfold small62; simp; omega
theorem line_nat {n : Nat} (h : n ≤ 100) : n ≤ sizeLine := Nat.le_trans h (by decide)
theorem big_get {xs : List Int} (hb : ∀ x ∈ xs, big x) {k : Nat} (h : k < xs.length) : (gt0 xs k).natAbs < 2 ^ 900 := by
  rw [getD_lt h]; exact hb _ (List.getElem_mem h)
theorem pow_le' : 2 ^ 900 ≤ 2 ^ 1000 := Nat.pow_le_pow_right (by decide) (by decide)
theorem lt_100 {n : Nat} (h : n < 100) : n < 2 ^ 1000 := Nat.lt_of_lt_of_le h (Nat.le_trans (show 100 ≤ 2 ^ 7 by decide) (Nat.pow_le_pow_right (by decide) (by decide)))
theorem mul_sc {s c x : Int} (hs : s.natAbs = 1) (hc : c.natAbs < 100) (hx : x.natAbs < 2 ^ 900) : mulOk s c = true ∧ mulOk (s * c) x = true ∧ mulOk c x = true := by
  have h1 : (s * c).natAbs < 100 := by rw [Int.natAbs_mul, hs, Nat.one_mul]; exact hc
  exact ⟨mulOk_of (lt_100 (by omega)) (lt_100 hc), mulOk_of (lt_100 h1) (Nat.lt_of_lt_of_le hx pow_le'), mulOk_of (lt_100 hc) (Nat.lt_of_lt_of_le hx pow_le')⟩
@[simp] theorem sum_of {α : Type} {o} {f : α → Int} {l : List α} : dSum (.lst o (l.map fun k => D.int (f k))) = .ok (.int (l.map f).sum) := by simp [dSum, dInts_of]
theorem counts_in_ok (xs : List Int) (hl : xs.length ≤ 8) (hb : ∀ x ∈ xs, big x) : G_counts_in [.tup (xs.map .int)] = .ok (.lst true ((cin xs).map .int)) [.tup (xs.map .int)] := by
  have hs : small62 (xs.length : Int) = true := small_nat (by omega)
  unfold G_counts_in b_counts_in
  simp
  rw [eLc_map (List.range xs.length) (fun k => D.int (k : Nat)) (fun r => .int (((List.range (xs.length - r)).map fun (k : Nat) => sg k * ch (r + k) r * gt0 xs (r + k)).sum)) (k := ⟨rng 0 xs.length, none⟩) (e1 := [some (.tup (xs.map .int)), some (.int xs.length), none, none])]
  · simp [cin]
  · simp [hs]
  · exact rng_nat
  · simp
  · rw [List.length_range]; exact line_nat (by omega)
  · simp
  · intro r hr
    have hr : r < xs.length := by simpa using hr
    simp [lcStep]
    rw [eLc_map (List.range (xs.length - r)) (fun k => D.int ((r + k : Nat))) (fun k => .int (sg k * ch (r + k) r * gt0 xs (r + k))) (k := ⟨rng r xs.length, none⟩) (e1 := [some (.tup (xs.map .int)), some (.int xs.length), some (.int r), none])]
    · simp [← List.map_map (g := D.int)]
    · simp [hs, small_nat (n := r) (by omega)]
    · exact rng_nat2
    · simp
    · rw [List.length_range]; exact line_nat (by omega)
    · simp
    · intro k hk
      have hk : r + k < xs.length := by simp at hk; omega
      have e1 : ((r + k : Nat) : Int) - r = k := by omega
      have q := mul_sc (sg_abs k) (ch_lt (n := r + k) (k := r) (by omega) (by omega)) (big_get hb hk)
      simp [lcStep, sign_ok, out_ok (n := r + k) (k := r) (by omega) (by omega), ix_tup hk, e1, q.1, q.2.1, ← Int.natCast_add]
end Law

set_option maxHeartbeats 4000000
namespace Law
open PySem PySem.Spec PyProof.Rows L2 Tr
theorem sums_in_tup (xs : List Int) (hl : xs.length ≤ 8) (hb : ∀ x ∈ xs, big x) : G_sums_in [.tup (xs.map .int)] = .ok (.lst true ((sin xs).map .int)) [.tup (xs.map .int)] := by
  have hs : small62 (xs.length : Int) = true := small_nat (by omega)
  unfold G_sums_in b_sums_in
  simp
  rw [eLc_map (List.range xs.length) (fun k => D.int (k : Nat)) (fun r => .int (((List.range (xs.length - r)).map fun (k : Nat) => ch (r + k) r * gt0 xs (r + k)).sum)) (k := ⟨rng 0 xs.length, none⟩) (e1 := [some (.tup (xs.map .int)), some (.int xs.length), none, none])]
  · simp [sin]
  · simp [hs]
  · exact rng_nat
  · simp
  · rw [List.length_range]; exact line_nat (by omega)
  · simp
  · intro r hr
    have hr : r < xs.length := by simpa using hr
    simp [lcStep]
    rw [eLc_map (List.range (xs.length - r)) (fun k => D.int ((r + k : Nat))) (fun k => .int (ch (r + k) r * gt0 xs (r + k))) (k := ⟨rng r xs.length, none⟩) (e1 := [some (.tup (xs.map .int)), some (.int xs.length), some (.int r), none])]
    · simp [← List.map_map (g := D.int)]
    · simp [hs, small_nat (n := r) (by omega)]
    · exact rng_nat2
    · simp
    · rw [List.length_range]; exact line_nat (by omega)
    · simp
    · intro k hk
      have hk : r + k < xs.length := by simp at hk; omega
      have q := mul_sc (sg_abs k) (ch_lt (n := r + k) (k := r) (by omega) (by omega)) (big_get hb hk)
      simp [lcStep, out_ok (n := r + k) (k := r) (by omega) (by omega), ix_tup hk, q.2.2, ← Int.natCast_add]
theorem sums_in_lst (xs : List Int) (hl : xs.length ≤ 8) (hb : ∀ x ∈ xs, big x) : G_sums_in [.lst true (xs.map .int)] = .ok (.lst true ((sin xs).map .int)) [.lst true (xs.map .int)] := by
  have hs : small62 (xs.length : Int) = true := small_nat (by omega)
  unfold G_sums_in b_sums_in
  simp
  rw [eLc_map (List.range xs.length) (fun k => D.int (k : Nat)) (fun r => .int (((List.range (xs.length - r)).map fun (k : Nat) => ch (r + k) r * gt0 xs (r + k)).sum)) (k := ⟨rng 0 xs.length, none⟩) (e1 := [some (.lst true (xs.map .int)), some (.int xs.length), none, none])]
  · simp [sin]
  · simp [hs]
  · exact rng_nat
  · simp
  · rw [List.length_range]; exact line_nat (by omega)
  · simp
  · intro r hr
    have hr : r < xs.length := by simpa using hr
    simp [lcStep]
    rw [eLc_map (List.range (xs.length - r)) (fun k => D.int ((r + k : Nat))) (fun k => .int (ch (r + k) r * gt0 xs (r + k))) (k := ⟨rng r xs.length, none⟩) (e1 := [some (.lst true (xs.map .int)), some (.int xs.length), some (.int r), none])]
    · simp [← List.map_map (g := D.int)]
    · simp [hs, small_nat (n := r) (by omega)]
    · exact rng_nat2
    · simp
    · rw [List.length_range]; exact line_nat (by omega)
    · simp
    · intro k hk
      have hk : r + k < xs.length := by simp at hk; omega
      have q := mul_sc (sg_abs k) (ch_lt (n := r + k) (k := r) (by omega) (by omega)) (big_get hb hk)
      simp [lcStep, out_ok (n := r + k) (k := r) (by omega) (by omega), ix_lst hk, q.2.2, ← Int.natCast_add]
@[simp] theorem all_of {α : Type} {o} {f : α → Bool} {l : List α} : dAll (.lst o (l.map fun k => D.bl (f k))) = .ok (.bl (l.all f)) := by
  have h := all_bls (o := o) (ns := l.map f)
  rw [List.map_map] at h
  rw [show (l.map fun k => D.bl (f k)) = l.map (D.bl ∘ f) from rfl, h]
  simp [List.all_map, Function.comp_def]
@[simp] theorem it_tup {ds} : D.items (.tup ds) = some ds := by simp [D.items]
theorem need_sums_ok (xs : List Int) (h2 : 2 ≤ xs.length) (h7 : xs.length ≤ 7) (hb : ∀ x ∈ xs, x.natAbs < 10 ^ 30) : G_need_sums [.tup (xs.map .int)] = .ok .non [.tup (xs.map .int)] := by
  unfold G_need_sums b_need_sums
  have e2 : (2 : Int) ≤ xs.length := by omega
  have e7 : (xs.length : Int) ≤ 7 := by omega
  simp [e2, e7]
  rw [eLc_map xs (fun k => D.int k) (fun _ => .bl true) (k := ⟨xs.map .int, none⟩) (e1 := [some (.tup (xs.map .int)), none])]
  · simp
  · simp
  · rfl
  · simp
  · exact line_nat (by omega)
  · simp
  · intro x hx
    have hx := hb x hx
    simp [lcStep, whole_nn]
    omega
theorem counts_of_ok (xs : List Int) (h2 : 2 ≤ xs.length) (h7 : xs.length ≤ 7) (hb : ∀ x ∈ xs, x.natAbs < 10 ^ 30) : G_counts_of [.tup (xs.map .int)] = .ok (.tup ((cin xs).map .int)) [.tup (xs.map .int)] := by
  unfold G_counts_of b_counts_of
  simp [need_sums_ok xs h2 h7 hb, counts_in_ok xs (by omega) (fun x hx => Nat.lt_of_lt_of_le (hb x hx) (Nat.le_trans (show 10 ^ 30 ≤ 2 ^ 100 by decide) (Nat.pow_le_pow_right (by decide) (by decide))))]
theorem sums_of_ok (xs : List Int) (h2 : 2 ≤ xs.length) (h7 : xs.length ≤ 7) (hb : ∀ x ∈ xs, x.natAbs < 10 ^ 30) : G_sums_of [.tup (xs.map .int)] = .ok (.tup ((sin xs).map .int)) [.tup (xs.map .int)] := by
  unfold G_sums_of b_sums_of
  simp [need_sums_ok xs h2 h7 hb, sums_in_tup xs (by omega) (fun x hx => Nat.lt_of_lt_of_le (hb x hx) (Nat.le_trans (show 10 ^ 30 ≤ 2 ^ 100 by decide) (Nat.pow_le_pow_right (by decide) (by decide))))]
/-- the sums that stand in ended and at_least -/
def endS (xs : List Int) (m : Nat) : Int := ((List.range m).map fun (k : Nat) => sg k * gt0 xs (1 + k)).sum
def atlS (xs : List Int) (m : Nat) : Int := ((List.range (xs.length - m)).map fun (k : Nat) => sg k * ch (m + k - 1) (m - 1) * gt0 xs (m + k)).sum
theorem big_of {x : Int} (h : x.natAbs < 10 ^ 30) : x.natAbs < 2 ^ 900 := Nat.lt_of_lt_of_le h (Nat.le_trans (show 10 ^ 30 ≤ 2 ^ 100 by decide) (Nat.pow_le_pow_right (by decide) (by decide)))
theorem ended_ok (xs : List Int) (h2 : 2 ≤ xs.length) (h7 : xs.length ≤ 7) (hb : ∀ x ∈ xs, x.natAbs < 10 ^ 30) (m : Nat) (h1 : 1 ≤ m) (hm : m < xs.length) : G_ended [.tup (xs.map .int), .int m] = .ok (.int (endS xs m)) [.tup (xs.map .int), .int m] := by
  unfold G_ended b_ended
  have e1 : (1 : Int) ≤ m := by omega
  have e2 : (m : Int) ≤ xs.length - 1 := by omega
  have hs : small62 ((m : Int) + 1) = true := small_nat (n := m + 1) (by omega)
  simp [need_sums_ok xs h2 h7 hb, arr, whole_ii, e1, e2]
  rw [eLc_map (List.range (m + 1 - 1)) (fun k => D.int ((1 + k : Nat))) (fun k => .int (sg k * gt0 xs (1 + k))) (k := ⟨rng 1 ((m + 1 : Nat) : Int), none⟩) (e1 := [some (.tup (xs.map .int)), some (.int m), none])]
  · simp [endS]
  · simp [hs, show small62 1 = true by decide]
  · exact rng_nat2 (a := 1)
  · simp
  · rw [List.length_range]; exact line_nat (by omega)
  · simp
  · intro k hk
    have hk : 1 + k < xs.length := by simp at hk; omega
    have q := mul_sc (s := sg k) (c := sg k) (sg_abs k) (by rw [sg_abs]; decide) (big_get (fun x hx => big_of (hb x hx)) hk)
    have e3 : (1 : Int) + k - 1 = k := by omega
    have i3 := ix_tup hk
    simp only [Int.natCast_add, Int.cast_ofNat_Int] at i3
    simp [lcStep, sign_ok, e3, q.2.2]
    simp [i3, q.2.2]
theorem at_least_ok (xs : List Int) (h2 : 2 ≤ xs.length) (h7 : xs.length ≤ 7) (hb : ∀ x ∈ xs, x.natAbs < 10 ^ 30) (m : Nat) (h1 : 1 ≤ m) (hm : m < xs.length) : G_at_least [.tup (xs.map .int), .int m] = .ok (.int (atlS xs m)) [.tup (xs.map .int), .int m] := by
  unfold G_at_least b_at_least
  have e1 : (1 : Int) ≤ m := by omega
  have e2 : (m : Int) ≤ xs.length - 1 := by omega
  have hs : small62 (xs.length : Int) = true := small_nat (by omega)
  simp [need_sums_ok xs h2 h7 hb, arr, whole_ii, e1, e2]
  rw [eLc_map (List.range (xs.length - m)) (fun k => D.int ((m + k : Nat))) (fun k => .int (sg k * ch (m + k - 1) (m - 1) * gt0 xs (m + k))) (k := ⟨rng m xs.length, none⟩) (e1 := [some (.tup (xs.map .int)), some (.int m), none])]
  · simp [atlS]
  · simp [hs, small_nat (n := m) (by omega)]
  · exact rng_nat2
  · simp
  · rw [List.length_range]; exact line_nat (by omega)
  · simp
  · intro k hk
    have hk : m + k < xs.length := by simp at hk; omega
    have q := mul_sc (sg_abs k) (ch_lt (n := m + k - 1) (k := m - 1) (by omega) (by omega)) (big_get (fun x hx => big_of (hb x hx)) hk)
    have e3 : ((m : Int) + k) - m = k := by omega
    have e4 : ((m : Int) + k) - 1 = ((m + k - 1 : Nat) : Int) := by omega
    have e5 : ((m : Int)) - 1 = ((m - 1 : Nat) : Int) := by omega
    have i3 := ix_tup hk
    simp only [Int.natCast_add] at i3
    simp [lcStep, sign_ok, e3, e4, e5, out_ok (n := m + k - 1) (k := m - 1) (by omega) (by omega), q.1, q.2.1]
    simp [i3, q.2.1]
end Law

set_option maxHeartbeats 4000000
namespace Law
open PySem PySem.Spec PyProof.Rows L2 Tr
abbrev tI (s : List Int) : D := .tup (s.map .int)
abbrev setD (ss : List (List Int)) : D := .tup (ss.map tI)
def oft (ss : List (List Int)) (t : Nat) : Int := ((ss.filter fun s => decide ((t : Int) ∈ s)).length : Nat)
def cby (n : Nat) (ss : List (List Int)) : List Int := (List.range (ss.length + 1)).map fun (k : Nat) => (((List.range n).map (oft ss)).count (k : Int) : Nat)
theorem counts_by_ok (n : Nat) (ss : List (List Int)) (hn : n ≤ 30) (hs : ss.length ≤ 6) : G_counts_by [.int n, setD ss] = .ok (.lst true ((cby n ss).map .int)) [.int n, setD ss] := by
  unfold G_counts_by b_counts_by
  simp
  rw [eLc_map (List.range n) (fun k => D.int (k : Nat)) (fun t => .int (oft ss t)) (k := ⟨rng 0 n, none⟩) (e1 := [some (.int n), some (setD ss), none, none, none, none])]
  · simp
    rw [eLc_map (List.range (ss.length + 1)) (fun k => D.int (k : Nat)) (fun (k : Nat) => .int (((List.range n).map (oft ss)).count (k : Int) : Nat)) (k := ⟨rng 0 ((ss.length : Int) + 1), none⟩) (e1 := [some (.int n), some (setD ss), some (.lst true ((List.range n).map fun t => .int (oft ss t))), none, none, none])]
    · simp [cby]
    · have h1 : small62 ((ss.length : Int) + 1) = true := small_nat (n := ss.length + 1) (by omega)
      simp [h1]
    · exact rng_nat (n := ss.length + 1)
    · simp
    · rw [List.length_range]; exact line_nat (by omega)
    · simp
    · intro k hk
      simp [lcStep, isLst, count_of]
  · simp [small_nat (n := n) (by omega)]
  · exact rng_nat
  · simp
  · rw [List.length_range]; exact line_nat (by omega)
  · simp
  · intro t ht
    simp [lcStep]
    rw [eLc_pure ss tI (fun s => decide ((t : Int) ∈ s)) tI (k := ⟨ss.map tI, none⟩) (e1 := [some (.int n), some (setD ss), none, some (.int t), none, none])]
    · simp [oft]
    · simp
    · rfl
    · simp
    · exact line_nat (by omega)
    · simp
    · intro s hs
      by_cases h : (t : Int) ∈ s <;> simp [lcStep, in_tup, h]
def Goods (n : Nat) (ss : List (List Int)) : Prop := ∀ s ∈ ss, s.length ≤ 30 ∧ (∀ x ∈ s, 0 ≤ x ∧ x < n) ∧ s.Pairwise (· < ·)
theorem near_far : ∀ {s : List Int}, s.Pairwise (· < ·) → ∀ p ∈ s.zip (s.drop 1), p.1 < p.2
  | [], _, p, hp => by simp at hp
  | [x], _, p, hp => by simp at hp
  | x :: y :: s, h, p, hp => by
    simp at hp
    rw [List.pairwise_cons] at h
    rcases hp with rfl | hp
    · exact h.1 y (by simp)
    · exact near_far h.2 p (by simpa using hp)
theorem are_sets_ok (n : Nat) (ss : List (List Int)) (hs : ss.length ≤ 6) (hg : Goods n ss) : G_are_sets [.int n, setD ss] = .ok (.bl true) [.int n, setD ss] := by
  unfold G_are_sets b_are_sets
  simp
  obtain ⟨e', h1, x, h2⟩ := forL_inv0 (g := gN 2) (b := (sCons (sIf (tOrF (tNotF (tOfE (eBlt (d2 dIsi) (aCons (xSlot 2) (aCons (xOf (eC (.ty "tuple"))) aNil))))) (tNotF (tOfE (eBlt (d1 dAll) (aCons (xOf (eLc [3] (iSlot 2) (gN 3) tYesF (eCallK G_is_whole [some 0, some 1] [] (aCons (xSlot 3) aNil) (aCons (xOf (eC (.int 0))) (aCons (xOf (eOp2 dSub (xSlot 0) (xOf (eC (.int 1))))) aNil))))) aNil))))) (sRet (eC (.bl false))) sNil)
      (sIf (tNotF (tOfE (eBlt (d1 dAll) (aCons (xOf (eLc [4, 5] (iZip2 (aCons (xSlot 2) (aCons (xOf (eSl dSl (xSlot 2) (oAt (xOf (eC (.int 1)))) oNo)) aNil))) (gTp 2 (gsCons (gN 4) (gsCons (gN 5) gsNil))) tYesF (eOp2 dLt (xSlot 4) (xSlot 5)))) aNil)))) (sRet (eC (.bl false))) sNil))) (ds := ss.map tI) (e := [some (.int n), some (setD ss), none, none, none, none]) (fun i e => ∃ x, e = [some (.int n), some (setD ss), x, none, none, none]) ⟨none, rfl⟩ (by
    rintro j d e hd ⟨x, rfl⟩
    obtain ⟨s, hs1, rfl⟩ : ∃ s, s ∈ ss ∧ d = tI s := by
      have := List.mem_of_getElem? hd
      simp at this
      obtain ⟨s, h1, h2⟩ := this
      exact ⟨s, h1, h2.symm⟩
    obtain ⟨g1, g2, g3⟩ := hg s hs1
    refine ⟨[some (.int n), some (setD ss), some (tI s), none, none, none], [some (.int n), some (setD ss), some (tI s), none, none, none], by simp, ?_, some (tI s), rfl⟩
    simp
    rw [eLc_map s (fun k => D.int k) (fun _ => .bl true) (k := ⟨s.map .int, none⟩) (e1 := [some (.int n), some (setD ss), some (tI s), none, none, none])]
    · simp
      rw [eLc_map (s.zip (s.drop 1)) (fun p => D.tup [.int p.1, .int p.2]) (fun _ => .bl true) (k := ⟨zipD (s.map .int) ((s.drop 1).map .int), none⟩) (e1 := [some (.int n), some (setD ss), some (tI s), none, none, none])]
      · simp
      · have c1 : cutD (s.map D.int) (some 1) none = (s.drop 1).map .int := by rw [List.map_drop]; exact cutD_from _ 1
        simp [dSl, c1]
      · exact zipD_ints _ _
      · simp
      · exact Nat.le_trans (by rw [List.length_zip]; exact Nat.min_le_left _ _) (line_nat (n := s.length) (by omega))
      · simp
      · intro p hp
        have := near_far g3 p hp
        simp [lcStep, this]
    · simp
    · rfl
    · simp
    · exact line_nat (by omega)
    · simp
    · intro x hx
      have := g2 x hx
      simp [lcStep, arr, whole_ii]
      omega)
  rw [h1, h2]
  simp
theorem need_things_ok (n : Nat) (hn : n ≤ 30) : G_need_things [.int n] = .ok .non [.int n] := by
  unfold G_need_things b_need_things
  have e1 : (0 : Int) ≤ n := by omega
  have e2 : (n : Int) ≤ 30 := by omega
  simp [arr, whole_ii, e1, e2]
theorem need_sets_ok (n : Nat) (ss : List (List Int)) (hn : n ≤ 30) (h1 : 1 ≤ ss.length) (hs : ss.length ≤ 6) (hg : Goods n ss) : G_need_sets [.int n, setD ss] = .ok .non [.int n, setD ss] := by
  unfold G_need_sets b_need_sets
  have e1 : (1 : Int) ≤ ss.length := by omega
  have e2 : (ss.length : Int) ≤ 6 := by omega
  simp [need_things_ok n hn, are_sets_ok n ss hs hg, e1, e2]
theorem cby_len (n : Nat) (ss : List (List Int)) : (cby n ss).length = ss.length + 1 := by simp [cby]
theorem cby_le (n : Nat) (ss : List (List Int)) : ∀ x ∈ cby n ss, 0 ≤ x ∧ x ≤ n := by
  intro x hx
  simp only [cby, List.mem_map] at hx
  obtain ⟨k, _, rfl⟩ := hx
  have := List.count_le_length (a := (k : Int)) (l := (List.range n).map (oft ss))
  simp at this
  omega
theorem meet_sums_ok (n : Nat) (ss : List (List Int)) (hn : n ≤ 30) (h1 : 1 ≤ ss.length) (hs : ss.length ≤ 6) (hg : Goods n ss) : G_meet_sums [.int n, setD ss] = .ok (.tup ((sin (cby n ss)).map .int)) [.int n, setD ss] := by
  unfold G_meet_sums b_meet_sums
  have hl := cby_len n ss
  have h := sums_in_lst (cby n ss) (by omega) (fun x hx => by
    have := cby_le n ss x hx
    exact big_of (by omega))
  simp [need_sets_ok n ss hn h1 hs hg, counts_by_ok n ss hn hs, h]
theorem just_counts_ok (n : Nat) (ss : List (List Int)) (hn : n ≤ 30) (h1 : 1 ≤ ss.length) (hs : ss.length ≤ 6) (hg : Goods n ss) : G_just_counts [.int n, setD ss] = .ok (.tup ((cby n ss).map .int)) [.int n, setD ss] := by
  unfold G_just_counts b_just_counts
  simp [need_sets_ok n ss hn h1 hs hg, counts_by_ok n ss hn hs]
end Law

set_option maxHeartbeats 4000000
namespace Law
open PySem PySem.Spec PyProof.Rows L2 Tr
def Cr (n : Nat) (d : D) : Prop := ∃ a b c : Int, d = .lst true [.int a, .int b, .int c] ∧ 0 ≤ c ∧ c ≤ n
theorem small_mul {i j : Int} (hi : i.natAbs < 10 ^ 200) (hj : j.natAbs < 10 ^ 200) : mulOk i j = true := by
  have h : 10 ^ 200 ≤ 2 ^ 1000 := Nat.le_trans (show 10 ^ 200 ≤ 16 ^ 200 from Nat.pow_le_pow_left (by decide) _) (by rw [show (16 : Nat) = 2 ^ 4 by decide, ← Nat.pow_mul]; exact Nat.pow_le_pow_right (by decide) (by decide))
  exact mulOk_of (Nat.lt_of_lt_of_le hi h) (Nat.lt_of_lt_of_le hj h)
theorem ix3 {o} {a b c : D} : (a.flag = false → dIx (.lst o [a, b, c]) (.int 0) = .ok a) ∧ (b.flag = false → dIx (.lst o [a, b, c]) (.int 1) = .ok b) ∧ (c.flag = false → dIx (.lst o [a, b, c]) (.int 2) = .ok c) := by
  refine ⟨?_, ?_, ?_⟩ <;> intro h <;> simp [dIx, atI, ixN, h]
theorem log_lt {t : Int} (h0 : 0 < t) (h : t < 2 ^ 100) : t.natAbs.log2 < 9000 := by
  have : t.natAbs < 2 ^ 100 := by omega
  exact Nat.lt_trans (log2_lt' (by decide) this) (by decide)
theorem ladle_ok {n : Nat} {d : D} {t : Int} (h : Cr n d) (hn : n ≤ 100000) (h0 : 0 < t) (h1 : t < 2 ^ 100) : ∃ k d', G__law_ladle [d, .int t] = .ok (.int k) [d', .int t] ∧ Cr (n + 1) d' ∧ 0 ≤ k ∧ k < t := by
  obtain ⟨a, b, c, rfl, c0, c1⟩ := h
  have hl := log_lt h0 h1
  by_cases ha : 0 < a
  · refine ⟨a % t, .lst true [.int (a / t), .int b, .int c], ?_, ⟨_, _, _, rfl, c0, by omega⟩, Int.emod_nonneg _ (by omega), Int.emod_lt_of_pos _ h0⟩
    unfold G__law_ladle b__law_ladle
    simp [ix3, ha, h0, hl, ixN]
  · have m1 : 0 ≤ (b + 86028121 * (c + 1)) % 2305843009213693951 := Int.emod_nonneg _ (by omega)
    have m2 : (b + 86028121 * (c + 1)) % 2305843009213693951 < 2305843009213693951 := Int.emod_lt_of_pos _ (by omega)
    generalize hone : (b + 86028121 * (c + 1)) % 2305843009213693951 = one at m1 m2
    have q1 : mulOk 86028121 (c + 1) = true := small_mul (by omega) (by omega)
    have q2 : mulOk one one = true := small_mul (by omega) (by omega)
    have q3 : mulOk 271 (c + 1) = true := small_mul (by omega) (by omega)
    have q4 : mulOk ((one * one + 271 * (c + 1)) % 2305843009213693921) 5915587277 = true := small_mul (by omega) (by omega)
    have l2 : Nat.log2 65543 < 9000 := by decide
    refine ⟨((one * one + 271 * (c + 1)) % 2305843009213693921 * 5915587277 + one) / 65543 % t, .lst true [.int a, .int b, .int (c + 1)], ?_, ⟨_, _, _, rfl, by omega, by omega⟩, Int.emod_nonneg _ (by omega), Int.emod_lt_of_pos _ h0⟩
    unfold G__law_ladle b__law_ladle
    simp [ix3, ha, h0, hl, ixN, q1, q2, q3, q4, hone, l2]
theorem pow_1 : powOk 10 58 = true := by decide +kernel
theorem pow_2 : powOk (10 ^ 58) 5 = true := by decide +kernel
theorem pow_3 : powOk 10 17 = true := by decide +kernel
theorem atI_scr (ns : List Int) (k : Nat) (h : k < ns.length) : atI ns (k : Int) = some ns[k] := by
  unfold atI ixN
  rw [if_pos (by omega), if_pos (by omega)]
  simp [h]
theorem crock_ok (ns : List Int) (spot : Nat) (hs : spot ≤ 10) : ∃ d, G__law_crock [.scr ns, .int spot] = .ok d [.scr ns, .int spot] ∧ Cr 0 d := by
  have a1 : (0 : Int) < (10 ^ 58) ^ 5 := by decide
  have q1 : ∀ x : Int, mulOk (x % 2305843009213693907) 101 = true := fun x => by
    have m1 : 0 ≤ x % 2305843009213693907 := Int.emod_nonneg _ (by omega)
    have m2 : x % 2305843009213693907 < 2305843009213693907 := Int.emod_lt_of_pos _ (by omega)
    exact small_mul (by omega) (by omega)
  have q2 : mulOk 1171 spot = true := small_mul (by omega) (by omega)
  have q3 : mulOk 43 1 = true := by decide +kernel
  have q4 : mulOk 43 0 = true := by decide +kernel
  have q5 : mulOk 967 spot = true := small_mul (by omega) (by omega)
  unfold G__law_crock b__law_crock
  by_cases h : spot < ns.length
  · have hx : dIx (.scr ns) (.int spot) = .ok (.int ns[spot]) := by simp [dIx, atI_scr ns spot h]
    by_cases c : ns[spot] < 0
    · simp [-Int.reducePow, -Int.reduceMul, h, hx, c, pow_1, pow_2, pow_3, a1, q1, q2, q3, q4]
      exact ⟨_, rfl, _, _, 0, rfl, by omega, by omega⟩
    · simp [-Int.reducePow, -Int.reduceMul, h, hx, c, pow_1, pow_2, pow_3, a1, q1, q2, q3, q4]
      exact ⟨_, rfl, _, _, 0, rfl, by omega, by omega⟩
  · have c : ¬ (967 * (spot : Int) + 83 < 0) := by omega
    simp [-Int.reducePow, -Int.reduceMul, h, c, pow_1, pow_2, pow_3, a1, q1, q2, q3, q4, q5]
    exact ⟨_, rfl, _, _, 0, rfl, by omega, by omega⟩
/-! the lots -/
abbrev lstT (o : Bool) (L : List (List Int)) : D := .lst o (L.map tI)
theorem pyL_tups : ∀ L : List (List Int), pyL (L.map tI) = some (L.map fun s => .tuple (s.map .int))
  | [] => by simp [pyL]
  | x :: xs => by simp [pyL, D.py, pyL_ints, pyL_tups xs]
theorem lay_tups : ∀ L : List (List Int), PyData.canLayAll0 (L.map fun s => .tuple (s.map .int)) = true ∧ PyData.depthAll (L.map fun s => .tuple (s.map .int)) ≤ 1
  | [] => by simp [PyData.canLayAll0, PyData.depthAll]
  | x :: xs => by
    have := lay_tups xs
    simp [PyData.canLayAll0, PyData.depthAll, PyData.canLay0, PyData.depth, lay_ints, this.1]
    exact Nat.max_le.mpr ⟨Nat.le_refl _, this.2⟩
theorem ne_nil {o o' : Bool} {L : List (List Int)} : dEq true (lstT o L) (.lst o' []) = .ok (.bl (!decide (L = []))) := by
  have h := lay_tups L
  have h2 : 1 + PyData.depthAll (L.map fun s => .tuple (s.map .int)) ≤ 64 := by omega
  cases L with
  | nil => simp [dEq, D.py, pyL, SeqAt.shaped, PyData.eqv, PyData.canLay0, PyData.depth, PyData.canLayAll0, PyData.depthAll, PyData.eqvAll]
  | cons x xs =>
    have h3 := pyL_tups (x :: xs)
    simp only [List.map_cons] at h h2 h3
    have k1 : PyData.canLayAll0 [] = true := by simp [PyData.canLayAll0]
    have k2 : PyData.depthAll [] = 0 := by simp [PyData.depthAll]
    simp [dEq, D.py, h3, pyL, SeqAt.shaped, PyData.eqv, PyData.canLay0, PyData.depth, h.1, k1, k2, PyData.eqvAll]
    omega
theorem ne_unit {xs : List Int} : dEq true (tI xs) (.tup []) = .ok (.bl (!decide (xs = []))) := by
  have h := eq_tups (b := true) (xs := xs) (ys := [])
  simpa using h
def lo (lot : List Int) : Int := if lot = [] then 0 else lot.getLastD 0 + 1
def ext (m : Nat) (lot : List Int) : List (List Int) := (List.range ((m : Int) - lo lot).toNat).map fun (k : Nat) => lot ++ [lo lot + k]
def lstep (m : Nat) (L : List (List Int)) : List (List Int) := L.flatMap (ext m)
theorem ix_last {lot : List Int} (h : lot ≠ []) : dIx (tI lot) (.int (-1)) = .ok (.int (lot.getLastD 0)) := by
  have hl : 0 < lot.length := List.length_pos_iff.mpr h
  simp only [dIx, atI, ixN, List.length_map]
  rw [if_neg (by omega), if_pos (by omega), show (-1 + (lot.length : Int)).toNat = lot.length - 1 by omega]
  have g : lot[lot.length - 1]? = some (lot[lot.length - 1]'(by omega)) := List.getElem?_eq_getElem _
  simp [g, List.getLastD_eq_getLast?, List.getLast?_eq_getElem?]
@[simp] theorem ap_ext {i f e} : eExt i f e = match gd e i with
  | some (.lst true _) => (f e).bind fun d e1 => match d, gd e1 i with
    | .lst _ es, some (.lst true ds) => if es.all (fun d => !d.flag) = true ∧ ds.length + es.length ≤ sizeLine then .ok .non (e1.set i (some (.lst true (ds ++ es)))) else .stuck
    | _, _ => .stuck
  | _ => .stuck := (rfl)
theorem line_k {n : Nat} (h : n ≤ 1000) : n ≤ sizeLine := Nat.le_trans h (by decide)
def In (m : Nat) (L : List (List Int)) : Prop := ∀ lot ∈ L, lot.length ≤ 5 ∧ ∀ x ∈ lot, 0 ≤ x ∧ x < m
theorem lo_in {m : Nat} {lot : List Int} (h : ∀ x ∈ lot, 0 ≤ x ∧ x < (m : Int)) : 0 ≤ lo lot ∧ lo lot ≤ m := by
  unfold lo
  split
  · omega
  · rename_i h1
    have hm : lot.getLastD 0 ∈ lot := by
      rw [List.getLastD_eq_getLast?, List.getLast?_eq_some_getLast h1]
      exact List.getLast_mem h1
    have := h _ hm
    omega
theorem frz_tups (L : List (List Int)) : frzL (L.map tI) = L.map tI := frzL_map (fun _ => by simp) L
theorem fl_tups (L : List (List Int)) : (L.map tI).all (fun d => !d.flag) = true := noflag_map (fun _ => rfl) L
theorem ext_ok (m : Nat) (hm : m ≤ 5) (L : List (List Int)) (hL : In m L) (M : List (List Int)) (z : D) (x0 : Option D) (hz : ∀ k, k ≤ L.length → M.length + (L.take k |>.flatMap (ext m)).length ≤ 1000) (f : D) :
    ∃ x, forL (gN 4) ((sExpr (eExt 3 (eLc [5] (iRng2f (aCons (xOf (eIf (tOfE (eOp2 (dEq true) (xSlot 4) (xOf (eTup aNil)))) (eOp2 dAdd (xOf (eOp2 dIx (xSlot 4) (xOf (eUn dNeg (xOf (eC (.int 1))))))) (xOf (eC (.int 1)))) (eC (.int 0)))) (aCons (xSlot 0) aNil))) (gN 5) tYesF (eOp2 dAdd (xSlot 4) (xOf (eTup (aCons (xOf (eUse 5)) aNil)))))))) (L.map tI) [some (.int m), some f, some z, some (lstT true M), x0, none] = .nx [some (.int m), some f, some z, some (lstT true (M ++ lstep m L)), x, none] := by
  obtain ⟨e', h1, x, h2⟩ := forL_inv0 (g := gN 4) (b := (sExpr (eExt 3 (eLc [5] (iRng2f (aCons (xOf (eIf (tOfE (eOp2 (dEq true) (xSlot 4) (xOf (eTup aNil)))) (eOp2 dAdd (xOf (eOp2 dIx (xSlot 4) (xOf (eUn dNeg (xOf (eC (.int 1))))))) (xOf (eC (.int 1)))) (eC (.int 0)))) (aCons (xSlot 0) aNil))) (gN 5) tYesF (eOp2 dAdd (xSlot 4) (xOf (eTup (aCons (xOf (eUse 5)) aNil)))))))) (ds := L.map tI) (e := [some (.int m), some f, some z, some (lstT true M), x0, none]) (fun i e => ∃ x, e = [some (.int m), some f, some z, some (lstT true (M ++ (L.take i).flatMap (ext m))), x, none]) ⟨x0, by simp⟩ (by
    rintro j d e hd ⟨x, rfl⟩
    have hj : j < L.length := by
      have := List.getElem?_eq_some_iff.mp hd
      obtain ⟨h, _⟩ := this
      simpa using h
    have hd : d = tI L[j] := by simpa [hj] using hd.symm
    subst hd
    obtain ⟨g1, g2⟩ := hL L[j] (List.getElem_mem hj)
    have hz' := hz j (by omega)
    have hz1 := hz (j + 1) (by omega)
    rw [List.take_succ_eq_append_getElem hj, List.flatMap_append, List.flatMap_singleton] at hz1
    rw [List.take_succ_eq_append_getElem hj, List.flatMap_append, List.flatMap_singleton, ← List.append_assoc]
    generalize hlot : L[j] = lot at *
    generalize hN : M ++ (L.take j).flatMap (ext m) = N at *
    have l1 := lo_in g2
    have s1 : small62 (lo lot) = true := by unfold small62; simp; omega
    have s2 : small62 (m : Int) = true := small_nat (by omega)
    refine ⟨[some (.int m), some f, some z, some (lstT true N), some (tI lot), none], _, by simp, ?_, some (tI lot), rfl⟩
    simp
    rw [eLc_map (List.range ((m : Int) - lo lot).toNat) (fun (k : Nat) => D.int (lo lot + k)) (fun (k : Nat) => tI (lot ++ [lo lot + k])) (k := ⟨rng (lo lot) m, none⟩) (e1 := [some (.int m), some f, some z, some (lstT true N), some (tI lot), none])]
    · have q1 : ((List.range ((m : Int) - lo lot).toNat).map fun (k : Nat) => tI (lot ++ [lo lot + k])) = (ext m lot).map tI := by simp [ext]
      rw [q1]
      have a3 : N.length + (ext m lot).length ≤ sizeLine := by
        rw [← hN]
        simp only [List.length_append] at hz1 ⊢
        exact line_k (by omega)
      have a4 := fl_tups (ext m lot)
      simp [a3]
    · have hn := ne_unit (xs := lot)
      simp only [tI] at hn
      by_cases h : lot = []
      · subst h
        have hn' : dEq true (tI []) (.tup []) = .ok (.bl false) := hn.trans (by simp)
        simp [lo] at s1
        simp [frzL, hn', lo, s1, s2]
      · have := ix_last h
        simp only [tI] at this
        simp [frzL, hn, h, this, s2]
        simp [lo, h] at s1
        simp [lo, h, s1]
    · rfl
    · simp
    · rw [List.length_range]; exact line_nat (by omega)
    · simp
    · intro k hk
      have a1 : lot.length + 1 ≤ sizeLine := line_nat (by omega)
      have a2 : 1 ≤ sizeLine := line_nat (by omega)
      simp [lcStep, dAdd, a1, a2, frzL])
  refine ⟨x, ?_⟩
  rw [h1, h2]
  simp [lstep]
@[simp] theorem it_lst {o ds} : D.items (.lst o ds) = some (frzL ds) := by simp [D.items]
theorem list_tups {o} (L : List (List Int)) : dList (lstT o L) = .ok (lstT true L) := by
  unfold dList
  rw [show lstT o L = .lst o (L.map tI) from rfl]
  simp
theorem add_tups {o o'} (L M : List (List Int)) (h : L.length + M.length ≤ sizeLine) : dAdd (lstT o L) (lstT o' M) = .ok (lstT true (L ++ M)) := by
  unfold dAdd
  rw [show lstT o L = .lst o (L.map tI) from rfl, show lstT o' M = .lst o' (M.map tI) from rfl]
  simp [h]
theorem lots_go (m : Nat) (hm : m ≤ 5) (L M : List (List Int)) (x0 x1 : Option D) (hL : In m L) (hz : ∀ k, k ≤ L.length → ((L.take k).flatMap (ext m)).length ≤ 1000) (hy : M.length + (lstep m L).length ≤ 1000) (hn : L ≠ []) (n : Nat) :
    ∃ x2 x3, whF (tOfE (eOp2 (dEq true) (xSlot 2) (xOf (eLst aNil)))) (sCons (sSet 3 (eLst aNil))
      (sCons (sFor (iVal (eUse 2)) (gN 4) (sExpr (eExt 3 (eLc [5] (iRng2f (aCons (xOf (eIf (tOfE (eOp2 (dEq true) (xSlot 4) (xOf (eTup aNil)))) (eOp2 dAdd (xOf (eOp2 dIx (xSlot 4) (xOf (eUn dNeg (xOf (eC (.int 1))))))) (xOf (eC (.int 1)))) (eC (.int 0)))) (aCons (xSlot 0) aNil))) (gN 5) tYesF (eOp2 dAdd (xSlot 4) (xOf (eTup (aCons (xOf (eUse 5)) aNil))))))))
      (sPar2 1 2 (aCons (xOf (eOp2 dAdd (xSlot 1) (xSlot 3))) (aCons (xOf (eBlt (d1 dList) (aCons (xSlot 3) aNil))) aNil))))) (n + 1) [some (.int m), some (lstT true M), some (lstT true L), x0, x1, none] = whF (tOfE (eOp2 (dEq true) (xSlot 2) (xOf (eLst aNil)))) (sCons (sSet 3 (eLst aNil))
      (sCons (sFor (iVal (eUse 2)) (gN 4) (sExpr (eExt 3 (eLc [5] (iRng2f (aCons (xOf (eIf (tOfE (eOp2 (dEq true) (xSlot 4) (xOf (eTup aNil)))) (eOp2 dAdd (xOf (eOp2 dIx (xSlot 4) (xOf (eUn dNeg (xOf (eC (.int 1))))))) (xOf (eC (.int 1)))) (eC (.int 0)))) (aCons (xSlot 0) aNil))) (gN 5) tYesF (eOp2 dAdd (xSlot 4) (xOf (eTup (aCons (xOf (eUse 5)) aNil))))))))
      (sPar2 1 2 (aCons (xOf (eOp2 dAdd (xSlot 1) (xSlot 3))) (aCons (xOf (eBlt (d1 dList) (aCons (xSlot 3) aNil))) aNil))))) n [some (.int m), some (lstT true (M ++ lstep m L)), some (lstT true (lstep m L)), x2, x3, none] := by
  obtain ⟨x, h⟩ := ext_ok m hm L hL [] (.lst false (L.map tI)) x1 (by simpa using hz) (lstT true M)
  refine ⟨some (lstT true (lstep m L)), x, ?_⟩
  rw [whF]
  have h1 := ne_nil (o := true) (o' := true) (L := L)
  have h2 := frz_tups L
  have h3 := add_tups (o := true) (o' := true) M (lstep m L) (line_k hy)
  have h4 := list_tups (o := true) (lstep m L)
  simp only [lstT, List.map_nil, List.nil_append] at h h1 h3 h4 ⊢
  simp [h1, hn, h2, h, h3, h4]
theorem lots_end (m : Nat) (M : List (List Int)) (x0 x1 : Option D) (n : Nat) :
    whF (tOfE (eOp2 (dEq true) (xSlot 2) (xOf (eLst aNil)))) (sCons (sSet 3 (eLst aNil))
      (sCons (sFor (iVal (eUse 2)) (gN 4) (sExpr (eExt 3 (eLc [5] (iRng2f (aCons (xOf (eIf (tOfE (eOp2 (dEq true) (xSlot 4) (xOf (eTup aNil)))) (eOp2 dAdd (xOf (eOp2 dIx (xSlot 4) (xOf (eUn dNeg (xOf (eC (.int 1))))))) (xOf (eC (.int 1)))) (eC (.int 0)))) (aCons (xSlot 0) aNil))) (gN 5) tYesF (eOp2 dAdd (xSlot 4) (xOf (eTup (aCons (xOf (eUse 5)) aNil))))))))
      (sPar2 1 2 (aCons (xOf (eOp2 dAdd (xSlot 1) (xSlot 3))) (aCons (xOf (eBlt (d1 dList) (aCons (xSlot 3) aNil))) aNil))))) (n + 1) [some (.int m), some (lstT true M), some (lstT true []), x0, x1, none] = .nx [some (.int m), some (lstT true M), some (lstT true []), x0, x1, none] := by
  rw [whF]
  have h1 := ne_nil (o := true) (o' := true) (L := [])
  simp only [lstT, List.map_nil] at h1 ⊢
  simp [h1]
end Law

set_option maxHeartbeats 4000000
namespace Law
open PySem PySem.Spec PyProof.Rows L2 Tr
def inB (m : Nat) (L : List (List Int)) : Bool := L.all fun lot => decide (lot.length ≤ 5) && lot.all fun x => decide (0 ≤ x) && decide (x < m)
theorem inB_ok {m : Nat} {L : List (List Int)} (h : inB m L = true) : In m L := by
  intro lot hl
  have := List.all_eq_true.mp h lot hl
  simp only [Bool.and_eq_true, decide_eq_true_eq, List.all_eq_true] at this
  exact this
def runL (m : Nat) : Nat → List (List Int) → List (List Int) → Option (List (List Int))
  | 0, _, _ => none
  | n + 1, L, M => if L = [] then some M else if inB m L && decide ((lstep m L).length ≤ 1000) && decide (M.length + (lstep m L).length ≤ 1000) then runL m n (lstep m L) (M ++ lstep m L) else none
theorem take_le (m : Nat) (L : List (List Int)) (k : Nat) : ((L.take k).flatMap (ext m)).length ≤ (lstep m L).length := by
  have e : lstep m L = (L.take k).flatMap (ext m) ++ (L.drop k).flatMap (ext m) := by
    unfold lstep
    rw [← List.flatMap_append, List.take_append_drop]
  rw [e, List.length_append]; omega
theorem lots_run (m : Nat) (hm : m ≤ 5) : ∀ (n : Nat) (L M R : List (List Int)) (x0 x1 : Option D), runL m n L M = some R →
    ∃ x2 x3, whF (tOfE (eOp2 (dEq true) (xSlot 2) (xOf (eLst aNil)))) (sCons (sSet 3 (eLst aNil))
      (sCons (sFor (iVal (eUse 2)) (gN 4) (sExpr (eExt 3 (eLc [5] (iRng2f (aCons (xOf (eIf (tOfE (eOp2 (dEq true) (xSlot 4) (xOf (eTup aNil)))) (eOp2 dAdd (xOf (eOp2 dIx (xSlot 4) (xOf (eUn dNeg (xOf (eC (.int 1))))))) (xOf (eC (.int 1)))) (eC (.int 0)))) (aCons (xSlot 0) aNil))) (gN 5) tYesF (eOp2 dAdd (xSlot 4) (xOf (eTup (aCons (xOf (eUse 5)) aNil))))))))
      (sPar2 1 2 (aCons (xOf (eOp2 dAdd (xSlot 1) (xSlot 3))) (aCons (xOf (eBlt (d1 dList) (aCons (xSlot 3) aNil))) aNil))))) n [some (.int m), some (lstT true M), some (lstT true L), x0, x1, none] = .nx [some (.int m), some (lstT true R), some (lstT true []), x2, x3, none]
  | 0, L, M, R, x0, x1, h => by simp [runL] at h
  | n + 1, L, M, R, x0, x1, h => by
    rw [runL] at h
    by_cases hn : L = []
    · subst hn
      simp at h
      subst h
      exact ⟨x0, x1, lots_end m M x0 x1 n⟩
    · rw [if_neg hn] at h
      split at h
      · rename_i hc
        simp only [Bool.and_eq_true, decide_eq_true_eq] at hc
        obtain ⟨x2, x3, h1⟩ := lots_go m hm L M x0 x1 (inB_ok hc.1.1) (fun k _ => Nat.le_trans (take_le m L k) hc.1.2) hc.2 hn n
        obtain ⟨x4, x5, h2⟩ := lots_run m hm n _ _ R x2 x3 h
        exact ⟨x4, x5, by rw [h1, h2]⟩
      · cases h
def lots (m : Nat) : List (List Int) := (runL m 10 [[]] [[]]).getD []
theorem lots_all : ∀ m : Fin 6, runL m.val 10 [[]] [[]] = some (lots m.val) := by decide +kernel
theorem lots_ok (m : Nat) (hm : m ≤ 5) : G__law_lots [.int m] = .ok (lstT true (lots m)) [.int m] := by
  obtain ⟨x2, x3, h⟩ := lots_run m hm 10 [[]] [[]] (lots m) none none (lots_all ⟨m, by omega⟩)
  unfold G__law_lots b__law_lots
  have a1 : 1 ≤ sizeLine := line_nat (by omega)
  have hw := sWhile_at h (by simp)
  simp only [lstT, tI, List.map_cons, List.map_nil] at hw
  simp [frzL, a1]
  rw [hw]
  simp
theorem lots_in : ∀ m : Fin 6, inB m.val (lots m.val) = true ∧ (lots m.val).length ≤ 40 ∧ (lots m.val).all (fun l => decide (l.length ≤ m.val)) = true := by decide +kernel
/-! meets -/
def sub (n : Nat) (ss : List (List Int)) (lot : List Int) (t : Nat) : Bool := lot.all fun a => decide ((t : Int) ∈ ss.getD a.toNat [])
def nb (n : Nat) (ss : List (List Int)) (lot : List Int) : Int := (((List.range n).filter (sub n ss lot)).length : Nat)
def addAt (F : List Int) (k : Nat) (x : Int) : List Int := F.set k (gt0 F k + x)
theorem eq_ones {b o o' : Bool} {α : Type} {l : List α} : dEq b (.lst o (l.map fun _ => D.int 1)) (.lst o' []) = .ok (.bl (if b then !decide (l = []) else decide (l = []))) := by
  have h := eq_lsts (b := b) (o := o) (o' := o') (xs := l.map fun _ => (1 : Int)) (ys := [])
  rw [List.map_map] at h
  simpa [Function.comp_def] using h
theorem zeros (n : Nat) (h : n ≤ 100) : dMul (.lst true [.int 0]) (.int n) = .ok (.lst true ((List.replicate n 0).map .int)) := by
  have e : (List.replicate n [D.int 0]).flatten = List.replicate n (D.int 0) := by
    induction n with
    | zero => rfl
    | succ n ih => rw [List.replicate_succ, List.flatten_cons, ih (by omega)]; rfl
  have h1 : 1 * n ≤ sizeLine := line_nat (by omega)
  have h2 : -(2 ^ 63) ≤ (n : Int) ∧ (n : Int) < 2 ^ 63 := by omega
  unfold dMul
  simp only [List.length_cons, List.length_nil, Int.toNat_natCast, Nat.zero_add, h1, h2, e]
  simp
theorem addAt_len (F : List Int) (k : Nat) (x : Int) : (addAt F k x).length = F.length := by simp [addAt]
theorem set_ints (F : List Int) (k : Nat) (x : Int) : (F.map D.int).set k (.int x) = (F.set k x).map .int := by
  rw [List.map_set]
theorem ixN_nat {n k : Nat} (h : k < n) : ixN n (k : Int) = some k := by
  unfold ixN; rw [if_pos (by omega), if_pos (by omega)]; simp
theorem ix_sets {ss : List (List Int)} {a : Int} (h0 : 0 ≤ a) (h1 : a < ss.length) : dIx (setD ss) (.int a) = .ok (tI (ss.getD a.toNat [])) := by
  have h := atI_map (F := tI) ss a.toNat (by omega)
  rw [show ((a.toNat : Nat) : Int) = a by omega] at h
  have h2 : a.toNat < ss.length := by omega
  simp [dIx, h, h2]
def meetF (n : Nat) (ss : List (List Int)) (ls : List (List Int)) : List Int := ls.foldl (fun F lot => addAt F lot.length (nb n ss lot)) (List.replicate (ss.length + 1) 0)
theorem meetF_len (n : Nat) (ss : List (List Int)) (ls : List (List Int)) : (meetF n ss ls).length = ss.length + 1 := by
  unfold meetF
  have : ∀ (ls : List (List Int)) (F : List Int), (ls.foldl (fun F lot => addAt F lot.length (nb n ss lot)) F).length = F.length := by
    intro ls
    induction ls with
    | nil => intro F; rfl
    | cons l ls ih => intro F; rw [List.foldl_cons, ih, addAt_len]
  rw [this, List.length_replicate]
theorem meets_ok (n : Nat) (ss : List (List Int)) (hn : n ≤ 30) (hs : ss.length ≤ 5) : G__law_meets [.int n, setD ss] = .ok (.tup ((meetF n ss (lots ss.length)).map .int)) [.int n, setD ss] := by
  unfold G__law_meets b__law_meets
  have z := zeros (ss.length + 1) (by omega)
  simp only [Int.natCast_add, Int.cast_ofNat_Int] at z
  have hlin := lots_in ⟨ss.length, by omega⟩
  have hl := inB_ok hlin.1
  have hq := frz_tups (lots ss.length)
  have a1 : 1 ≤ sizeLine := line_nat (by omega)
  have lk := lots_ok ss.length hs
  simp only [lstT] at lk
  simp [z, a1, lk, hq]
  obtain ⟨e', h1, x3, x4, h2⟩ := forL_inv0 (g := gN 3) (b := (sCons (sSet 4 (eLc [5] (iRng1f (aCons (xSlot 0) aNil)) (gN 5) (tOfE (eOp2 (dEq false) (xOf (eLc [6] (iSlot 3) (gN 6) (tOfE (eOp2 (dIn true) (xSlot 5) (xOf (eOp2 dIx (xSlot 1) (xSlot 6))))) (eC (.int 1)))) (xOf (eLst aNil)))) (eUse 5)))
      (sAsg (eOp2 dAdd (xOf (eOp2 dIx (xSlot 2) (xOf (eBlt (d1 dLen) (aCons (xSlot 3) aNil))))) (xOf (eBlt (d1 dLen) (aCons (xSlot 4) aNil)))) (gIx 2 (xOf (eBlt (d1 dLen) (aCons (xSlot 3) aNil))))))) (ds := (lots ss.length).map tI) (e := [some (.int n), some (setD ss), some (.lst true (List.replicate (ss.length + 1) (D.int 0))), none, none, none, none]) (fun i e => ∃ x3 x4, e = [some (.int n), some (setD ss), some (.lst true ((meetF n ss ((lots ss.length).take i)).map .int)), x3, x4, none, none]) ⟨none, none, by simp [meetF]⟩ (by
    rintro j d e hd ⟨x3, x4, rfl⟩
    have hj : j < (lots ss.length).length := by
      obtain ⟨h, _⟩ := List.getElem?_eq_some_iff.mp hd
      simpa using h
    have hd : d = tI (lots ss.length)[j] := by simpa [hj] using hd.symm
    subst hd
    obtain ⟨g1, g2⟩ := hl _ (List.getElem_mem hj)
    have g3 := List.all_eq_true.mp hlin.2.2 _ (List.getElem_mem hj)
    simp only [decide_eq_true_eq] at g3
    rw [List.take_succ_eq_append_getElem hj]
    generalize hlot : (lots ss.length)[j] = lot at *
    have hF : meetF n ss ((lots ss.length).take j ++ [lot]) = addAt (meetF n ss ((lots ss.length).take j)) lot.length (nb n ss lot) := by
      unfold meetF; rw [List.foldl_append]; rfl
    rw [hF]
    have hFl := meetF_len n ss ((lots ss.length).take j)
    generalize meetF n ss ((lots ss.length).take j) = F at *
    refine ⟨[some (.int n), some (setD ss), some (.lst true (F.map .int)), some (tI lot), x4, none, none], _, by simp, ?_, some (tI lot), some (.lst true (((List.range n).filter (sub n ss lot)).map fun k => D.int (k : Nat))), rfl⟩
    have hF1 : lot.length < F.length := by omega
    have hix := ix_lst (o := true) hF1
    have hxn := ixN_nat hF1
    simp
    rw [eLc_pure (List.range n) (fun k => D.int (k : Nat)) (sub n ss lot) (fun k => D.int (k : Nat)) (k := ⟨rng 0 n, none⟩) (e1 := [some (.int n), some (setD ss), some (.lst true (F.map .int)), some (tI lot), x4, none, none])]
    · simp [hix, hxn, addAt, nb]
    · simp [small_nat (n := n) (by omega)]
    · exact rng_nat
    · simp
    · rw [List.length_range]; exact line_nat (by omega)
    · simp
    · intro t ht
      simp [lcStep]
      rw [eLc_pure lot (fun a => D.int a) (fun a => !decide ((t : Int) ∈ ss.getD a.toNat [])) (fun _ => D.int 1) (k := ⟨lot.map .int, none⟩) (e1 := [some (.int n), some (setD ss), some (.lst true (F.map .int)), some (tI lot), x4, some (.int t), none])]
      · have he : decide (lot.filter (fun a => !decide ((t : Int) ∈ ss.getD a.toNat [])) = []) = sub n ss lot t := by
          unfold sub
          rw [Bool.eq_iff_iff]
          simp [List.filter_eq_nil_iff]
        have a0 : 0 ≤ sizeLine := Nat.zero_le _
        by_cases hb : sub n ss lot t = true
        · rw [hb] at he
          simp [-List.filter_eq_nil_iff, -List.getD_eq_getElem?_getD, eq_ones, he, hb]
        · rw [Bool.not_eq_true] at hb
          rw [hb] at he
          simp [-List.filter_eq_nil_iff, -List.getD_eq_getElem?_getD, eq_ones, he, hb]
      · simp
      · rfl
      · simp
      · exact line_nat (by omega)
      · simp
      · intro a ha
        have g4 := g2 a ha
        have hx := ix_sets (ss := ss) g4.1 g4.2
        by_cases hm : (t : Int) ∈ ss.getD a.toNat []
        · simp [-List.getD_eq_getElem?_getD, lcStep, hx, in_tup, hm]
        · simp [-List.getD_eq_getElem?_getD, lcStep, hx, in_tup, hm])
  rw [h1, h2]
  simp
end Law

set_option maxHeartbeats 4000000
namespace Law
open PySem PySem.Spec PyProof.Rows L2 Tr
theorem sin_cin : ∀ xs : List Int, xs.length ≤ 7 → sin (cin xs) = xs
  | [], _ => rfl
  | [a], _ => by simp [sin, cin, gt0, List.range_succ, ch, sg]
  | [a, b], _ => by simp [sin, cin, gt0, List.range_succ, ch, sg]; omega
  | [a, b, c], _ => by simp [sin, cin, gt0, List.range_succ, ch, sg]; omega
  | [a, b, c, d], _ => by simp [sin, cin, gt0, List.range_succ, ch, sg]; omega
  | [a, b, c, d, e], _ => by simp [sin, cin, gt0, List.range_succ, ch, sg]; omega
  | [a, b, c, d, e, f], _ => by simp [sin, cin, gt0, List.range_succ, ch, sg]; omega
  | [a, b, c, d, e, f, g], _ => by simp [sin, cin, gt0, List.range_succ, ch, sg]; omega
  | _ :: _ :: _ :: _ :: _ :: _ :: _ :: _ :: _, h => by simp at h
theorem cin_sin : ∀ xs : List Int, xs.length ≤ 6 → cin (sin xs) = xs
  | [], _ => rfl
  | [a], _ => by simp [sin, cin, gt0, List.range_succ, ch, sg]
  | [a, b], _ => by simp [sin, cin, gt0, List.range_succ, ch, sg]; omega
  | [a, b, c], _ => by simp [sin, cin, gt0, List.range_succ, ch, sg]; omega
  | [a, b, c, d], _ => by simp [sin, cin, gt0, List.range_succ, ch, sg]; omega
  | [a, b, c, d, e], _ => by simp [sin, cin, gt0, List.range_succ, ch, sg]; omega
  | [a, b, c, d, e, f], _ => by simp [sin, cin, gt0, List.range_succ, ch, sg]; omega
  | _ :: _ :: _ :: _ :: _ :: _ :: _ :: _, h => by simp at h
/-! bounds -/
theorem sum_le (B : Int) (hB : 0 ≤ B) : ∀ l : List Int, (∀ x ∈ l, -B ≤ x ∧ x ≤ B) → -(l.length * B) ≤ l.sum ∧ l.sum ≤ l.length * B
  | [], _ => by simp
  | x :: l, h => by
    have h1 := h x (by simp)
    have h2 := sum_le B hB l fun y hy => h y (by simp [hy])
    rw [List.sum_cons, List.length_cons, Int.natCast_add, Int.add_mul]
    omega
theorem mul_le' {c x A B : Int} (hc : -A ≤ c ∧ c ≤ A) (hx : -B ≤ x ∧ x ≤ B) : -(A * B) ≤ c * x ∧ c * x ≤ A * B := by
  have h1 : c.natAbs ≤ A.natAbs := by omega
  have h2 : x.natAbs ≤ B.natAbs := by omega
  have h3 := Nat.mul_le_mul h1 h2
  have h4 : (c * x).natAbs ≤ (A * B).natAbs := by rw [Int.natAbs_mul, Int.natAbs_mul]; exact h3
  have h5 : 0 ≤ A * B := Int.mul_nonneg (by omega) (by omega)
  omega
theorem gt0_le {xs : List Int} {B : Int} (hB : 0 ≤ B) (h : ∀ x ∈ xs, -B ≤ x ∧ x ≤ B) (k : Nat) : -B ≤ gt0 xs k ∧ gt0 xs k ≤ B := by
  by_cases hk : k < xs.length
  · rw [getD_lt hk]; exact h _ (List.getElem_mem hk)
  · have : gt0 xs k = 0 := by simp [gt0, List.getElem?_eq_none (Nat.le_of_not_lt hk)]
    omega
theorem cin_le {xs : List Int} {B : Int} (hB : 0 ≤ B) (hl : xs.length ≤ 8) (h : ∀ x ∈ xs, -B ≤ x ∧ x ≤ B) : ∀ x ∈ cin xs, -(8 * (100 * B)) ≤ x ∧ x ≤ 8 * (100 * B) := by
  intro x hx
  simp only [cin, List.mem_map, List.mem_range] at hx
  obtain ⟨r, hr, rfl⟩ := hx
  have q := sum_le (100 * B) (by omega) ((List.range (xs.length - r)).map fun (k : Nat) => sg k * ch (r + k) r * gt0 xs (r + k)) (by
    intro y hy
    simp only [List.mem_map, List.mem_range] at hy
    obtain ⟨k, hk, rfl⟩ := hy
    have c1 := ch_lt (n := r + k) (k := r) (by omega) (by omega)
    have c2 : (sg k * ch (r + k) r).natAbs < 100 := by rw [Int.natAbs_mul, sg_abs, Nat.one_mul]; exact c1
    exact mul_le' (by omega) (gt0_le hB h _))
  rw [List.length_map, List.length_range] at q
  have h8 : ((xs.length - r : Nat) : Int) * (100 * B) ≤ 8 * (100 * B) := Int.mul_le_mul_of_nonneg_right (by omega) (by omega)
  omega
theorem sin_le {xs : List Int} {B : Int} (hB : 0 ≤ B) (hl : xs.length ≤ 8) (h : ∀ x ∈ xs, -B ≤ x ∧ x ≤ B) : ∀ x ∈ sin xs, -(8 * (100 * B)) ≤ x ∧ x ≤ 8 * (100 * B) := by
  intro x hx
  simp only [sin, List.mem_map, List.mem_range] at hx
  obtain ⟨r, hr, rfl⟩ := hx
  have q := sum_le (100 * B) (by omega) ((List.range (xs.length - r)).map fun (k : Nat) => ch (r + k) r * gt0 xs (r + k)) (by
    intro y hy
    simp only [List.mem_map, List.mem_range] at hy
    obtain ⟨k, hk, rfl⟩ := hy
    have c1 := ch_lt (n := r + k) (k := r) (by omega) (by omega)
    exact mul_le' (by omega) (gt0_le hB h _))
  rw [List.length_map, List.length_range] at q
  have h8 : ((xs.length - r : Nat) : Int) * (100 * B) ≤ 8 * (100 * B) := Int.mul_le_mul_of_nonneg_right (by omega) (by omega)
  omega
theorem cin_len (xs : List Int) : (cin xs).length = xs.length := by simp [cin]
theorem sin_len (xs : List Int) : (sin xs).length = xs.length := by simp [sin]
/-- one step of the law's own way back from sums to counts -/
theorem sin_get (xs : List Int) (r : Nat) (h : r < xs.length) : gt0 (sin xs) r = gt0 xs r + ((List.range (xs.length - 1 - r)).map fun (k : Nat) => ch (r + 1 + k) r * gt0 xs (r + 1 + k)).sum := by
  have e : gt0 (sin xs) r = ((List.range (xs.length - r)).map fun (k : Nat) => ch (r + k) r * gt0 xs (r + k)).sum := by
    simp [gt0, sin, h]
  have hc : ch r r = 1 := by
    have : ∀ r, ∀ k, r < k → ch r k = 0 := by
      intro r
      induction r with
      | zero => intro k hk; cases k with
        | zero => omega
        | succ k => rfl
      | succ r ih => intro k hk; cases k with
        | zero => omega
        | succ k => rw [ch, ih k (by omega), ih (k + 1) (by omega)]; rfl
    induction r with
    | zero => rfl
    | succ r ih => rw [ch, ih (by omega) (by simp [gt0, sin, show r < xs.length by omega]), this r (r + 1) (by omega)]; rfl
  rw [e, show xs.length - r = (xs.length - 1 - r) + 1 by omega, List.range_succ_eq_map, List.map_cons, List.sum_cons, List.map_map]
  simp only [Nat.add_zero, hc, Int.one_mul]
  congr 2
  apply List.map_congr_left
  intro k _
  simp only [Function.comp]
  rw [show r + (k + 1) = r + 1 + k by omega]
end Law

set_option maxHeartbeats 4000000
namespace Law
open PySem PySem.Spec PyProof.Rows L2 Tr
def oftN (ss : List (List Int)) (t : Nat) : Nat := (ss.filter fun s => decide ((t : Int) ∈ s)).length
theorem oftN_le (ss : List (List Int)) (t : Nat) : oftN ss t ≤ ss.length := List.length_filter_le _ _
def justF (ss : List (List Int)) (n : Nat) : List Int := (List.range n).foldl (fun F t => addAt F (oftN ss t) 1) (List.replicate (ss.length + 1) 0)
theorem justF_s (ss : List (List Int)) (n : Nat) : justF ss (n + 1) = addAt (justF ss n) (oftN ss n) 1 := by
  unfold justF; rw [List.range_succ, List.foldl_append]; rfl
theorem justF_len (ss : List (List Int)) : ∀ n : Nat, (justF ss n).length = ss.length + 1
  | 0 => by simp [justF]
  | n + 1 => by rw [justF_s, addAt_len, justF_len ss n]
theorem just_ok (n : Nat) (ss : List (List Int)) (hn : n ≤ 30) (hs : ss.length ≤ 5) : G__law_just [.int n, setD ss] = .ok (.tup ((justF ss n).map .int)) [.int n, setD ss] := by
  unfold G__law_just b__law_just
  have z := zeros (ss.length + 1) (by omega)
  simp only [Int.natCast_add, Int.cast_ofNat_Int] at z
  have a1 : 1 ≤ sizeLine := line_nat (by omega)
  simp [z, a1, small_nat (n := n) (by omega), rng_nat]
  obtain ⟨e', h1, x3, x4, h2⟩ := forL_inv0 (g := gN 3) (b := (sCons (sSet 4 (eBlt (d1 dLen) (aCons (xOf (eLc [5] (iSlot 1) (gN 5) (tOfE (eOp2 (dIn false) (xSlot 3) (xSlot 5))) (eC (.int 1)))) aNil)))
      (sAsg (eOp2 dAdd (xOf (eOp2 dIx (xSlot 2) (xSlot 4))) (xOf (eC (.int 1)))) (gIx 2 (xSlot 4))))) (ds := (List.range n).map fun (k : Nat) => D.int k) (e := [some (.int n), some (setD ss), some (.lst true (List.replicate (ss.length + 1) (D.int 0))), none, none, none]) (fun i e => ∃ x3 x4, e = [some (.int n), some (setD ss), some (.lst true ((justF ss i).map .int)), x3, x4, none]) ⟨none, none, by simp [justF]⟩ (by
    rintro j d e hd ⟨x3, x4, rfl⟩
    have hj : j < n := by
      obtain ⟨h, _⟩ := List.getElem?_eq_some_iff.mp hd
      simpa using h
    have hd : d = D.int j := by simpa [hj] using hd.symm
    subst hd
    rw [justF_s]
    have hFl := justF_len ss j
    have ho := oftN_le ss j
    generalize justF ss j = F at *
    have hF1 : oftN ss j < F.length := by omega
    have hix := ix_lst (o := true) hF1
    have hxn := ixN_nat hF1
    refine ⟨[some (.int n), some (setD ss), some (.lst true (F.map .int)), some (.int j), x4, none], _, by simp, ?_, some (.int j), some (.int (oftN ss j)), rfl⟩
    simp
    rw [eLc_pure ss tI (fun s => decide ((j : Int) ∈ s)) (fun _ => D.int 1) (k := ⟨ss.map tI, none⟩) (e1 := [some (.int n), some (setD ss), some (.lst true (F.map .int)), some (.int j), x4, none])]
    · have ho2 : (ss.filter fun s => decide ((j : Int) ∈ s)).length = oftN ss j := rfl
      simp [ho2, hix, hxn, addAt]
    · simp
    · rfl
    · simp
    · exact line_nat (by omega)
    · simp
    · intro s hs
      by_cases h : (j : Int) ∈ s <;> simp [lcStep, in_tup, h])
  rw [h1, h2]
  simp
/-! the law's own counts -/
def part (xs : List Int) (k : Nat) : List Int := (List.range xs.length).map fun j => if xs.length ≤ j + k then gt0 (cin xs) j else 0
theorem part_len (xs : List Int) (k : Nat) : (part xs k).length = xs.length := by simp [part]
theorem part_get (xs : List Int) (k j : Nat) (h : j < xs.length) : gt0 (part xs k) j = if xs.length ≤ j + k then gt0 (cin xs) j else 0 := by
  simp [gt0, part, h]
theorem part_0 (xs : List Int) : part xs 0 = List.replicate xs.length 0 := by
  apply List.ext_getElem (by simp [part])
  intro i h1 h2
  simp [part] at h1 ⊢
  omega
theorem part_n (xs : List Int) : part xs xs.length = cin xs := by
  apply List.ext_getElem (by simp [part, cin])
  intro i h1 h2
  have h3 : i < (cin xs).length := h2
  simp [part, gt0, h3]
theorem part_s (xs : List Int) (k : Nat) (h : k < xs.length) : (part xs k).set (xs.length - 1 - k) (gt0 (cin xs) (xs.length - 1 - k)) = part xs (k + 1) := by
  apply List.ext_getElem (by simp [part])
  intro i h1 h2
  have h3 : i < xs.length := by simpa [part] using h2
  rw [List.getElem_set]
  split
  · rename_i e; subst e; simp [part]; omega
  · rename_i e
    simp only [part, List.getElem_map, List.getElem_range]
    by_cases q : xs.length ≤ i + k
    · rw [if_pos q, if_pos (by omega)]
    · rw [if_neg q, if_neg (by omega)]
theorem rngC_all : ∀ n : Fin 8, rgOk ((n.val : Int) - 1) (-1) (-1) = true ∧ (Builtin.Range.rangeSize ((n.val : Int) - 1) (-1) (-1)).toNat = n.val := by decide +kernel
theorem rngC_down {n : Nat} (h : n ≤ 7) : rngC ((n : Int) - 1) (-1) (-1) = (List.range n).map fun (k : Nat) => D.int ((n : Int) - 1 - k) := by
  have q := (rngC_all ⟨n, by omega⟩).2
  unfold rngC
  rw [q]
  exact List.map_congr_left fun k _ => by congr 1; omega
theorem law_counts_ok (xs : List Int) (h2 : 1 ≤ xs.length) (h7 : xs.length ≤ 7) (hb : ∀ x ∈ xs, -(10 ^ 12) ≤ x ∧ x ≤ 10 ^ 12) : G__law_counts [.tup (xs.map .int)] = .ok (.tup ((cin xs).map .int)) [.tup (xs.map .int)] := by
  unfold G__law_counts b__law_counts
  have z := zeros xs.length (by omega)
  have a1 : 1 ≤ sizeLine := line_nat (by omega)
  have a2 : 2 ≤ sizeLine := line_nat (by omega)
  have r1 := (rngC_all ⟨xs.length, by omega⟩).1
  simp [z, a1, a2, r1, rngC_down h7]
  obtain ⟨e', h1, x3, x4, h2⟩ := forL_inv0 (g := gN 3) (b := (sCons (sSet 4 (eBlt (d1 dSum) (aCons (xOf (eLc [5] (iRng2f (aCons (xOf (eOp2 dAdd (xSlot 3) (xOf (eC (.int 1))))) (aCons (xOf (eOp2 dAdd (xSlot 2) (xOf (eC (.int 1))))) aNil))) (gN 5) tYesF (eOp2 dMul (xOf (eCall G__law_out_of [] (aCons (xSlot 5) (aCons (xSlot 3) aNil)))) (xOf (eOp2 dIx (xSlot 1) (xSlot 5)))))) aNil)))
      (sAsg (eOp2 dSub (xOf (eOp2 dIx (xSlot 0) (xSlot 3))) (xSlot 4)) (gIx 1 (xSlot 3))))) (ds := (List.range xs.length).map fun (k : Nat) => D.int ((xs.length : Int) - 1 - k)) (e := [some (.tup (xs.map .int)), some (.lst true (List.replicate xs.length (D.int 0))), some (.int ((xs.length : Int) - 1)), none, none, none]) (fun i e => ∃ x3 x4, e = [some (.tup (xs.map .int)), some (.lst true ((part xs i).map .int)), some (.int ((xs.length : Int) - 1)), x3, x4, none]) ⟨none, none, by simp [part_0]⟩ (by
    rintro j d e hd ⟨x3, x4, rfl⟩
    have hj : j < xs.length := by
      obtain ⟨h, _⟩ := List.getElem?_eq_some_iff.mp hd
      simpa using h
    have hd : d = D.int ((xs.length : Int) - 1 - j) := by simpa [hj] using hd.symm
    obtain ⟨r, hr⟩ : ∃ r : Nat, r = xs.length - 1 - j := ⟨_, rfl⟩
    have hr1 : r < xs.length := by omega
    have e0 : (xs.length : Int) - 1 - j = r := by omega
    rw [e0] at hd
    subst hd
    have hP := part_len xs j
    have hrP : r < (part xs j).length := by omega
    have hix := ix_tup hr1
    have hxn := ixN_nat hrP
    have hstep := part_s xs j hj
    rw [← hr] at hstep
    have hval : gt0 xs r - ((List.range (xs.length - 1 - r)).map fun (k : Nat) => ch (r + 1 + k) r * gt0 (part xs j) (r + 1 + k)).sum = gt0 (cin xs) r := by
      have g := sin_get (cin xs) r (by rw [cin_len]; exact hr1)
      rw [sin_cin xs h7, cin_len] at g
      rw [g]
      have : ((List.range (xs.length - 1 - r)).map fun (k : Nat) => ch (r + 1 + k) r * gt0 (part xs j) (r + 1 + k)) = ((List.range (xs.length - 1 - r)).map fun (k : Nat) => ch (r + 1 + k) r * gt0 (cin xs) (r + 1 + k)) := by
        apply List.map_congr_left
        intro k hk
        rw [List.mem_range] at hk
        rw [part_get xs j _ (by omega), if_pos (by omega)]
      rw [this]
      omega
    refine ⟨[some (.tup (xs.map .int)), some (.lst true ((part xs j).map .int)), some (.int ((xs.length : Int) - 1)), some (.int r), x4, none], _, by simp, ?_, some (.int r), some (.int (((List.range (xs.length - 1 - r)).map fun (k : Nat) => ch (r + 1 + k) r * gt0 (part xs j) (r + 1 + k)).sum)), rfl⟩
    simp
    rw [eLc_map (List.range (xs.length - (r + 1))) (fun k => D.int ((r + 1 + k : Nat))) (fun k => .int (ch (r + 1 + k) r * gt0 (part xs j) (r + 1 + k))) (k := ⟨rng ((r + 1 : Nat) : Int) xs.length, none⟩) (e1 := [some (.tup (xs.map .int)), some (.lst true ((part xs j).map .int)), some (.int ((xs.length : Int) - 1)), some (.int r), x4, none])]
    · rw [show xs.length - (r + 1) = xs.length - 1 - r by omega, ← hstep]
      simp [hix, ixN_nat hr1, hP, hr1, hval]
    · have s1 : small62 ((r : Int) + 1) = true := small_nat (n := r + 1) (by omega)
      have s2 : small62 (xs.length : Int) = true := small_nat (by omega)
      simp [s1, s2]
    · exact rng_nat2 (a := r + 1)
    · simp
    · rw [List.length_range]; exact line_nat (by omega)
    · simp
    · intro k hk
      have hk : r + 1 + k < xs.length := by simp at hk; omega
      have hk2 : r + 1 + k < (part xs j).length := by omega
      have hix2 := ix_lst (o := true) hk2
      have hbig : gt0 (part xs j) (r + 1 + k) = gt0 (cin xs) (r + 1 + k) := by rw [part_get xs j _ hk, if_pos (by omega)]
      have hc := gt0_le (B := 8 * (100 * 10 ^ 12)) (by omega) (cin_le (xs := xs) (B := 10 ^ 12) (by omega) (by omega) hb) (r + 1 + k)
      have q := mul_sc (sg_abs k) (ch_lt (n := r + 1 + k) (k := r) (by omega) (by omega)) (x := gt0 (part xs j) (r + 1 + k)) (big_of (by rw [hbig]; omega))
      have lo := lout_ok (n := r + 1 + k) (k := r) (by omega) (by omega)
      simp only [Int.natCast_add, Int.cast_ofNat_Int] at hix2 lo
      simp [lcStep, lo, hix2, q.2.2])
  rw [h1, h2]
  simp [part_n]
end Law

set_option maxHeartbeats 4000000
namespace Law
open PySem PySem.Spec PyProof.Rows L2 Tr
theorem gt0_set {F : List Int} {k j : Nat} {x : Int} (h : k < F.length) : gt0 (F.set k x) j = if k = j then x else gt0 F j := by
  unfold gt0
  by_cases e : k = j
  · subst e; simp [h]
  · simp [e, List.getElem?_set_ne e]
theorem addAt_get {F : List Int} {k j : Nat} {x : Int} (h : k < F.length) : gt0 (addAt F k x) j = gt0 F j + if k = j then x else 0 := by
  unfold addAt
  rw [gt0_set h]
  by_cases e : k = j
  · subst e; simp
  · simp [e]
theorem gt0_rep (n j : Nat) : gt0 (List.replicate n 0) j = 0 := by
  unfold gt0
  by_cases h : j < n <;> simp [h]
theorem ext_gt0 {xs ys : List Int} (hl : xs.length = ys.length) (h : ∀ k, k < xs.length → gt0 xs k = gt0 ys k) : xs = ys := by
  apply List.ext_getElem hl
  intro i h1 h2
  have := h i h1
  rw [getD_lt h1, getD_lt h2] at this
  exact this
theorem cby_get (n : Nat) (ss : List (List Int)) (k : Nat) (h : k ≤ ss.length) : gt0 (cby n ss) k = (((List.range n).map (oftN ss)).count k : Nat) := by
  have e : (List.range n).map (oft ss) = ((List.range n).map (oftN ss)).map fun (k : Nat) => (k : Int) := by
    rw [List.map_map]; rfl
  have hc : ∀ l : List Nat, (l.map fun (k : Nat) => (k : Int)).count (k : Int) = l.count k := by
    intro l
    induction l with
    | nil => rfl
    | cons a l ih =>
      rw [List.map_cons, List.count_cons, List.count_cons, ih]
      congr 1
      by_cases q : a = k
      · simp [q]
      · have q' : ¬ ((a : Int) = k) := by omega
        simp [q, q']
  unfold cby gt0
  rw [e, List.getD_eq_getElem?_getD, List.getElem?_map, List.getElem?_range (show k < ss.length + 1 by omega)]
  simp only [Option.map_some, Option.getD_some]
  rw [hc]
theorem just_cby (ss : List (List Int)) (n : Nat) : justF ss n = cby n ss := by
  apply ext_gt0 (by rw [justF_len, cby_len])
  intro k hk
  rw [justF_len] at hk
  rw [cby_get n ss k (by omega)]
  clear hk
  induction n with
  | zero => simp [justF, gt0_rep]
  | succ n ih =>
    have ho := oftN_le ss n
    rw [justF_s, addAt_get (by rw [justF_len]; omega), ih, List.range_succ, List.map_append, List.count_append]
    by_cases q : oftN ss n = k <;> simp [q, List.count_cons]
/-- Σ over the lots with j entries -/
theorem meetF_get (n : Nat) (ss : List (List Int)) : ∀ (ls : List (List Int)) (F : List Int), (∀ l ∈ ls, l.length < F.length) → ∀ j, gt0 (ls.foldl (fun F lot => addAt F lot.length (nb n ss lot)) F) j = gt0 F j + (ls.map fun l => if l.length = j then nb n ss l else 0).sum
  | [], F, _, j => by simp
  | l :: ls, F, h, j => by
    rw [List.foldl_cons, meetF_get n ss ls _ (fun l' h' => by rw [addAt_len]; exact h l' (by simp [h'])) j, addAt_get (h l (by simp)), List.map_cons, List.sum_cons]
    omega
def pat (ss : List (List Int)) (t : Nat) : List Bool := ss.map fun s => decide ((t : Int) ∈ s)
def subP (p : List Bool) (lot : List Int) : Bool := lot.all fun a => p.getD a.toNat false
theorem sub_pat (n : Nat) (ss : List (List Int)) (lot : List Int) (t : Nat) : sub n ss lot t = subP (pat ss t) lot := by
  unfold sub subP pat
  congr 1
  funext a
  by_cases h : a.toNat < ss.length
  · simp [h]
  · simp [List.getElem?_eq_none (Nat.le_of_not_lt h)]
theorem oft_pat (ss : List (List Int)) (t : Nat) : oftN ss t = (pat ss t).count true := by
  unfold oftN pat
  induction ss with
  | nil => rfl
  | cons s ss ih =>
    rw [List.map_cons, List.count_cons, ← ih]
    by_cases h : (t : Int) ∈ s <;> simp [h]
def allB : Nat → List (List Bool)
  | 0 => [[]]
  | n + 1 => (allB n).map (true :: ·) ++ (allB n).map (false :: ·)
theorem allB_mem : ∀ p : List Bool, p ∈ allB p.length
  | [] => by simp [allB]
  | true :: p => by simp [allB, allB_mem p]
  | false :: p => by simp [allB, allB_mem p]
/-- one thing's share in both -/
def shareL (m : Nat) (p : List Bool) (j : Nat) : Int := ((lots m).map fun l => if l.length = j then (if subP p l then 1 else 0) else 0).sum
def shareR (m : Nat) (p : List Bool) (j : Nat) : Int := ((List.range (m + 1 - j)).map fun (k : Nat) => ch (j + k) j * (if p.count true = j + k then 1 else 0)).sum
theorem share_all : ∀ m j : Fin 6, ∀ p ∈ allB m.val, shareL m.val p j.val = shareR m.val p j.val := by decide +kernel
theorem sum_add {α : Type} (f g : α → Int) : ∀ l : List α, (l.map fun x => f x + g x).sum = (l.map f).sum + (l.map g).sum
  | [] => rfl
  | x :: l => by simp only [List.map_cons, List.sum_cons, sum_add f g l]; omega
theorem meet_sin (n : Nat) (ss : List (List Int)) (hs : ss.length ≤ 5) : meetF n ss (lots ss.length) = sin (cby n ss) := by
  apply ext_gt0 (by rw [meetF_len, sin_len, cby_len])
  intro j hj
  rw [meetF_len] at hj
  have hlin := (lots_in ⟨ss.length, by omega⟩).2.2
  unfold meetF
  rw [meetF_get n ss _ _ (fun l hl => by
    have := List.all_eq_true.mp hlin l hl
    simp only [decide_eq_true_eq] at this
    rw [List.length_replicate]; omega), gt0_rep]
  have e : gt0 (sin (cby n ss)) j = ((List.range (ss.length + 1 - j)).map fun (k : Nat) => ch (j + k) j * (((List.range n).map (oftN ss)).count (j + k) : Nat)).sum := by
    have : gt0 (sin (cby n ss)) j = ((List.range (ss.length + 1 - j)).map fun (k : Nat) => ch (j + k) j * gt0 (cby n ss) (j + k)).sum := by
      simp [gt0, sin, cby_len, hj]
    rw [this]
    congr 1
    apply List.map_congr_left
    intro k hk
    rw [List.mem_range] at hk
    rw [cby_get n ss _ (by omega)]
  rw [e]
  clear e
  rw [Int.zero_add]
  induction n with
  | zero =>
    have z : ∀ (l : List (List Int)), (l.map fun l => if l.length = j then nb 0 ss l else 0).sum = 0 := by
      intro l
      induction l with
      | nil => rfl
      | cons a l ih => rw [List.map_cons, List.sum_cons, ih]; simp [nb]
    have z2 : ∀ (l : List Nat), (l.map fun (k : Nat) => ch (j + k) j * ((List.map (oftN ss) (List.range 0)).count (j + k) : Nat)).sum = 0 := by
      intro l
      induction l with
      | nil => rfl
      | cons a l ih => rw [List.map_cons, List.sum_cons, ih]; simp
    rw [z, z2]
  | succ n ih =>
    have e1 : (fun l : List Int => if l.length = j then nb (n + 1) ss l else 0) = fun l => (if l.length = j then nb n ss l else 0) + (if l.length = j then (if subP (pat ss n) l then 1 else 0) else 0) := by
      funext l
      by_cases h : l.length = j
      · have f1 : sub (n + 1) ss l = fun t => subP (pat ss t) l := funext (sub_pat _ ss l)
        have f2 : sub n ss l = fun t => subP (pat ss t) l := funext (sub_pat _ ss l)
        simp only [h, if_true, nb, f1, f2, List.range_succ, List.filter_append, List.length_append]
        by_cases q : subP (pat ss n) l = true <;> simp [q]
      · simp [h]
    have e2 : (fun (k : Nat) => ch (j + k) j * (((List.range (n + 1)).map (oftN ss)).count (j + k) : Nat)) = fun (k : Nat) => ch (j + k) j * (((List.range n).map (oftN ss)).count (j + k) : Nat) + ch (j + k) j * (if (pat ss n).count true = j + k then 1 else 0) := by
      funext k
      rw [List.range_succ, List.map_append, List.count_append, ← oft_pat, Int.natCast_add, Int.mul_add]
      congr 2
      by_cases q : oftN ss n = j + k <;> simp [q]
    rw [e1, e2, sum_add, sum_add, ih]
    have q := share_all ⟨ss.length, by omega⟩ ⟨j, by omega⟩ (pat ss n) (by
      have := allB_mem (pat ss n)
      rwa [show (pat ss n).length = ss.length by simp [pat]] at this)
    unfold shareL shareR at q
    dsimp only at q
    rw [q]
end Law

set_option maxHeartbeats 4000000
namespace Law
open PySem PySem.Spec PyProof.Rows L2 Tr
theorem Cr.mono {n m : Nat} {d : D} (h : Cr n d) (hm : n ≤ m) : Cr m d := by
  obtain ⟨a, b, c, rfl, c0, c1⟩ := h
  exact ⟨a, b, c, rfl, c0, by omega⟩
theorem Cr.fl {n : Nat} {d : D} (h : Cr n d) : d.flag = true := by
  obtain ⟨a, b, c, rfl, _⟩ := h; rfl
theorem inner_ok (M n : Nat) (hM : M ≤ 10000) (hn : n ≤ 30) (d f o : D) (hd : Cr M d) (k : Int) (hk : 2 ≤ k ∧ k ≤ 4) (many : D) :
    ∃ (s : List Int) (d' : D), eLc [6] (iRng1f (aCons (xSlot 1) aNil)) (gN 6) (tOfE (eOp2 (dEq false) (xOf (eCall G__law_ladle [] (aCons (xSlot 0) (aCons (xSlot 5) aNil)))) (xOf (eC (.int 0))))) (eUse 6) [some d, some (.int n), some many, some f, some o, some (.int k), none] = .ok (.lst true (s.map .int)) [some d', some (.int n), some many, some f, some o, some (.int k), none] ∧ Cr (M + n) d' ∧ (∀ x ∈ s, 0 ≤ x ∧ x < n) ∧ s.Pairwise (· < ·) ∧ s.length ≤ n := by
  obtain ⟨l, e2, h1, d', s, h2, h3, h4, h5, h6, h7⟩ := eLc_inv (vs := [6]) (fi := (iRng1f (aCons (xSlot 1) aNil))) (g := (gN 6)) (ft := (tOfE (eOp2 (dEq false) (xOf (eCall G__law_ladle [] (aCons (xSlot 0) (aCons (xSlot 5) aNil)))) (xOf (eC (.int 0)))))) (fe := (eUse 6)) (e := [some d, some (.int n), some many, some f, some o, some (.int k), none]) (e1 := [some d, some (.int n), some many, some f, some o, some (.int k), none]) (k := ⟨rng 0 n, none⟩)
    (fun j l e => ∃ d' s, e = [some d', some (.int n), some many, some f, some o, some (.int k), none] ∧ Cr (M + j) d' ∧ l = s.map D.int ∧ (∀ x ∈ s, 0 ≤ x ∧ x < (j : Int)) ∧ s.Pairwise (· < ·) ∧ s.length ≤ j)
    (by simp [small_nat (n := n) (by omega)]) (by simp) (by rw [rng_nat]; simp; exact line_nat (by omega)) (by simp) ⟨d, [], by simp, hd, rfl, by simp, .nil, Nat.le_refl _⟩ (by
      rintro j x l e hj ⟨d1, s, rfl, c1, rfl, g1, g2, g3⟩
      simp only [rng_nat] at hj
      have hjn : j < n := by
        obtain ⟨h, _⟩ := List.getElem?_eq_some_iff.mp hj
        simpa using h
      have hx : x = D.int j := by simpa [hjn] using hj.symm
      subst hx
      obtain ⟨v, d2, h1, c2, v0, v1⟩ := ladle_ok (t := k) c1 (by omega) (by omega) (by omega)
      by_cases hv : v = 0
      · refine ⟨some (.int j), [some d2, some (.int n), some many, some f, some o, some (.int k), none], by simp [lcStep, c1.fl, h1, eq_ints, hv], d2, s ++ [(j : Int)], rfl, c2.mono (by omega), by simp, ?_, ?_, ?_⟩
        · intro y hy
          rw [List.mem_append, List.mem_singleton] at hy
          rcases hy with hy | rfl
          · have := g1 y hy; omega
          · omega
        · rw [List.pairwise_append]
          refine ⟨g2, by simp, ?_⟩
          intro a ha b hb
          rw [List.mem_singleton] at hb
          subst hb
          exact (g1 a ha).2
        · rw [List.length_append]; simp; omega
      · refine ⟨none, [some d2, some (.int n), some many, some f, some o, some (.int k), none], by simp [lcStep, c1.fl, h1, eq_ints, hv], d2, s, rfl, c2.mono (by omega), by simp, fun y hy => ?_, g2, by omega⟩
        have := g1 y hy; omega)
  subst h2 h4
  simp only [rng_nat, List.length_map, List.length_range] at h3 h5 h7
  refine ⟨s, d', ?_, h3, h5, h6, h7⟩
  rw [h1]
  simp
theorem sets_ok (N n many : Nat) (hN : N ≤ 5000) (hn : n ≤ 30) (hm : 1 ≤ many ∧ many ≤ 6) (d : D) (hd : Cr N d) :
    ∃ ss d', G__law_sets [d, .int n, .int many] = .ok (setD ss) [d', .int n, .int many] ∧ Cr (N + 300) d' ∧ 1 ≤ ss.length ∧ ss.length ≤ many ∧ Goods n ss := by
  obtain ⟨v, dA, q1, c1, v0, v1⟩ := ladle_ok (t := (many : Int)) hd (by omega) (by omega) (by omega)
  obtain ⟨u, hu⟩ : ∃ u : Nat, v = u := ⟨v.toNat, by omega⟩
  subst hu
  have s1 : small62 (1 + (u : Int)) = true := by unfold small62; simp; omega
  have e1 : (1 : Int) + u = ((1 + u : Nat) : Int) := by omega
  obtain ⟨e', h1, d2, ss, x4, x5, h2, h3, h4, h5⟩ := forL_inv0 (g := gN 4) (b := (sCons (sSet 5 (eOp2 dAdd (xOf (eC (.int 2))) (xOf (eCall G__law_ladle [] (aCons (xSlot 0) (aCons (xOf (eC (.int 3))) aNil))))))
      (sExpr (eApp 3 (eBlt (d1 dTuple) (aCons (xOf (eLc [6] (iRng1f (aCons (xSlot 1) aNil)) (gN 6) (tOfE (eOp2 (dEq false) (xOf (eCall G__law_ladle [] (aCons (xSlot 0) (aCons (xSlot 5) aNil)))) (xOf (eC (.int 0))))) (eUse 6))) aNil)))))) (ds := rng 0 (1 + (u : Int))) (e := [some dA, some (.int n), some (.int many), some (.lst true []), none, none, none]) (fun i e => ∃ d ss x4 x5, e = [some d, some (.int n), some (.int many), some (.lst true (ss.map tI)), x4, x5, none] ∧ Cr (N + 1 + i * 32) d ∧ ss.length = i ∧ Goods n ss)
    ⟨dA, [], none, none, rfl, c1.mono (by omega), rfl, by intro s hs; cases hs⟩ (by
    rintro j x e hj ⟨d, ss, x4, x5, rfl, c, hl, hg⟩
    rw [e1, rng_nat] at hj
    have hjn : j < 1 + u := by
      obtain ⟨h, _⟩ := List.getElem?_eq_some_iff.mp hj
      simpa using h
    have hx : x = D.int j := by simpa [hjn] using hj.symm
    subst hx
    obtain ⟨v2, d2, q2, c2, v3, v4⟩ := ladle_ok (t := 3) c (by omega) (by omega) (by omega)
    obtain ⟨s, d3, q3, c3, g1, g2, g3⟩ := inner_ok (N + 1 + j * 32 + 1) n (by omega) hn d2 (.lst true (ss.map tI)) (.int j) c2 (2 + v2) (by omega) (.int many)
    have a1 : ss.length < sizeLine := Nat.lt_of_lt_of_le (show ss.length < 100 by omega) (by decide)
    refine ⟨[some d, some (.int n), some (.int many), some (.lst true (ss.map tI)), some (.int j), x5, none], [some d3, some (.int n), some (.int many), some (.lst true ((ss ++ [s]).map tI)), some (.int j), some (.int (2 + v2)), none], by simp, ?_, d3, ss ++ [s], _, _, rfl, c3.mono (by omega), by simp [hl], ?_⟩
    · simp [c.fl, q2, q3, a1]
    · intro t ht
      rw [List.mem_append, List.mem_singleton] at ht
      rcases ht with ht | rfl
      · exact hg t ht
      · exact ⟨by omega, g1, g2⟩)
  subst h2
  rw [e1, rng_nat, List.length_map, List.length_range] at h3 h4
  refine ⟨ss, d2, ?_, h3.mono (by omega), by omega, by omega, h5⟩
  unfold G__law_sets b__law_sets
  simp [hd.fl, q1, s1, h1, h3.fl, dTuple]
end Law

set_option maxHeartbeats 4000000
namespace Law
open PySem PySem.Spec PyProof.Rows L2 Tr
/-! what the sums tell, by lists of two to six counts -/
theorem five {m : Nat} (h1 : 1 ≤ m) (h2 : m < 6) : m = 1 ∨ m = 2 ∨ m = 3 ∨ m = 4 ∨ m = 5 := by omega
def Tell (c : List Int) (m : Nat) : Prop := atlS (sin c) m = (c.drop m).sum ∧ (m % 2 = 1 → c.sum - gt0 c 0 ≤ endS (sin c) m) ∧ (m % 2 = 0 → endS (sin c) m ≤ c.sum - gt0 c 0) ∧ (m + 1 = c.length → endS (sin c) m = c.sum - gt0 c 0)
theorem tell : ∀ c : List Int, 2 ≤ c.length → c.length ≤ 6 → (∀ x ∈ c, 0 ≤ x) → ∀ m : Nat, 1 ≤ m → m < c.length → Tell c m
  | [], h, _, _, _, _, _ => by simp at h
  | [_], h, _, _, _, _, _ => by simp at h
  | [a, b], _, _, p, m, h1, h2 => by
    simp at p
    simp only [List.length_cons, List.length_nil] at h2
    rcases five h1 (by omega) with rfl | rfl | rfl | rfl | rfl <;> first | omega | (simp [Tell, atlS, endS, sin, gt0, List.range_succ, ch, sg] <;> omega)
  | [a, b, c], _, _, p, m, h1, h2 => by
    simp at p
    simp only [List.length_cons, List.length_nil] at h2
    rcases five h1 (by omega) with rfl | rfl | rfl | rfl | rfl <;> first | omega | (simp [Tell, atlS, endS, sin, gt0, List.range_succ, ch, sg] <;> omega)
  | [a, b, c, d], _, _, p, m, h1, h2 => by
    simp at p
    simp only [List.length_cons, List.length_nil] at h2
    rcases five h1 (by omega) with rfl | rfl | rfl | rfl | rfl <;> first | omega | (simp [Tell, atlS, endS, sin, gt0, List.range_succ, ch, sg] <;> omega)
  | [a, b, c, d, e], _, _, p, m, h1, h2 => by
    simp at p
    simp only [List.length_cons, List.length_nil] at h2
    rcases five h1 (by omega) with rfl | rfl | rfl | rfl | rfl <;> first | omega | (simp [Tell, atlS, endS, sin, gt0, List.range_succ, ch, sg] <;> omega)
  | [a, b, c, d, e, f], _, _, p, m, h1, h2 => by
    simp at p
    simp only [List.length_cons, List.length_nil] at h2
    rcases five h1 (by omega) with rfl | rfl | rfl | rfl | rfl <;> first | omega | (simp [Tell, atlS, endS, sin, gt0, List.range_succ, ch, sg] <;> omega)
  | _ :: _ :: _ :: _ :: _ :: _ :: _ :: _, _, h, _, _, _, _ => by simp at h
theorem sum_set : ∀ (F : List Int) (k : Nat) (x : Int), k < F.length → (F.set k x).sum = F.sum - gt0 F k + x
  | [], k, x, h => by simp at h
  | a :: F, 0, x, _ => by simp [gt0]; omega
  | a :: F, k + 1, x, h => by
    have := sum_set F k x (by simpa using h)
    simp only [List.set_cons_succ, List.sum_cons, this, gt0, List.getD_cons_succ]
    omega
theorem cby_sum (ss : List (List Int)) (n : Nat) : (cby n ss).sum = n := by
  rw [← just_cby]
  induction n with
  | zero =>
    have : ∀ k, (List.replicate k (0 : Int)).sum = 0 := by
      intro k
      induction k with
      | zero => rfl
      | succ k ih => rw [List.replicate_succ, List.sum_cons, ih]; rfl
    simp only [justF, List.range_zero, List.foldl_nil]
    exact this _
  | succ n ih =>
    have ho := oftN_le ss n
    rw [justF_s]
    unfold addAt
    rw [sum_set _ _ _ (by rw [justF_len]; omega), ih]
    omega
theorem endS_s (xs : List Int) (m : Nat) : endS xs (m + 1) = endS xs m + sg m * gt0 xs (1 + m) := by
  unfold endS
  rw [List.range_succ, List.map_append, List.sum_append]
  simp
end Law

set_option maxHeartbeats 4000000
namespace Law
open PySem PySem.Spec PyProof.Rows L2 Tr
theorem pow_9 : powOk 10 9 = true := by decide +kernel
theorem pow_8 : powOk 10 8 = true := by decide +kernel
theorem any_ok (N : Nat) (hN : N ≤ 10000) (d : D) (hd : Cr N d) (z1 z2 z3 z4 z5 z6 z7 : Option D) :
    ∃ (xs : List Int) (d' : D), eLc [10] (iRng1f (aCons (xOf (eOp2 dAdd (xOf (eC (.int 2))) (xOf (eCall G__law_ladle [] (aCons (xSlot 0) (aCons (xOf (eC (.int 6))) aNil)))))) aNil)) (gN 10) tYesF (eOp2 dSub (xOf (eCall G__law_ladle [] (aCons (xSlot 0) (aCons (xOf (eOp2 dPow (xOf (eC (.int 10))) (xOf (eC (.int 9))))) aNil)))) (xOf (eOp2 dPow (xOf (eC (.int 10))) (xOf (eC (.int 8)))))) [some d, z1, z2, z3, z4, z5, z6, z7, none, none, none] = .ok (.lst true (xs.map .int)) [some d', z1, z2, z3, z4, z5, z6, z7, none, none, none] ∧ Cr (N + 10) d' ∧ 2 ≤ xs.length ∧ xs.length ≤ 7 ∧ ∀ x ∈ xs, -(10 ^ 12) ≤ x ∧ x ≤ 10 ^ 12 := by
  obtain ⟨v, dA, q1, c1, v0, v1⟩ := ladle_ok (t := 6) hd (by omega) (by omega) (by omega)
  obtain ⟨u, hu⟩ : ∃ u : Nat, v = u := ⟨v.toNat, by omega⟩
  subst hu
  have s1 : small62 (2 + (u : Int)) = true := by unfold small62; simp; omega
  have e1 : (2 : Int) + u = ((2 + u : Nat) : Int) := by omega
  obtain ⟨l, e2, h1, d', xs, h2, h3, h4, h5, h6⟩ := eLc_inv (vs := [10]) (fi := (iRng1f (aCons (xOf (eOp2 dAdd (xOf (eC (.int 2))) (xOf (eCall G__law_ladle [] (aCons (xSlot 0) (aCons (xOf (eC (.int 6))) aNil)))))) aNil))) (g := (gN 10)) (ft := tYesF) (fe := (eOp2 dSub (xOf (eCall G__law_ladle [] (aCons (xSlot 0) (aCons (xOf (eOp2 dPow (xOf (eC (.int 10))) (xOf (eC (.int 9))))) aNil)))) (xOf (eOp2 dPow (xOf (eC (.int 10))) (xOf (eC (.int 8))))))) (e := [some d, z1, z2, z3, z4, z5, z6, z7, none, none, none]) (e1 := [some dA, z1, z2, z3, z4, z5, z6, z7, none, none, none]) (k := ⟨rng 0 (2 + (u : Int)), none⟩)
    (fun j l e => ∃ d' xs, e = [some d', z1, z2, z3, z4, z5, z6, z7, none, none, none] ∧ Cr (N + 1 + j) d' ∧ l = xs.map D.int ∧ (∀ x ∈ xs, -(10 ^ 12) ≤ x ∧ x ≤ 10 ^ 12) ∧ xs.length = j)
    (by simp [hd.fl, q1, s1]) (by simp) (by rw [e1, rng_nat]; simp; exact line_nat (by omega)) (by simp) ⟨dA, [], by simp, c1, rfl, by simp, rfl⟩ (by
      rintro j x l e hj ⟨d1, xs, rfl, c1, rfl, g1, g2⟩
      dsimp only at hj
      rw [e1, rng_nat] at hj
      have hjn : j < 2 + u := by
        obtain ⟨h, _⟩ := List.getElem?_eq_some_iff.mp hj
        simpa using h
      obtain ⟨w, d2, q2, c2, w0, w1⟩ := ladle_ok (t := 10 ^ 9) c1 (by omega) (by omega) (by omega)
      refine ⟨some (.int (w - 10 ^ 8)), [some d2, z1, z2, z3, z4, z5, z6, z7, none, none, none], by simp [-Int.reducePow, lcStep, c1.fl, q2, pow_9, pow_8], d2, xs ++ [w - 10 ^ 8], rfl, c2.mono (by omega), by simp, ?_, by simp [g2]⟩
      intro y hy
      rw [List.mem_append, List.mem_singleton] at hy
      rcases hy with hy | rfl
      · exact g1 y hy
      · omega)
  subst h2 h4
  dsimp only at h3 h6
  rw [e1, rng_nat, List.length_map, List.length_range] at h3 h6
  refine ⟨xs, d', ?_, h3.mono (by omega), by omega, by omega, h5⟩
  rw [h1]
  simp
theorem right_ok (N : Nat) (hN : N ≤ 3000) (d : D) (hd : Cr N d) : ∃ d', G__law_right [d] = .ok (.bl true) [d'] ∧ Cr (N + 400) d' := by
  obtain ⟨v, dA, q1, c1, v0, v1⟩ := ladle_ok (t := 13) hd (by omega) (by omega) (by omega)
  obtain ⟨n, hn⟩ : ∃ u : Nat, v = u := ⟨v.toNat, by omega⟩
  subst hn
  have hn : n ≤ 30 := by omega
  obtain ⟨ss, dB, q2, c2, l1, l2, hg⟩ := sets_ok (N + 1) n 5 (by omega) hn (by omega) dA c1
  have hs5 : ss.length ≤ 5 := by omega
  simp only [Int.cast_ofNat_Int] at q2
  have q3 := meets_ok n ss hn hs5
  rw [meet_sin n ss hs5] at q3
  have q4 := just_ok n ss hn hs5
  rw [just_cby] at q4
  have q5 := meet_sums_ok n ss hn l1 (by omega) hg
  have q6 := just_counts_ok n ss hn l1 (by omega) hg
  have cl := cby_len n ss
  have cb := cby_le n ss
  have cs := cby_sum ss n
  have ht := tell (cby n ss) (by omega) (by omega) (fun x hx => (cb x hx).1)
  have sl : (sin (cby n ss)).length = ss.length + 1 := by rw [sin_len, cl]
  have cb2 : ∀ x ∈ cby n ss, -(30 : Int) ≤ x ∧ x ≤ 30 := fun x hx => by have := cb x hx; omega
  have sb := sin_le (xs := cby n ss) (B := 30) (by omega) (by omega) cb2
  have q7 := counts_of_ok (sin (cby n ss)) (by omega) (by omega) (fun x hx => by have := sb x hx; omega)
  rw [cin_sin _ (by omega)] at q7
  have q8 := sums_of_ok (cby n ss) (by omega) (by omega) (fun x hx => by have := cb2 x hx; omega)
  have q9 := fun m h1 h2 => ended_ok (sin (cby n ss)) (by omega) (by omega) (fun x hx => by have := sb x hx; omega) m h1 h2
  have q10 := fun m h1 h2 => at_least_ok (sin (cby n ss)) (by omega) (by omega) (fun x hx => by have := sb x hx; omega) m h1 h2
  have i0 : dIx (.tup ((cby n ss).map .int)) (.int 0) = .ok (.int (gt0 (cby n ss) 0)) := ix_tup (k := 0) (by omega)
  generalize hc : cby n ss = c at *
  generalize hS : sin c = S at *
  obtain ⟨e', h1, x7, h2⟩ := forL_inv0 (g := gN 7) (b := (sCons (sSet 6 (eOp2 dAdd (xSlot 6) (xOf (eIf (tOfE (eOp2 (dEq false) (xOf (eOp2 dMod (xOf (eBlt (d1 dInt) (aCons (xSlot 7) aNil))) (xOf (eC (.int 2))))) (xOf (eC (.int 1))))) (eOp2 dIx (xSlot 3) (xSlot 7)) (eOp2 dSub (xOf (eC (.int 0))) (xOf (eOp2 dIx (xSlot 3) (xSlot 7))))))))
      (sCons (sIf (tOrF (tOfE (eOp2 (dEq true) (xOf (eCall G_ended [] (aCons (xSlot 3) (aCons (xSlot 7) aNil)))) (xSlot 6))) (tOrF (tAndF (tOfE (eOp2 (dEq false) (xOf (eOp2 dMod (xOf (eBlt (d1 dInt) (aCons (xSlot 7) aNil))) (xOf (eC (.int 2))))) (xOf (eC (.int 1))))) (tOfE (eOp2 dLt (xSlot 6) (xSlot 5)))) (tAndF (tOfE (eOp2 (dEq false) (xOf (eOp2 dMod (xOf (eBlt (d1 dInt) (aCons (xSlot 7) aNil))) (xOf (eC (.int 2))))) (xOf (eC (.int 0))))) (tOfE (eOp2 dGt (xSlot 6) (xSlot 5)))))) (sRet (eC (.bl false))) sNil)
      (sIf (tOfE (eOp2 (dEq true) (xOf (eCall G_at_least [] (aCons (xSlot 3) (aCons (xSlot 7) aNil)))) (xOf (eBlt (d1 dSum) (aCons (xOf (eSl dSl (xSlot 4) (oAt (xSlot 7)) oNo)) aNil))))) (sRet (eC (.bl false))) sNil)))) (ds := rng 1 (S.length : Int)) (e := [some dB, some (.int n), some (setD ss), some (.tup (S.map .int)), some (.tup (c.map .int)), some (.int (n - gt0 c 0)), some (.int 0), none, none, none, none]) (fun i e => ∃ x7, e = [some dB, some (.int n), some (setD ss), some (.tup (S.map .int)), some (.tup (c.map .int)), some (.int (n - gt0 c 0)), some (.int (endS S i)), x7, none, none, none]) ⟨none, by simp [endS]⟩ (by
    rintro j x e hj ⟨x7, rfl⟩
    have r1 : rng 1 (S.length : Int) = _ := rng_nat2 (a := 1)
    rw [r1] at hj
    have hjn : 1 + j < S.length := by
      obtain ⟨h, _⟩ := List.getElem?_eq_some_iff.mp hj
      simp at h
      omega
    have hx : x = D.int ((1 + j : Nat) : Int) := by
      have : j < S.length - 1 := by omega
      simpa [this] using hj.symm
    subst hx
    have t := ht (1 + j) (by omega) (by omega)
    have ix := ix_tup hjn
    have qe := q9 (1 + j) (by omega) hjn
    have qa := q10 (1 + j) (by omega) hjn
    have es := endS_s S j
    rw [show j + 1 = 1 + j by omega] at es
    obtain ⟨t1, t2, t3, t4⟩ := t
    rw [hS] at t1 t2 t3 t4
    have cut : dSl (.tup (c.map .int)) (some ((1 + j : Nat) : Int)) none = .ok (.tup ((c.drop (1 + j)).map .int)) := by
      simp only [dSl, cutD_from, List.map_drop]
    have sm : dSum (.tup ((c.drop (1 + j)).map .int)) = .ok (.int (c.drop (1 + j)).sum) := by simp only [dSum, dInts_map]
    rw [List.map_drop] at cut sm
    generalize hM : ((1 + j : Nat) : Int) = M at *
    refine ⟨[some dB, some (.int n), some (setD ss), some (.tup (S.map .int)), some (.tup (c.map .int)), some (.int (n - gt0 c 0)), some (.int (endS S j)), some (.int M), none, none, none], [some dB, some (.int n), some (setD ss), some (.tup (S.map .int)), some (.tup (c.map .int)), some (.int (n - gt0 c 0)), some (.int (endS S (1 + j))), some (.int M), none, none, none], by simp, ?_, some (.int M), by rw [show j + 1 = 1 + j by omega]⟩
    by_cases odd : M % 2 = 1
    · have ev : ¬ M % 2 = 0 := by omega
      have sgj : sg j = 1 := by unfold sg; rw [if_pos (by omega)]
      rw [sgj, Int.one_mul] at es
      have t2 := t2 (by omega)
      have t5 : ¬ endS S (1 + j) < n - gt0 c 0 := by omega
      simp [eq_ints, odd, ix, ← es, qe, t5, qa, t1, cut, sm]
    · have ev : M % 2 = 0 := by omega
      have sgj : sg j = -1 := by unfold sg; rw [if_neg (by omega)]
      rw [sgj] at es
      have es2 : endS S j + -gt0 S (1 + j) = endS S (1 + j) := by omega
      have t3 := t3 (by omega)
      have t5 : ¬ n - gt0 c 0 < endS S (1 + j) := by omega
      simp [eq_ints, odd, ev, ix, es2, qe, t5, qa, t1, cut, sm])
  have r1 : (rng 1 (S.length : Int)).length = S.length - 1 := by
    rw [show rng 1 (S.length : Int) = _ from rng_nat2 (a := 1), List.length_map, List.length_range]
  rw [r1] at h2
  have hend := (ht (S.length - 1) (by omega) (by omega)).2.2.2 (by omega)
  rw [hS] at hend
  rw [hend, cs] at h2
  subst h2
  have qe := q9 (S.length - 1) (by omega) (by omega)
  rw [hend, cs, show ((S.length - 1 : Nat) : Int) = (S.length : Int) - 1 by omega] at qe
  obtain ⟨xs, d', q11, c3, x2, x8, hb⟩ := any_ok (N + 1 + 300) (by omega) dB c2 (some (.int n)) (some (setD ss)) (some (.tup (S.map .int))) (some (.tup (c.map .int))) (some (.int (n - gt0 c 0))) (some (.int (n - gt0 c 0))) x7
  have q12 := law_counts_ok xs (by omega) x8 hb
  have q13 := counts_of_ok xs x2 x8 (fun x hx => by have := hb x hx; omega)
  have cc := cin_le (xs := xs) (B := 10 ^ 12) (by omega) (by omega) hb
  have q14 := sums_of_ok (cin xs) (by rw [cin_len]; omega) (by rw [cin_len]; omega) (fun x hx => by have := cc x hx; omega)
  rw [sin_cin xs x8] at q14
  have s2 : small62 (S.length : Int) = true := small_nat (by omega)
  have s3 : small62 1 = true := by decide
  refine ⟨d', ?_, c3.mono (by omega)⟩
  unfold G__law_right b__law_right
  simp [hd.fl, c1.fl, c2.fl, c3.fl, q1, q2, q3, q4, q5, q6, q7, q8, eq_tups, i0, s2, s3, h1, eq_ints, qe, q11, q12, q13, q14]
end Law

set_option maxHeartbeats 4000000
namespace Law
open PySem PySem.Spec PyProof.Rows L2 Tr
theorem goods_1 : Goods 6 [[0, 1, 2], [1, 2, 3], [2, 4]] := by
  intro s hs
  simp at hs
  rcases hs with rfl | rfl | rfl <;> simp
theorem goods_0 : Goods 0 [[]] := by
  intro s hs
  simp at hs
  subst hs
  simp
theorem v_m : G_meet_sums [.int 6, .tup [.tup [.int 0, .int 1, .int 2], .tup [.int 1, .int 2, .int 3], .tup [.int 2, .int 4]]] = .ok (.tup [.int 6, .int 8, .int 4, .int 1]) [.int 6, .tup [.tup [.int 0, .int 1, .int 2], .tup [.int 1, .int 2, .int 3], .tup [.int 2, .int 4]]] := by
  have h := meet_sums_ok 6 [[0, 1, 2], [1, 2, 3], [2, 4]] (by decide) (by decide) (by decide) goods_1
  rw [show sin (cby 6 [[0, 1, 2], [1, 2, 3], [2, 4]]) = [6, 8, 4, 1] by decide] at h
  exact h
theorem v_j : G_just_counts [.int 6, .tup [.tup [.int 0, .int 1, .int 2], .tup [.int 1, .int 2, .int 3], .tup [.int 2, .int 4]]] = .ok (.tup [.int 1, .int 3, .int 1, .int 1]) [.int 6, .tup [.tup [.int 0, .int 1, .int 2], .tup [.int 1, .int 2, .int 3], .tup [.int 2, .int 4]]] := by
  have h := just_counts_ok 6 [[0, 1, 2], [1, 2, 3], [2, 4]] (by decide) (by decide) (by decide) goods_1
  rw [show cby 6 [[0, 1, 2], [1, 2, 3], [2, 4]] = [1, 3, 1, 1] by decide] at h
  exact h
theorem v_0 : G_meet_sums [.int 0, .tup [.tup []]] = .ok (.tup [.int 0, .int 0]) [.int 0, .tup [.tup []]] := by
  have h := meet_sums_ok 0 [[]] (by decide) (by decide) (by decide) goods_0
  rw [show sin (cby 0 [[]]) = [0, 0] by decide] at h
  exact h
theorem v_e : G_ended [.tup [.int 6, .int 8, .int 4, .int 1], .int 2] = .ok (.int 4) [.tup [.int 6, .int 8, .int 4, .int 1], .int 2] := by
  have h := ended_ok [6, 8, 4, 1] (by decide) (by decide) (by decide) 2 (by decide) (by decide)
  rw [show endS [6, 8, 4, 1] 2 = 4 by decide] at h
  exact h
theorem v_a : G_at_least [.tup [.int 6, .int 8, .int 4, .int 1], .int 2] = .ok (.int 2) [.tup [.int 6, .int 8, .int 4, .int 1], .int 2] := by
  have h := at_least_ok [6, 8, 4, 1] (by decide) (by decide) (by decide) 2 (by decide) (by decide)
  rw [show atlS [6, 8, 4, 1] 2 = 2 by decide] at h
  exact h
theorem turns (x0 x1 : D) (d : D) (hd : Cr 0 d) (x3 : Option D) : ∃ d' x4, forL (gN 3) ((sIf (tNotF (tOfE (eCall G__law_right [] (aCons (xSlot 2) aNil)))) (sRet (eC (.bl false))) sNil)) (rng 0 4) [some x0, some x1, some d, x3, none, none] = .nx [some x0, some x1, some d', x4, none, none] := by
  obtain ⟨e', h1, d', x3', h2, _⟩ := forL_inv0 (g := gN 3) (b := (sIf (tNotF (tOfE (eCall G__law_right [] (aCons (xSlot 2) aNil)))) (sRet (eC (.bl false))) sNil)) (ds := rng 0 4) (e := [some x0, some x1, some d, x3, none, none]) (fun i e => ∃ d x3, e = [some x0, some x1, some d, x3, none, none] ∧ Cr (i * 400) d) ⟨d, x3, rfl, by simpa using hd⟩ (by
    rintro j x e hj ⟨d, x3, rfl, c⟩
    have hj4 : j < 4 := by
      obtain ⟨h, _⟩ := List.getElem?_eq_some_iff.mp hj
      simpa [rng] using h
    obtain ⟨d', q, c'⟩ := right_ok (j * 400) (by omega) d c
    refine ⟨[some x0, some x1, some d, some x, none, none], [some x0, some x1, some d', some x, none, none], by simp, by simp [c.fl, q], d', some x, rfl, c'.mono (by omega)⟩)
  exact ⟨d', x3', by rw [h1, h2]⟩
theorem law_true (ns : List Int) (hns : ns.length ≤ 63) : ∃ ds' : List D, G_law [.scr ns] = .ok (.bl true) ds' := by
  have hm : ∃ k : Nat, (max 1 (min 3 (ns.length : Int))) = k ∧ k ≤ 3 := ⟨(max 1 (min 3 (ns.length : Int))).toNat, by omega, by omega⟩
  obtain ⟨k, hk, hk3⟩ := hm
  obtain ⟨e', h1, x1, x2, x3, h2⟩ := forL_inv0 (g := gN 1) (b := (sCons (sSet 2 (eCall G__law_crock [] (aCons (xSlot 0) (aCons (xSlot 1) aNil))))
      (sFor (iRng1f (aCons (xOf (eC (.int 4))) aNil)) (gN 3) (sIf (tNotF (tOfE (eCall G__law_right [] (aCons (xSlot 2) aNil)))) (sRet (eC (.bl false))) sNil)))) (ds := rng 0 (k : Int)) (e := [some (.scr ns), none, none, none, none, none]) (fun i e => ∃ x1 x2 x3, e = [some (.scr ns), x1, x2, x3, none, none]) ⟨none, none, none, rfl⟩ (by
    rintro j x e hj ⟨x1, x2, x3, rfl⟩
    rw [rng_nat] at hj
    have hjk : j < k := by
      obtain ⟨h, _⟩ := List.getElem?_eq_some_iff.mp hj
      simpa using h
    have hx : x = D.int j := by simpa [hjk] using hj.symm
    subst hx
    obtain ⟨d, q, c⟩ := crock_ok ns j (by omega)
    obtain ⟨d', x3', h⟩ := turns (.scr ns) (.int j) d c x3
    have s4 : small62 4 = true := by decide
    refine ⟨[some (.scr ns), some (.int j), x2, x3, none, none], [some (.scr ns), some (.int j), some d', x3', none, none], by simp, by simp [q, s4, h], _, _, _, rfl⟩)
  subst h2
  have sk : small62 (k : Int) = true := small_nat (by omega)
  have z1 : 3 ≤ sizeLine := line_nat (by omega)
  have z2 : 2 ≤ sizeLine := line_nat (by omega)
  have z3 : 4 ≤ sizeLine := line_nat (by omega)
  have z4 : 1 ≤ sizeLine := line_nat (by omega)
  refine ⟨[.scr ns], ?_⟩
  unfold G_law b_law
  simp [hk, sk, h1, frzL, z1, z2, z3, z4, v_m, v_j, v_e, v_a, v_0]
  simp [dEq, D.py, pyL, SeqAt.shaped, PyData.eqv, PyData.canLay0, PyData.depth, PyData.canLayAll0, PyData.depthAll, PyData.eqvAll]
end Law

set_option maxHeartbeats 0
open PySem PySem.W PySem.Calls PyProof.Rows
theorem PySem.Challenge.cw_countwide_k66_whole_meet_sums_and_just_c_holds : PySem.Challenge.rw_countwide_k66_whole_meet_sums_and_just_c.Holds := by
  w_on; o_law
  refine HandSHeadRun.head_any (r := OpenLaw.row PySem.Challenge.rw_countwide_k66_whole_meet_sums_and_just_c) (q := view (OpenLaw.row PySem.Challenge.rw_countwide_k66_whole_meet_sums_and_just_c).prog [36]) (H := Law.hk) (ob := Law.hob) (M := 4000) (loose := Law.hloose) (d := HandSHeadRun.topDef (OpenLaw.row PySem.Challenge.rw_countwide_k66_whole_meet_sums_and_just_c).prog 36) (kwd := []) Law.hob_eq
    (by kernel_rfl) (fun s => by kernel_rfl) Law.hrun (by kernel_rfl) (by kernel_rfl) (by kernel_rfl) (by rfl) (by first | assumption | decide +kernel) (by decide +kernel) ⟨rfl, rfl, rfl, rfl, rfl, by decide +kernel⟩ ?hw ?hc
  case hw => w_witness2
  case hc =>
    refine Tr.walk_trees (l := PySem.Challenge.rw_countwide_k66_whole_meet_sums_and_just_c) (k := 6) (G := Law.G_law) rfl (by kernel_rfl) ⟨rfl, by decide, by decide⟩ ?_ Law.law_true
    intro w mg f h Y G hm0
    obtain ⟨K, KX, c⟩ := Y
    have hm : mg ("law" : PySem.Str) = some (.ref f) := by
      have e : (HandSHeadRun.topDef (OpenLaw.row PySem.Challenge.rw_countwide_k66_whole_meet_sums_and_just_c).prog 36).name = ("law" : PySem.Str) := by kernel_rfl
      rw [← e]
      exact hm0
    obtain ⟨fd, hb, hF⟩ := Law.facts (P := (PySem.Challenge.rw_countwide_k66_whole_meet_sums_and_just_c).prog) (w := w) KX G hm c
    exact ⟨K, fd, KX, hb, hF⟩


