import PyProof.Rows.All
import Wide.All
import OpenK.AllK
import Wide.FinOn
import HandS.ForMost
import HandS.Wide
import HandS.CallSlots
import HandS.TupAny
import HandS.Style
import HandS.IsInst
import PyProof.SliceStr
import HandS.More
import PyProof.SliceStr2
import HandS.SortInts
import HandS.Flt
import PyProof.Draws
import PyProof.EnumMake
import HandS.Codes
import HandS.WordsExc
import HandS.ExcIs
import HandS.SortRule
import HandS.Dict
import HandS.Deep
import HandS.NoneIn
import HandS.WordsDict
import HandS.TupLen
import KE.GoesEnumKw
import HandS.Conv
import HandS.StrMore
import HandS.EndBits
import PySem.Challenge.RW_treemend_k24_rows_read_or_refused
set_option Elab.async false
set_option linter.all false
set_option maxRecDepth 100000
set_option maxHeartbeats 1000000
/-! Pure data over the hand layer: every value is told as data (D), what may still change is owned by one place. -/
namespace Tm
open PySem PySem.Spec PyProof.Rows L2

/-- a dict's keys: whole numbers and texts, or tuples of these -/
inductive DKeys where
  | k (ks : List L2.Key)
  | t (ks : List (List L2.Key))
def DKeys.len : DKeys → Nat
  | .k ks => ks.length
  | .t ks => ks.length
def DKeys.ho : DKeys → List V → HO
  | .k ks, vs => .dK (ks.zip vs)
  | .t ks, vs => .dT (ks.zip vs)
/-- whose an object is: frozen, one place's, one place's at a known address -/
inductive Own where
  | f | t | p (a : Addr)
def Own.dirty : Own → Bool
  | .f => false
  | _ => true
/-- data; a list may be owned (true: it may still be changed, by the one place that has it) or frozen -/
inductive D where
  | non | bl (b : Bool) | int (i : Int) | str (x : Str)
  | tup (ds : List D) | lst (o : Bool) (ds : List D) | seq (ds : List D)
  | ref (a : Addr) | ty (n : String)
  | dct (o : Bool) (kd : DKeys) (ds : List D)
  | pin (a : Addr) (ds : List D)
  | obj (o : Own) (c : Str) (ns : List Str) (ds : List D)

mutual
def dirty : D → Bool
  | .tup ds => dirtys ds
  | .lst o _ => o
  | .dct o _ _ => o
  | .pin _ _ => true
  | .obj o _ _ _ => o.dirty
  | _ => false
def dirtys : List D → Bool
  | [] => false
  | d :: ds => dirty d || dirtys ds
end
mutual
def fz : D → D
  | .tup ds => .tup (fzs ds)
  | .lst _ ds => .lst false (fzs ds)
  | .dct _ kd ds => .dct false kd (fzs ds)
  | .pin _ ds => .lst false (fzs ds)
  | .obj _ c ns ds => .obj .f c ns (fzs ds)
  | .non => .non
  | .bl b => .bl b
  | .int i => .int i
  | .str x => .str x
  | .seq ds => .seq ds
  | .ref a => .ref a
  | .ty n => .ty n
def fzs : List D → List D
  | [] => []
  | d :: ds => fz d :: fzs ds
end
mutual
/-- does not lean on anything frozen -/
def selfc : D → Bool
  | .tup ds => selfcs ds
  | .lst o ds => o && selfcs ds
  | .dct o _ ds => o && selfcs ds
  | .pin _ ds => selfcs ds
  | .obj o _ _ ds => o.dirty && selfcs ds
  | .seq _ => false
  | _ => true
def selfcs : List D → Bool
  | [] => true
  | d :: ds => selfc d && selfcs ds
end
theorem dirtys_app : ∀ (a b : List D), dirtys (a ++ b) = (dirtys a || dirtys b)
  | [], b => by simp [dirtys]
  | d :: a, b => by simp [dirtys, dirtys_app a b, Bool.or_assoc]
theorem fzs_map : ∀ (ds : List D), fzs ds = ds.map fz
  | [] => by simp [fzs]
  | d :: ds => by simp [fzs, fzs_map ds]
theorem dirtys_false : ∀ {ds : List D}, dirtys ds = false ↔ ∀ d ∈ ds, dirty d = false
  | [] => by simp [dirtys]
  | d :: ds => by simp [dirtys, dirtys_false (ds := ds)]
theorem selfcs_true : ∀ {ds : List D}, selfcs ds = true ↔ ∀ d ∈ ds, selfc d = true
  | [] => by simp [selfcs]
  | d :: ds => by simp [selfcs, selfcs_true (ds := ds)]

/-! ### values and data -/
abbrev Ex (H H' : Hp) : Prop := Same H H'
theorem Ex.new {H : Hp} {p : Addr} {o : HO} (h : H p = none) : Ex H (upd H p o) := fun a u e => by
  rw [upd_ne (ne_of_none e h)]; exact e
mutual
inductive Rep (K : PySem.W.Frag) (F H : Hp) : V → D → List Addr → Prop
  | non : Rep K F H .non .non []
  | bl (b : Bool) : Rep K F H (.bl b) (.bl b) []
  | int (i : Int) : Rep K F H (.int i) (.int i) []
  | str (x : Str) : Rep K F H (.str x) (.str x) []
  | ref (a : Addr) : Rep K F H (.ref a) (.ref a) []
  | ty (n : String) : Rep K F H (.ty n) (.ty n) []
  | tup {a : Addr} {vs : List V} {ds : List D} {A : List Addr} : H a = some (.tup vs) → Reps K F H vs ds A → Rep K F H (.ref a) (.tup ds) A
  | fz {a : Addr} {vs : List V} {ds : List D} : F a = some (.lst vs) → Reps K F H vs ds [] → Rep K F H (.ref a) (.lst false ds) []
  | own {a : Addr} {vs : List V} {ds : List D} {A : List Addr} : H a = some (.lst vs) → Reps K F H vs ds A → Rep K F H (.ref a) (.lst true ds) (a :: A)
  | seq {a : Addr} {vs : List V} {ds : List D} : SqL K F a vs → Reps K F H vs ds [] → Rep K F H (.ref a) (.seq ds) []
  | dF {a : Addr} {vs : List V} {kd : DKeys} {ds : List D} : F a = some (kd.ho vs) → kd.len = vs.length → Reps K F H vs ds [] → Rep K F H (.ref a) (.dct false kd ds) []
  | dO {a : Addr} {vs : List V} {kd : DKeys} {ds : List D} {A : List Addr} : H a = some (kd.ho vs) → kd.len = vs.length → Reps K F H vs ds A → Rep K F H (.ref a) (.dct true kd ds) (a :: A)
  | pin {a : Addr} {vs : List V} {ds : List D} {A : List Addr} : H a = some (.lst vs) → Reps K F H vs ds A → Rep K F H (.ref a) (.pin a ds) (a :: A)
  | oF {a C dx : Addr} {c : Str} {ns : List Str} {vs : List V} {ds : List D} : F a = some (.ins C dx (ns.zip vs)) → PySem.W.nsIn K mainGlobals c = some (some (.ref C)) → ns.length = vs.length → Reps K F H vs ds [] → Rep K F H (.ref a) (.obj .f c ns ds) []
  | oO {a C dx : Addr} {c : Str} {ns : List Str} {vs : List V} {ds : List D} {A : List Addr} : H a = some (.ins C dx (ns.zip vs)) → PySem.W.nsIn K mainGlobals c = some (some (.ref C)) → ns.length = vs.length → Reps K F H vs ds A → Rep K F H (.ref a) (.obj .t c ns ds) (a :: A)
  | oP {a C dx : Addr} {c : Str} {ns : List Str} {vs : List V} {ds : List D} {A : List Addr} : H a = some (.ins C dx (ns.zip vs)) → PySem.W.nsIn K mainGlobals c = some (some (.ref C)) → ns.length = vs.length → Reps K F H vs ds A → Rep K F H (.ref a) (.obj (.p a) c ns ds) (a :: A)
inductive Reps (K : PySem.W.Frag) (F H : Hp) : List V → List D → List Addr → Prop
  | nil : Reps K F H [] [] []
  | cons {v : V} {vs : List V} {d : D} {ds : List D} {A B C : List Addr} : Rep K F H v d A → Reps K F H vs ds B → C = A ++ B → Reps K F H (v :: vs) (d :: ds) C
end
section
variable {K : PySem.W.Frag} {F F' H H' : Hp}
theorem same_sqT {a : Addr} {xs : List V} (e : Ex H H') (h : SqT K H a xs) : SqT K H' a xs := by
  rcases h with (h | ⟨o, h⟩) | h
  · exact .inl (.inl (e _ _ h))
  · exact .inl (.inr ⟨o, e _ _ h⟩)
  · exact .inr h
mutual
theorem Rep.mono (hF : Ex F F') (hT : ∀ a xs, H a = some (.tup xs) → H' a = some (.tup xs)) : ∀ {v : V} {d : D} {A : List Addr}, Rep K F H v d A → (∀ a ∈ A, H' a = H a) → Rep K F' H' v d A
  | _, _, _, .non, _ => .non
  | _, _, _, .bl b, _ => .bl b
  | _, _, _, .int i, _ => .int i
  | _, _, _, .str x, _ => .str x
  | _, _, _, .ref a, _ => .ref a
  | _, _, _, .ty n, _ => .ty n
  | _, _, _, .tup h r, hA => .tup (hT _ _ h) (Reps.mono hF hT r hA)
  | _, _, _, .fz h r, hA => .fz (hF _ _ h) (Reps.mono hF hT r hA)
  | _, _, _, .own h r, hA => .own ((hA _ List.mem_cons_self).trans h) (Reps.mono hF hT r fun a ha => hA a (List.mem_cons_of_mem _ ha))
  | _, _, _, .seq h r, hA => .seq (Same.seq hF h) (Reps.mono hF hT r hA)
  | _, _, _, .dF h e r, hA => .dF (hF _ _ h) e (Reps.mono hF hT r hA)
  | _, _, _, .dO h e r, hA => .dO ((hA _ List.mem_cons_self).trans h) e (Reps.mono hF hT r fun a ha => hA a (List.mem_cons_of_mem _ ha))
  | _, _, _, .pin h r, hA => .pin ((hA _ List.mem_cons_self).trans h) (Reps.mono hF hT r fun a ha => hA a (List.mem_cons_of_mem _ ha))
  | _, _, _, .oF h n e r, hA => .oF (hF _ _ h) n e (Reps.mono hF hT r hA)
  | _, _, _, .oO h n e r, hA => .oO ((hA _ List.mem_cons_self).trans h) n e (Reps.mono hF hT r fun a ha => hA a (List.mem_cons_of_mem _ ha))
  | _, _, _, .oP h n e r, hA => .oP ((hA _ List.mem_cons_self).trans h) n e (Reps.mono hF hT r fun a ha => hA a (List.mem_cons_of_mem _ ha))
theorem Reps.mono (hF : Ex F F') (hT : ∀ a xs, H a = some (.tup xs) → H' a = some (.tup xs)) : ∀ {vs : List V} {ds : List D} {A : List Addr}, Reps K F H vs ds A → (∀ a ∈ A, H' a = H a) → Reps K F' H' vs ds A
  | _, _, _, .nil, _ => .nil
  | _, _, _, .cons h r e, hA => .cons (Rep.mono hF hT h fun a ha => hA a (by rw [e]; exact List.mem_append_left _ ha)) (Reps.mono hF hT r fun a ha => hA a (by rw [e]; exact List.mem_append_right _ ha)) e
end
mutual
/-- what is owned is there -/
theorem Rep.there : ∀ {v : V} {d : D} {A : List Addr}, Rep K F H v d A → ∀ a ∈ A, ∃ o, H a = some o
  | _, _, _, .non, a, ha => absurd ha List.not_mem_nil
  | _, _, _, .bl b, a, ha => absurd ha List.not_mem_nil
  | _, _, _, .int i, a, ha => absurd ha List.not_mem_nil
  | _, _, _, .str x, a, ha => absurd ha List.not_mem_nil
  | _, _, _, .ref b, a, ha => absurd ha List.not_mem_nil
  | _, _, _, .ty n, a, ha => absurd ha List.not_mem_nil
  | _, _, _, .tup _ r, a, ha => Reps.there r a ha
  | _, _, _, .fz _ _, a, ha => absurd ha List.not_mem_nil
  | _, _, _, .own (vs := vs) h r, a, ha => (List.mem_cons.mp ha).elim (fun e => ⟨_, e ▸ h⟩) (fun ha => Reps.there r a ha)
  | _, _, _, .seq _ _, a, ha => absurd ha List.not_mem_nil
  | _, _, _, .dF _ _ _, a, ha => absurd ha List.not_mem_nil
  | _, _, _, .dO h _ r, a, ha => (List.mem_cons.mp ha).elim (fun e => ⟨_, e ▸ h⟩) (fun ha => Reps.there r a ha)
  | _, _, _, .pin h r, a, ha => (List.mem_cons.mp ha).elim (fun e => ⟨_, e ▸ h⟩) (fun ha => Reps.there r a ha)
  | _, _, _, .oF _ _ _ _, a, ha => absurd ha List.not_mem_nil
  | _, _, _, .oO h _ _ r, a, ha => (List.mem_cons.mp ha).elim (fun e => ⟨_, e ▸ h⟩) (fun ha => Reps.there r a ha)
  | _, _, _, .oP h _ _ r, a, ha => (List.mem_cons.mp ha).elim (fun e => ⟨_, e ▸ h⟩) (fun ha => Reps.there r a ha)
theorem Reps.there : ∀ {vs : List V} {ds : List D} {A : List Addr}, Reps K F H vs ds A → ∀ a ∈ A, ∃ o, H a = some o
  | _, _, _, .nil, a, ha => absurd ha List.not_mem_nil
  | _, _, _, .cons h r e, a, ha => (List.mem_append.mp (by rw [← e]; exact ha)).elim (fun ha => Rep.there h a ha) (fun ha => Reps.there r a ha)
end
theorem Rep.ex (hF : Ex F F') (hH : Ex H H') {v : V} {d : D} {A : List Addr} (h : Rep K F H v d A) : Rep K F' H' v d A :=
  h.mono hF (fun _ _ z => hH _ _ z) fun a ha => by
    obtain ⟨xs, e⟩ := h.there a ha
    rw [e]; exact hH _ _ e
theorem Reps.ex (hF : Ex F F') (hH : Ex H H') {vs : List V} {ds : List D} {A : List Addr} (h : Reps K F H vs ds A) : Reps K F' H' vs ds A :=
  h.mono hF (fun _ _ z => hH _ _ z) fun a ha => by
    obtain ⟨xs, e⟩ := h.there a ha
    rw [e]; exact hH _ _ e
mutual
theorem Rep.clean : ∀ {v : V} {d : D} {A : List Addr}, Rep K F H v d A → dirty d = false → A = []
  | _, _, _, .non, _ => rfl
  | _, _, _, .bl b, _ => rfl
  | _, _, _, .int i, _ => rfl
  | _, _, _, .str x, _ => rfl
  | _, _, _, .ref a, _ => rfl
  | _, _, _, .ty n, _ => rfl
  | _, _, _, .tup h r, hd => Reps.clean r (by simpa [dirty] using hd)
  | _, _, _, .fz h r, _ => rfl
  | _, _, _, .own h r, hd => by simp [dirty] at hd
  | _, _, _, .seq h r, _ => rfl
  | _, _, _, .dF _ _ _, _ => rfl
  | _, _, _, .dO _ _ _, hd => by simp [dirty] at hd
  | _, _, _, .pin _ _, hd => by simp [dirty] at hd
  | _, _, _, .oF _ _ _ _, _ => rfl
  | _, _, _, .oO _ _ _ _, hd => by simp [dirty, Own.dirty] at hd
  | _, _, _, .oP _ _ _ _, hd => by simp [dirty, Own.dirty] at hd
theorem Reps.clean : ∀ {vs : List V} {ds : List D} {A : List Addr}, Reps K F H vs ds A → dirtys ds = false → A = []
  | _, _, _, .nil, _ => rfl
  | _, _, _, .cons h r e, hd => by
    simp only [dirtys, Bool.or_eq_false_iff] at hd
    rw [e, Rep.clean h hd.1, Reps.clean r hd.2]; rfl
end
mutual
/-- frozen: what was owned is in the frozen part now -/
theorem Rep.frozen (hF : Ex F F') : ∀ {v : V} {d : D} {A : List Addr}, Rep K F H v d A → (∀ a ∈ A, F' a = H a) → Rep K F' H v (Tm.fz d) []
  | _, _, _, .non, _ => by rw [Tm.fz]; exact .non
  | _, _, _, .bl b, _ => by rw [Tm.fz]; exact .bl b
  | _, _, _, .int i, _ => by rw [Tm.fz]; exact .int i
  | _, _, _, .str x, _ => by rw [Tm.fz]; exact .str x
  | _, _, _, .ref a, _ => by rw [Tm.fz]; exact .ref a
  | _, _, _, .ty n, _ => by rw [Tm.fz]; exact .ty n
  | _, _, _, .tup h r, hA => by rw [Tm.fz]; exact .tup h (Reps.frozen hF r hA)
  | _, _, _, .fz h r, hA => by rw [Tm.fz]; exact .fz (hF _ _ h) (Reps.frozen hF r hA)
  | _, _, _, .own h r, hA => by
    rw [Tm.fz]
    exact .fz ((hA _ List.mem_cons_self).trans h) (Reps.frozen hF r fun a ha => hA a (List.mem_cons_of_mem _ ha))
  | _, _, _, .seq h r, hA => by
    rw [Tm.fz]
    exact .seq (Same.seq hF h) (Reps.mono hF (fun _ _ z => z) r fun a ha => rfl)
  | _, _, _, .dF h e r, hA => by rw [Tm.fz]; exact .dF (hF _ _ h) e (Reps.frozen hF r hA)
  | _, _, _, .dO h e r, hA => by
    rw [Tm.fz]
    exact .dF ((hA _ List.mem_cons_self).trans h) e (Reps.frozen hF r fun a ha => hA a (List.mem_cons_of_mem _ ha))
  | _, _, _, .pin h r, hA => by
    rw [Tm.fz]
    exact .fz ((hA _ List.mem_cons_self).trans h) (Reps.frozen hF r fun a ha => hA a (List.mem_cons_of_mem _ ha))
  | _, _, _, .oF h n e r, hA => by rw [Tm.fz]; exact .oF (hF _ _ h) n e (Reps.frozen hF r hA)
  | _, _, _, .oO h n e r, hA => by
    rw [Tm.fz]
    exact .oF ((hA _ List.mem_cons_self).trans h) n e (Reps.frozen hF r fun a ha => hA a (List.mem_cons_of_mem _ ha))
  | _, _, _, .oP h n e r, hA => by
    rw [Tm.fz]
    exact .oF ((hA _ List.mem_cons_self).trans h) n e (Reps.frozen hF r fun a ha => hA a (List.mem_cons_of_mem _ ha))
theorem Reps.frozen (hF : Ex F F') : ∀ {vs : List V} {ds : List D} {A : List Addr}, Reps K F H vs ds A → (∀ a ∈ A, F' a = H a) → Reps K F' H vs (fzs ds) []
  | _, _, _, .nil, _ => by rw [fzs]; exact .nil
  | _, _, _, .cons h r e, hA => by
    rw [fzs]
    exact .cons (Rep.frozen hF h fun a ha => hA a (by rw [e]; exact List.mem_append_left _ ha)) (Reps.frozen hF r fun a ha => hA a (by rw [e]; exact List.mem_append_right _ ha)) rfl
end
mutual
/-- what does not lean on the frozen part holds over any -/
theorem Rep.alone : ∀ {v : V} {d : D} {A : List Addr}, Rep K F H v d A → selfc d = true → Rep K F' H v d A
  | _, _, _, .non, _ => .non
  | _, _, _, .bl b, _ => .bl b
  | _, _, _, .int i, _ => .int i
  | _, _, _, .str x, _ => .str x
  | _, _, _, .ref a, _ => .ref a
  | _, _, _, .ty n, _ => .ty n
  | _, _, _, .tup h r, hd => .tup h (Reps.alone r (by simpa [selfc] using hd))
  | _, _, _, .fz h r, hd => by simp [selfc] at hd
  | _, _, _, .own h r, hd => .own h (Reps.alone r (by simpa [selfc] using hd))
  | _, _, _, .seq h r, hd => by simp [selfc] at hd
  | _, _, _, .dF _ _ _, hd => by simp [selfc] at hd
  | _, _, _, .dO h e r, hd => .dO h e (Reps.alone r (by simpa [selfc] using hd))
  | _, _, _, .pin h r, hd => .pin h (Reps.alone r (by simpa [selfc] using hd))
  | _, _, _, .oF h n e r, hd => by simp [selfc, Own.dirty] at hd
  | _, _, _, .oO h n e r, hd => .oO h n e (Reps.alone r (by simpa [selfc, Own.dirty] using hd))
  | _, _, _, .oP h n e r, hd => .oP h n e (Reps.alone r (by simpa [selfc, Own.dirty] using hd))
theorem Reps.alone : ∀ {vs : List V} {ds : List D} {A : List Addr}, Reps K F H vs ds A → selfcs ds = true → Reps K F' H vs ds A
  | _, _, _, .nil, _ => .nil
  | _, _, _, .cons h r e, hd => by
    simp only [selfcs, Bool.and_eq_true] at hd
    exact .cons (Rep.alone h hd.1) (Reps.alone r hd.2) e
end
theorem Reps.length : ∀ {vs : List V} {ds : List D} {A : List Addr}, Reps K F H vs ds A → vs.length = ds.length
  | _, _, _, .nil => rfl
  | _, _, _, .cons _ r _ => by simp [Reps.length r]
theorem Reps.get : ∀ {vs : List V} {ds : List D} {A : List Addr} {i : Nat} {d : D}, Reps K F H vs ds A → ds[i]? = some d → ∃ v B, vs[i]? = some v ∧ Rep K F H v d B ∧ (∀ a ∈ B, a ∈ A)
  | _, _, _, 0, d, .cons h _ e, q => by
    simp at q; subst q
    exact ⟨_, _, rfl, h, fun a ha => by rw [e]; exact List.mem_append_left _ ha⟩
  | _, _, _, i + 1, d, .cons _ r e, q => by
    obtain ⟨v, B, h1, h2, h3⟩ := Reps.get (i := i) (d := d) r (by simpa using q)
    exact ⟨v, B, by simpa using h1, h2, fun a ha => by rw [e]; exact List.mem_append_right _ (h3 a ha)⟩
theorem Reps.get' : ∀ {vs : List V} {ds : List D} {A : List Addr} {i : Nat} {v : V}, Reps K F H vs ds A → vs[i]? = some v → ∃ d B, ds[i]? = some d ∧ Rep K F H v d B ∧ (∀ a ∈ B, a ∈ A) := fun {vs ds A i v} r q => by
  have hi : i < ds.length := by rw [← r.length]; exact (List.getElem?_eq_some_iff.mp q).1
  obtain ⟨v', B, h1, h2, h3⟩ := r.get (List.getElem?_eq_getElem hi)
  rw [q] at h1; cases h1
  exact ⟨_, B, List.getElem?_eq_getElem hi, h2, h3⟩
theorem Reps.app : ∀ {vs ws : List V} {ds es : List D} {A B : List Addr}, Reps K F H vs ds A → Reps K F H ws es B → Reps K F H (vs ++ ws) (ds ++ es) (A ++ B)
  | _, _, _, _, _, _, .nil, s => s
  | _, _, _, _, _, _, .cons h r e, s => .cons h (Reps.app r s) (by rw [e, List.append_assoc])
theorem Reps.split : ∀ {vs ws : List V} {ds : List D} {C : List Addr}, Reps K F H (vs ++ ws) ds C → ∃ d1 d2 A B, ds = d1 ++ d2 ∧ C = A ++ B ∧ Reps K F H vs d1 A ∧ Reps K F H ws d2 B
  | [], ws, ds, C, h => ⟨[], ds, [], C, rfl, rfl, .nil, h⟩
  | v :: vs, ws, _, _, .cons h r e => by
    obtain ⟨d1, d2, A, B, e1, e2, r1, r2⟩ := Reps.split r
    exact ⟨_ :: d1, d2, _ ++ A, B, by rw [e1]; rfl, by rw [e, e2, List.append_assoc], .cons h r1 rfl, r2⟩
/-- clean items by items -/
theorem Reps.of_clean {vs : List V} {ds : List D} (hl : vs.length = ds.length) (h : ∀ (i : Nat) (v : V) (d : D), vs[i]? = some v → ds[i]? = some d → Rep K F H v d []) : Reps K F H vs ds [] := by
  induction vs generalizing ds with
  | nil =>
    cases ds with
    | nil => exact .nil
    | cons d ds => simp at hl
  | cons v vs ih =>
    cases ds with
    | nil => simp at hl
    | cons d ds => exact .cons (h 0 v d rfl rfl) (ih (by simpa using hl) fun i v' d' h1 h2 => h (i + 1) v' d' (by simpa using h1) (by simpa using h2)) rfl
theorem Reps.clean_get {vs : List V} {ds : List D} {i : Nat} {v : V} {d : D} (r : Reps K F H vs ds []) (h1 : vs[i]? = some v) (h2 : ds[i]? = some d) : Rep K F H v d [] := by
  obtain ⟨v', B, e1, e2, e3⟩ := r.get h2
  rw [h1] at e1; cases e1
  have : B = [] := List.eq_nil_iff_forall_not_mem.mpr fun a ha => by have := e3 a ha; simp at this
  rw [this] at e2; exact e2
theorem Reps.ints : ∀ {vs : List V} {ns : List Int} {A : List Addr}, Reps K F H vs (ns.map D.int) A → vs = ns.map V.int ∧ A = []
  | _, [], _, .nil => ⟨rfl, rfl⟩
  | _, n :: ns, _, .cons h r e => by
    obtain ⟨e1, e2⟩ := Reps.ints r
    cases h
    exact ⟨by rw [e1]; rfl, by rw [e, e2]; rfl⟩
theorem Reps.of_ints : ∀ (ns : List Int), Reps K F H (ns.map V.int) (ns.map D.int) []
  | [] => .nil
  | n :: ns => .cons (.int n) (Reps.of_ints ns) rfl
end

/-! ### the slots -/
abbrev Env := List (Option D)
inductive Slots (K : PySem.W.Frag) (F H : Hp) : L2.St → Env → List Addr → Prop
  | nil : Slots K F H [] [] []
  | skip {x : Option V} {σ : L2.St} {env : Env} {A : List Addr} : Slots K F H σ env A → Slots K F H (x :: σ) (none :: env) A
  | cons {v : V} {d : D} {σ : L2.St} {env : Env} {A B C : List Addr} : Rep K F H v d A → Slots K F H σ env B → C = A ++ B → Slots K F H (some v :: σ) (some d :: env) C
section
variable {K : PySem.W.Frag} {F F' H H' : Hp}
theorem Slots.mono (hF : Ex F F') (hT : ∀ a xs, H a = some (.tup xs) → H' a = some (.tup xs)) : ∀ {σ : L2.St} {env : Env} {A : List Addr}, Slots K F H σ env A → (∀ a ∈ A, H' a = H a) → Slots K F' H' σ env A
  | _, _, _, .nil, _ => .nil
  | _, _, _, .skip r, hA => .skip (Slots.mono hF hT r hA)
  | _, _, _, .cons h r e, hA => .cons (h.mono hF hT fun a ha => hA a (by rw [e]; exact List.mem_append_left _ ha)) (Slots.mono hF hT r fun a ha => hA a (by rw [e]; exact List.mem_append_right _ ha)) e
theorem Slots.there : ∀ {σ : L2.St} {env : Env} {A : List Addr}, Slots K F H σ env A → ∀ a ∈ A, ∃ o, H a = some o
  | _, _, _, .nil, a, ha => absurd ha List.not_mem_nil
  | _, _, _, .skip r, a, ha => Slots.there r a ha
  | _, _, _, .cons h r e, a, ha => by
    rw [e] at ha
    rcases List.mem_append.mp ha with ha | ha
    · exact h.there a ha
    · exact Slots.there r a ha
theorem Slots.ex (hF : Ex F F') (hH : Ex H H') {σ : L2.St} {env : Env} {A : List Addr} (h : Slots K F H σ env A) : Slots K F' H' σ env A :=
  h.mono hF (fun _ _ z => hH _ _ z) fun a ha => by
    obtain ⟨xs, e⟩ := h.there a ha
    rw [e]; exact hH _ _ e
theorem Slots.length : ∀ {σ : L2.St} {env : Env} {A : List Addr}, Slots K F H σ env A → σ.length = env.length
  | _, _, _, .nil => rfl
  | _, _, _, .skip r => by simp [Slots.length r]
  | _, _, _, .cons _ r _ => by simp [Slots.length r]
/-- the i-th slot, and what may be put in its place -/
theorem Slots.at : ∀ {σ : L2.St} {env : Env} {A : List Addr} {i : Nat} {d : D}, Slots K F H σ env A → env[i]? = some (some d) → ∃ v A1 Ai A2, σ[i]? = some (some v) ∧ A = A1 ++ Ai ++ A2 ∧ Rep K F H v d Ai ∧
    Slots K F H σ (env.set i none) (A1 ++ A2) ∧
    ∀ {F' H' : Hp} {v' : V} {d' : D} {Ai' : List Addr}, Ex F F' → (∀ a xs, H a = some (.tup xs) → H' a = some (.tup xs)) → (∀ a ∈ A1 ++ A2, H' a = H a) → Rep K F' H' v' d' Ai' → Slots K F' H' (σ.set i (some v')) (env.set i (some d')) (A1 ++ Ai' ++ A2)
  | _, _, _, 0, d, .cons (A := A) (B := B) h r e, q => by
    simp at q; subst q
    refine ⟨_, [], A, B, rfl, by rw [e]; rfl, h, .skip r, fun hF hT hA h' => .cons h' (r.mono hF hT fun a ha => hA a (by simpa using ha)) (by simp)⟩
  | _, _, _, i + 1, d, .skip r, q => by
    obtain ⟨v, A1, Ai, A2, h1, h2, h3, h4, h5⟩ := Slots.at (i := i) (d := d) r (by simpa using q)
    exact ⟨v, A1, Ai, A2, by simpa using h1, h2, h3, .skip h4, fun hF hT hA h' => .skip (h5 hF hT hA h')⟩
  | _, _, _, i + 1, d, .cons (A := A) h r e, q => by
    obtain ⟨v, A1, Ai, A2, h1, h2, h3, h4, h5⟩ := Slots.at (i := i) (d := d) r (by simpa using q)
    refine ⟨v, A ++ A1, Ai, A2, by simpa using h1, by rw [e, h2]; simp [List.append_assoc], h3, .cons h h4 (by simp [List.append_assoc]), fun hF hT hA h' => ?_⟩
    refine .cons (h.mono hF hT fun a ha => hA a (by simp [ha])) (h5 hF hT (fun a ha => hA a (by simp at ha ⊢; rcases ha with ha | ha <;> simp [ha])) h') (by simp [List.append_assoc])
/-- any slot stored anew -/
theorem Slots.put : ∀ {σ : L2.St} {env : Env} {A : List Addr} {i : Nat} {v : V} {d : D} {B : List Addr}, Slots K F H σ env A → i < env.length → Rep K F H v d B →
    ∃ A1 A2 Ai, A = A1 ++ Ai ++ A2 ∧ Slots K F H (σ.set i (some v)) (env.set i (some d)) (A1 ++ B ++ A2)
  | _, _, _, 0, v, d, B, .skip (A := A) r, _, h => ⟨[], A, [], by simp, .cons h r (by simp)⟩
  | _, _, _, 0, v, d, B, .cons (A := A) (B := C) _ r e, _, h => ⟨[], C, A, by simp [e], .cons h r (by simp)⟩
  | _, _, _, i + 1, v, d, B, .skip r, hi, h => by
    obtain ⟨A1, A2, Ai, e, q⟩ := Slots.put (i := i) r (by simpa using hi) h
    exact ⟨A1, A2, Ai, e, .skip q⟩
  | _, _, _, i + 1, v, d, B, .cons (A := A) h0 r e0, hi, h => by
    obtain ⟨A1, A2, Ai, e, q⟩ := Slots.put (i := i) r (by simpa using hi) h
    exact ⟨A ++ A1, A2, Ai, by rw [e0, e]; simp [List.append_assoc], .cons h0 q (by simp [List.append_assoc])⟩
/-- slots forgotten -/
theorem Slots.drop : ∀ {σ : L2.St} {env : Env} {A : List Addr} (i : Nat), Slots K F H σ env A → ∃ B, Slots K F H σ (env.set i none) B ∧ B.Sublist A
  | _, _, _, _, .nil => ⟨[], by simpa using Slots.nil, List.Sublist.refl _⟩
  | _, _, _, 0, .skip r => ⟨_, .skip r, List.Sublist.refl _⟩
  | _, _, _, 0, .cons h r e => ⟨_, .skip r, by rw [e]; exact List.sublist_append_right _ _⟩
  | _, _, _, i + 1, .skip r => by
    obtain ⟨B, q, s⟩ := Slots.drop i r
    exact ⟨B, .skip q, s⟩
  | _, _, _, i + 1, .cons (A := A) h r e => by
    obtain ⟨B, q, s⟩ := Slots.drop i r
    exact ⟨A ++ B, .cons h q rfl, by rw [e]; exact List.Sublist.append (List.Sublist.refl _) s⟩
end
end Tm

set_option Elab.async false
set_option linter.all false
set_option maxRecDepth 100000
set_option maxHeartbeats 1000000
namespace Tm
open PySem PySem.Spec PyProof.Rows L2

/-! ### the state -/
structure Sta (K : PySem.W.Frag) (F0 H0 F H : Hp) (σ : L2.St) (env : Env) (pv : List V) (pd : List D) : Prop where
  exF : Ex F0 F
  exH : Ex H0 H
  sub : Ex F H
  new : ∀ a, F a ≠ none → F0 a ≠ none ∨ H0 a = none
  own : ∃ A B, Slots K F H σ env A ∧ Reps K F H pv pd B ∧ (A ++ B).Nodup ∧ ∀ a ∈ A ++ B, F a = none ∧ H0 a = none
section
variable {K : PySem.W.Frag} {F0 H0 F F' H H' : Hp} {σ : L2.St} {env : Env} {pv : List V} {pd : List D}
theorem Ex.none {H H' : Hp} (e : Ex H H') {a : Addr} (h : H' a = Option.none) : H a = Option.none := e.free h
theorem Sta.grow (S : Sta K F0 H0 F H σ env pv pd) (e : Ex H H') : Sta K F0 H0 F H' σ env pv pd := by
  obtain ⟨A, B, h1, h2, h3, h4⟩ := S.own
  exact ⟨S.exF, S.exH.trans e, S.sub.trans e, S.new, A, B, h1.ex (Same.refl _) e, h2.ex (Same.refl _) e, h3, h4⟩
/-- a new value -/
theorem Sta.push {v : V} {d : D} {A : List Addr} (S : Sta K F0 H0 F H σ env pv pd) (e : Ex H H') (r : Rep K F H' v d A) (hn : A.Nodup) (hA : ∀ a ∈ A, H a = none) : Sta K F0 H0 F H' σ env (v :: pv) (d :: pd) := by
  obtain ⟨A0, B, h1, h2, h3, h4⟩ := S.own
  refine ⟨S.exF, S.exH.trans e, S.sub.trans e, S.new, A0, A ++ B, h1.ex (Same.refl _) e, .cons r (h2.ex (Same.refl _) e) rfl, ?_, fun a ha => ?_⟩
  · have dis : ∀ a ∈ A, ∀ b ∈ A0 ++ B, a ≠ b := fun a ha b hb z => by
      subst z
      have : ∃ o, H a = some o := by
        rcases List.mem_append.mp hb with hb | hb
        · exact h1.there a hb
        · exact h2.there a hb
      obtain ⟨xs, q⟩ := this
      rw [hA a ha] at q; cases q
    rw [List.nodup_append] at h3 ⊢
    refine ⟨h3.1, ?_, fun a ha b hb => ?_⟩
    · rw [List.nodup_append]
      exact ⟨hn, h3.2.1, fun a ha b hb => dis a ha b (List.mem_append_right _ hb)⟩
    · rcases List.mem_append.mp hb with hb | hb
      · exact (dis b hb a (List.mem_append_left _ ha)).symm
      · exact h3.2.2 a ha b hb
  · rcases List.mem_append.mp ha with ha | ha
    · exact h4 a (List.mem_append_left _ ha)
    · rcases List.mem_append.mp ha with ha | ha
      · exact ⟨S.sub.none (hA a ha), S.exH.none (hA a ha)⟩
      · exact h4 a (List.mem_append_right _ ha)
theorem Sta.clean {v : V} {d : D} (S : Sta K F0 H0 F H σ env pv pd) (r : Rep K F H v d []) : Sta K F0 H0 F H σ env (v :: pv) (d :: pd) :=
  S.push (Same.refl _) r List.nodup_nil fun a ha => absurd ha List.not_mem_nil
/-- the newest value dropped, told -/
theorem Sta.pop {v : V} {d : D} (S : Sta K F0 H0 F H σ env (v :: pv) (d :: pd)) : (∃ A, Rep K F H v d A) ∧ Sta K F0 H0 F H σ env pv pd := by
  obtain ⟨A0, B, h1, h2, h3, h4⟩ := S.own
  cases h2 with
  | cons r rr e =>
    subst e
    rename_i A B
    refine ⟨⟨_, r⟩, S.exF, S.exH, S.sub, S.new, A0, B, h1, rr, ?_, fun a ha => h4 a ?_⟩
    · rw [List.nodup_append] at h3 ⊢
      exact ⟨h3.1, (List.nodup_append.mp h3.2.1).2.1, fun a ha b hb => h3.2.2 a ha b (List.mem_append_right _ hb)⟩
    · rcases List.mem_append.mp ha with ha | ha
      · exact List.mem_append_left _ ha
      · exact List.mem_append_right _ (List.mem_append_right _ ha)
/-- the pending values in another order -/
theorem Sta.swap {vs : List V} {ds : List D} {x : V} {d : D} (hl : vs.length = ds.length) (S : Sta K F0 H0 F H σ env (vs ++ x :: pv) (ds ++ d :: pd)) : Sta K F0 H0 F H σ env (x :: vs ++ pv) (d :: ds ++ pd) := by
  obtain ⟨A0, B, h1, h2, h3, h4⟩ := S.own
  obtain ⟨d1, d2, A, B2, e1, e2, r1, r2⟩ := h2.split
  have hd := List.append_inj e1 (by rw [← r1.length]; exact hl.symm)
  obtain ⟨rfl, rfl⟩ := hd
  cases r2 with
  | cons r rr e =>
    rename_i A1 B1
    subst e e2
    refine ⟨S.exF, S.exH, S.sub, S.new, A0, A1 ++ (A ++ B1), h1, .cons r (r1.app rr) rfl, ?_, fun a ha => h4 a ?_⟩
    · refine (List.Perm.nodup_iff (List.Perm.append_left _ ?_)).mp h3
      rw [← List.append_assoc, ← List.append_assoc]
      exact List.Perm.append_right _ List.perm_append_comm
    · simp only [List.mem_append] at ha ⊢
      rcases ha with ha | ha | ha | ha
      · exact .inl ha
      · exact .inr (.inr (.inl ha))
      · exact .inr (.inl ha)
      · exact .inr (.inr (.inr ha))
theorem Sta.slot {i : Nat} {d : D} (S : Sta K F0 H0 F H σ env pv pd) (h : env[i]? = some (some d)) : ∃ v A, σ[i]? = some (some v) ∧ Rep K F H v d A := by
  obtain ⟨A0, B, h1, h2, h3, h4⟩ := S.own
  obtain ⟨v, A1, Ai, A2, e, _, r, _⟩ := h1.at h
  exact ⟨v, Ai, e, r⟩
end
def Res (K : PySem.W.Frag) (F0 H0 F H : Hp) (σ : L2.St) (env : Env) (pv : List V) (pd : List D) (v : V) (d : D) : Bool → Prop
  | true => (∃ A, Rep K F H v d A) ∧ Sta K F0 H0 F H σ env pv pd
  | false => Sta K F0 H0 F H σ env (v :: pv) (d :: pd)
section
variable {K : PySem.W.Frag} {F0 H0 F F' H H' : Hp} {σ : L2.St} {env : Env} {pv : List V} {pd : List D} {v : V} {d : D} {b : Bool}
theorem Res.forget (r : Res K F0 H0 F H σ env pv pd v d b) : (∃ A, Rep K F H v d A) ∧ Sta K F0 H0 F H σ env pv pd := by
  cases b with
  | true => exact r
  | false => exact Sta.pop r
theorem Res.owned (r : Res K F0 H0 F H σ env pv pd v d b) (h : b = false ∨ dirty d = false) : Sta K F0 H0 F H σ env (v :: pv) (d :: pd) := by
  cases b with
  | false => exact r
  | true =>
    rcases h with h | h
    · cases h
    · obtain ⟨⟨A, q⟩, S⟩ := r
      have e := q.clean h
      subst e
      exact S.clean q
end

/-! ### what is asked of expressions -/
/-- the errors that may leave, by their classes' names, and the slots as they stand -/
abbrev PX := Str → Env → Prop
abbrev EX := L2.St → XK
abbrev EN : EX := fun _ => E0
abbrev WE := PX → Env → (D → Bool → Env → Prop) → Prop
abbrev WT := PX → Env → (Bool → Env → Prop) → Prop
abbrev WA := PX → Env → (List D → Env → Prop) → Prop
def LinkX (K : PySem.W.Frag) (F0 H0 : Hp) (px : PX) (E : EX) (pv : List V) (pd : List D) : Prop := ∀ (n : Str) (C : Value) (σ' : L2.St) (env' : Env) (F' H' : Hp) (pvx : List V) (pdx : List D),
  PySem.W.nsIn K mainGlobals n = some (some C) → px n env' → pvx.length = pdx.length → Sta K F0 H0 F' H' σ' env' (pvx ++ pv) (pdx ++ pd) → E σ' C none H'
def px0 : PX := fun _ _ => False
theorem link0 {K : PySem.W.Frag} {F0 H0 : Hp} {E : EX} {pv : List V} {pd : List D} : LinkX K F0 H0 px0 E pv pd := fun _ _ _ _ _ _ _ _ _ h => h.elim
theorem LinkX.push {K : PySem.W.Frag} {F0 H0 : Hp} {px : PX} {E : EX} {pv qv : List V} {pd qd : List D} (L : LinkX K F0 H0 px E pv pd) (hl : qv.length = qd.length) : LinkX K F0 H0 px E (qv ++ pv) (qd ++ pd) := fun n C σ' env' F' H' pvx pdx hn h hl2 S =>
  L n C σ' env' F' H' (pvx ++ qv) (pdx ++ qd) hn h (by simp [hl, hl2]) (by rw [List.append_assoc, List.append_assoc]; exact S)
def Sim (K : PySem.W.Frag) (E : EX) (w : WE) (t : TE) : Prop := ∀ (px : PX) (F0 H0 F H : Hp) (σ : L2.St) (env : Env) (pv : List V) (pd : List D), LinkX K F0 H0 px E pv pd → Sta K F0 H0 F H σ env pv pd →
  ∀ (Q' : D → Bool → Env → Prop) (Q : VK), w px env Q' → (∀ d b env' v F' H', Q' d b env' → Ex F F' → Ex H H' → Res K F0 H0 F' H' σ env' pv pd v d b → Q v H') → t σ H Q
def SimT (K : PySem.W.Frag) (E : EX) (w : WT) (t : TT) : Prop := ∀ (px : PX) (F0 H0 F H : Hp) (σ : L2.St) (env : Env) (pv : List V) (pd : List D), LinkX K F0 H0 px E pv pd → Sta K F0 H0 F H σ env pv pd →
  ∀ (Q' : Bool → Env → Prop) (Q : Bool → Hp → Prop), w px env Q' → (∀ b env' F' H', Q' b env' → Ex F F' → Ex H H' → Sta K F0 H0 F' H' σ env' pv pd → Q b H') → t σ H Q
/-- arguments, borrowed -/
def SimA (K : PySem.W.Frag) (E : EX) (w : WA) (t : TA) : Prop := ∀ (px : PX) (F0 H0 F H : Hp) (σ : L2.St) (env : Env) (pv : List V) (pd : List D), LinkX K F0 H0 px E pv pd → Sta K F0 H0 F H σ env pv pd →
  ∀ (Q' : List D → Env → Prop) (Q : List V → Hp → Prop), w px env Q' → (∀ ds env' vs F' H' A, Q' ds env' → Ex F F' → Ex H H' → Reps K F' H' vs ds A → Sta K F0 H0 F' H' σ env' pv pd → Q vs H') → t σ H Q
/-- items of a display, owned -/
def SimD (K : PySem.W.Frag) (E : EX) (w : WA) (t : TA) : Prop := ∀ (px : PX) (F0 H0 F H : Hp) (σ : L2.St) (env : Env) (pv : List V) (pd : List D), LinkX K F0 H0 px E pv pd → Sta K F0 H0 F H σ env pv pd →
  ∀ (Q' : List D → Env → Prop) (Q : List V → Hp → Prop), w px env Q' → (∀ ds env' vs F' H', Q' ds env' → Ex F F' → Ex H H' → vs.length = ds.length → Sta K F0 H0 F' H' σ env' (vs ++ pv) (ds ++ pd) → Q vs H') → t σ H Q

structure DE (X : Cx) (E : EX) (e : Expr) (w : WE) : Prop where
  ex : ∃ t, PE X e t ∧ Sim X.K E w t
structure DT (X : Cx) (E : EX) (e : Expr) (w : WT) : Prop where
  ex : ∃ t, PT X e t ∧ SimT X.K E w t
structure DW (X : Cx) (E : EX) (e : Expr) (w : WT) : Prop where
  ex : ∃ t, PW X e t ∧ SimT X.K E w t
structure DA (X : Cx) (E : EX) (es : List Expr) (w : WA) : Prop where
  ex : ∃ t, PA X es t ∧ SimA X.K E w t
structure DD (X : Cx) (E : EX) (es : List Expr) (w : WA) : Prop where
  ex : ∃ t, PA X es t ∧ SimD X.K E w t

/-! ### names, constants -/
def wVar (i : Nat) : WE := fun _ env Q => match env[i]? with
  | some (some d) => Q d (dirty d) env
  | _ => False
/-- .. given away -/
def wMov (i : Nat) : WE := fun _ env Q => match env[i]? with
  | some (some d) => Q d false (env.set i none)
  | _ => False
/-- .. frozen -/
def wFrz (i : Nat) : WE := fun _ env Q => match env[i]? with
  | some (some d) => Q (fz d) false (env.set i (some (fz d)))
  | _ => False
def wC (d : D) : WE := fun _ env Q => Q d false env
theorem sim_var {K : PySem.W.Frag} {E : EX} {i : Nat} : Sim K E (wVar i) (tVar i) := by
  intro px F0 H0 F H σ env pv pd L S Q' Q w k
  unfold wVar at w
  split at w
  · rename_i d e
    obtain ⟨v, A, e2, r⟩ := S.slot e
    refine ⟨v, e2, k d _ env v F H w (Same.refl _) (Same.refl _) ?_⟩
    cases hd : dirty d with
    | true => exact ⟨⟨A, r⟩, S⟩
    | false =>
      have e := r.clean hd
      subst e
      exact S.clean r
  · exact w.elim
theorem sim_mov {K : PySem.W.Frag} {E : EX} {i : Nat} : Sim K E (wMov i) (tVar i) := by
  intro px F0 H0 F H σ env pv pd L S Q' Q w k
  unfold wMov at w
  split at w
  · rename_i d e
    obtain ⟨A0, B, h1, h2, h3, h4⟩ := S.own
    obtain ⟨v, A1, Ai, A2, e2, e3, r, s, _⟩ := h1.at e
    subst e3
    refine ⟨v, e2, k d _ _ v F H w (Same.refl _) (Same.refl _) ?_⟩
    refine ⟨S.exF, S.exH, S.sub, S.new, A1 ++ A2, Ai ++ B, s, .cons r h2 rfl, ?_, fun a ha => h4 a ?_⟩
    · refine (List.Perm.nodup_iff ?_).mp h3
      rw [List.append_assoc, List.append_assoc, List.append_assoc]
      refine List.Perm.append_left _ ?_
      rw [← List.append_assoc, ← List.append_assoc]
      exact List.Perm.append_right _ List.perm_append_comm
    · simp only [List.mem_append] at ha ⊢
      rcases ha with (ha | ha) | ha | ha
      · exact .inl (.inl (.inl ha))
      · exact .inl (.inr ha)
      · exact .inl (.inl (.inr ha))
      · exact .inr ha
  · exact w.elim
theorem sim_frz {K : PySem.W.Frag} {E : EX} {i : Nat} : Sim K E (wFrz i) (tVar i) := by
  intro px F0 H0 F H σ env pv pd L S Q' Q w k
  unfold wFrz at w
  split at w
  · rename_i d e
    obtain ⟨A0, B, h1, h2, h3, h4⟩ := S.own
    obtain ⟨v, A1, Ai, A2, e2, e3, r, s, back⟩ := h1.at e
    subst e3
    let F' : Hp := fun a => if a ∈ Ai then H a else F a
    have hF : Ex F F' := fun a o q => by
      show (if a ∈ Ai then H a else F a) = some o
      split
      · exact S.sub _ _ q
      · exact q
    have hA : ∀ a ∈ Ai, F' a = H a := fun a ha => if_pos ha
    have r' := r.frozen hF hA
    have sl := back (H' := H) hF (fun _ _ z => z) (fun _ _ => rfl) r'
    have ev : (σ.set i (some v)) = σ := by
      obtain ⟨hi, hv⟩ := List.getElem?_eq_some_iff.mp e2
      rw [← hv]; exact List.set_getElem_self hi
    rw [ev] at sl
    refine ⟨v, e2, k (fz d) _ _ v F' H w hF (Same.refl _) ?_⟩
    have S' : Sta K F0 H0 F' H σ (env.set i (some (fz d))) pv pd := by
      refine ⟨S.exF.trans hF, S.exH, fun a o q => ?_, fun a q => ?_, A1 ++ A2, B, by simpa using sl, h2.ex hF (Same.refl _), ?_, fun a ha => ?_⟩
      · by_cases hm : a ∈ Ai
        · rw [hA a hm] at q; exact q
        · have : F' a = F a := if_neg hm
          rw [this] at q; exact S.sub _ _ q
      · by_cases hm : a ∈ Ai
        · exact .inr (h4 a (by simp [hm])).2
        · have : F' a = F a := if_neg hm
          rw [this] at q; exact S.new a q
      · refine List.Nodup.sublist ?_ h3
        refine List.Sublist.append ?_ (List.Sublist.refl _)
        exact List.Sublist.append (List.sublist_append_left _ _) (List.Sublist.refl _)
      · have hm : a ∉ Ai := fun hm => by
          rw [List.nodup_append] at h3
          have h5 := (List.nodup_append.mp h3.1)
          have h6 := (List.nodup_append.mp h5.1)
          simp only [List.mem_append] at ha
          rcases ha with (ha | ha) | ha
          · exact h6.2.2 a ha a hm rfl
          · exact h5.2.2 a (List.mem_append_right _ hm) a ha rfl
          · exact h3.2.2 a (by simp [hm]) a ha rfl
        have : F' a = F a := if_neg hm
        rw [this]
        exact h4 a (by
          simp only [List.mem_append] at ha ⊢
          rcases ha with (ha | ha) | ha
          · exact .inl (.inl (.inl ha))
          · exact .inl (.inr ha)
          · exact .inr ha)
    exact S'.clean r'
  · exact w.elim
theorem sim_c {K : PySem.W.Frag} {E : EX} {v : V} {d : D} (h : ∀ F H, Rep K F H v d []) : Sim K E (wC d) (tC v) := by
  intro px F0 H0 F H σ env pv pd L S Q' Q w k
  exact k d false env v F H w (Same.refl _) (Same.refl _) (S.clean (h F H))
section
variable {X : Cx} {E : EX}
theorem dv (i : Nat) {x : Str} {pos : Pos} (hN : X.N[i]? = some x := by rfl) (hv : Vis X.env.scope x := by first | exact Or.inl rfl | exact Or.inr (Or.inl rfl) | exact Or.inr (Or.inr rfl)) (hd : (x == ("__debug__" : Str)) = false := by decide)
    (hcd : (x == ("__classdict__" : Str)) = false := by decide) : DE X E (.Name x pos) (wVar i) := ⟨_, pe_var hN hv hd hcd, sim_var⟩
theorem dm (i : Nat) {x : Str} {pos : Pos} (hN : X.N[i]? = some x := by rfl) (hv : Vis X.env.scope x := by first | exact Or.inl rfl | exact Or.inr (Or.inl rfl) | exact Or.inr (Or.inr rfl)) (hd : (x == ("__debug__" : Str)) = false := by decide)
    (hcd : (x == ("__classdict__" : Str)) = false := by decide) : DE X E (.Name x pos) (wMov i) := ⟨_, pe_var hN hv hd hcd, sim_mov⟩
theorem df (i : Nat) {x : Str} {pos : Pos} (hN : X.N[i]? = some x := by rfl) (hv : Vis X.env.scope x := by first | exact Or.inl rfl | exact Or.inr (Or.inl rfl) | exact Or.inr (Or.inr rfl)) (hd : (x == ("__debug__" : Str)) = false := by decide)
    (hcd : (x == ("__classdict__" : Str)) = false := by decide) : DE X E (.Name x pos) (wFrz i) := ⟨_, pe_var hN hv hd hcd, sim_frz⟩
theorem d_int {i j pos} : DE X E (.Constant (.int i) j pos) (wC (.int i)) := ⟨_, pe_int, sim_c fun _ _ => .int i⟩
theorem d_bl {b j pos} : DE X E (.Constant (.bool b) j pos) (wC (.bl b)) := ⟨_, pe_bl, sim_c fun _ _ => .bl b⟩
theorem d_non {j pos} : DE X E (.Constant .none j pos) (wC .non) := ⟨_, pe_non, sim_c fun _ _ => .non⟩
theorem d_str {x j pos} : DE X E (.Constant (.str x) j pos) (wC (.str x)) := ⟨_, pe_str, sim_c fun _ _ => .str x⟩
/-- a module's int or text -/
theorem d_gint {x : Str} {i : Int} {t : Tok} {pos : Pos} (hg : Gl X x) (hm : X.mg x = some (.int i t)) (hd : (x == ("__debug__" : Str)) = false := by decide) : DE X E (.Name x pos) (wC (.int i)) := ⟨_, pe_glob (v := .int i) hg hm ⟨_, rfl⟩ hd, sim_c fun _ _ => .int i⟩
theorem d_gstr {x : Str} {y : Str} {t : Tok} {pos : Pos} (hg : Gl X x) (hm : X.mg x = some (.str y t)) (hd : (x == ("__debug__" : Str)) = false := by decide) : DE X E (.Name x pos) (wC (.str y)) := ⟨_, pe_glob (v := .str y) hg hm ⟨_, rfl⟩ hd, sim_c fun _ _ => .str y⟩
end

/-! ### operations -/
/-- an operation's end: a value over what stands, with perhaps something new -/
def Ends1 (K : PySem.W.Frag) (F H : Hp) (Q' : D → Prop) (Q : VK) : Prop := ∀ d v H' C, Q' d → Ex H H' → Rep K F H' v d C → C.Nodup → (∀ a ∈ C, H a = none) → Q v H'
theorem Ends1.same {K : PySem.W.Frag} {F H : Hp} {Q' : D → Prop} {Q : VK} (k : Ends1 K F H Q' Q) {d : D} {v : V} (h : Q' d) (r : Rep K F H v d []) : Q v H := k d v H [] h (Same.refl _) r List.nodup_nil fun _ z => absurd z List.not_mem_nil
theorem Ends1.lst {K : PySem.W.Frag} {F H : Hp} {Q' : D → Prop} {Q : VK} (k : Ends1 K F H Q' Q) {ds : List D} {vs : List V} (h : Q' (.lst true ds)) (r : Reps K F H vs ds []) : ∀ p, H p = none → Q (.ref p) (upd H p (.lst vs)) := fun p hp =>
  k (.lst true ds) (.ref p) (upd H p (.lst vs)) [p] h (Ex.new hp) (.own upd_same (r.ex (Same.refl _) (Ex.new hp))) (by simp) (by simpa using hp)
theorem Ends1.tup {K : PySem.W.Frag} {F H : Hp} {Q' : D → Prop} {Q : VK} (k : Ends1 K F H Q' Q) {ds : List D} {vs : List V} (h : Q' (.tup ds)) (r : Reps K F H vs ds []) : ∀ p, H p = none → Q (.ref p) (upd H p (.tup vs)) := fun p hp =>
  k (.tup ds) (.ref p) (upd H p (.tup vs)) [] h (Ex.new hp) (.tup upd_same (r.ex (Same.refl _) (Ex.new hp))) List.nodup_nil (fun _ z => absurd z List.not_mem_nil)
abbrev G2 := D → D → (D → Prop) → Prop
def OpD (K : PySem.W.Frag) (g : G2) (r : R2) : Prop := ∀ (F H : Hp) (x y : V) (dx dy : D) (A B : List Addr) (Q' : D → Prop) (Q : VK), Ex F H → Rep K F H x dx A → Rep K F H y dy B → g dx dy Q' → Ends1 K F H Q' Q → r x y H Q
abbrev G1 := D → (D → Prop) → Prop
def UnD (K : PySem.W.Frag) (g : G1) (r : V → Hp → VK → Prop) : Prop := ∀ (F H : Hp) (x : V) (dx : D) (A : List Addr) (Q' : D → Prop) (Q : VK), Ex F H → Rep K F H x dx A → g dx Q' → Ends1 K F H Q' Q → r x H Q
def wOp (g : G2) (wa wb : WE) : WE := fun px env Q => wa px env fun a _ env1 => wb px env1 fun b _ env2 => g a b fun d => Q d false env2
def wUn (g : G1) (wa : WE) : WE := fun px env Q => wa px env fun a _ env1 => g a fun d => Q d false env1
theorem sim_op {K : PySem.W.Frag} {E : EX} {g : G2} {r : R2} {wa wb : WE} {ta tb : TE} (h : OpD K g r) (ha : Sim K E wa ta) (hb : Sim K E wb tb) : Sim K E (wOp g wa wb) (tOp r ta tb) := by
  intro px F0 H0 F H σ env pv pd L S Q' Q w k
  refine ha px F0 H0 F H σ env pv pd L S _ _ w fun a ba env1 x F1 H1 w1 eF1 eH1 R1 => ?_
  obtain ⟨⟨A, rx⟩, S1⟩ := R1.forget
  refine hb px F0 H0 F1 H1 σ env1 pv pd L S1 _ _ w1 fun b bb env2 y F2 H2 w2 eF2 eH2 R2 => ?_
  obtain ⟨⟨B, ry⟩, S2⟩ := R2.forget
  refine h F2 H2 x y a b A B _ _ S2.sub (rx.ex eF2 eH2) ry w2 fun d v H' C q e r hn hC => ?_
  exact k d false env2 v F2 H' q (eF1.trans eF2) ((eH1.trans eH2).trans e) (S2.push e r hn hC)
theorem sim_un {K : PySem.W.Frag} {E : EX} {g : G1} {r : V → Hp → VK → Prop} {wa : WE} {ta : TE} (h : UnD K g r) (ha : Sim K E wa ta) : Sim K E (wUn g wa) (tUn r ta) := by
  intro px F0 H0 F H σ env pv pd L S Q' Q w k
  refine ha px F0 H0 F H σ env pv pd L S _ _ w fun a ba env1 x F1 H1 w1 eF1 eH1 R1 => ?_
  obtain ⟨⟨A, rx⟩, S1⟩ := R1.forget
  refine h F1 H1 x a A _ _ S1.sub rx w1 fun d v H' C q e r hn hC => ?_
  exact k d false env1 v F1 H' q eF1 (eH1.trans e) (S1.push e r hn hC)
theorem OpD.or {K : PySem.W.Frag} {g1 g2 : G2} {r1 r2 : R2} (h1 : OpD K g1 r1) (h2 : OpD K g2 r2) : OpD K (fun a b Q => g1 a b Q ∨ g2 a b Q) (fun x y H Q => r1 x y H Q ∨ r2 x y H Q) :=
  fun F H x y dx dy A B Q' Q e rx ry w k => w.elim (fun w => .inl (h1 F H x y dx dy A B Q' Q e rx ry w k)) (fun w => .inr (h2 F H x y dx dy A B Q' Q e rx ry w k))
/-- ints -/
def gI (C : Int → Int → Prop) (f : Int → Int → D) : G2
  | .int i, .int j, Q => C i j ∧ Q (f i j)
  | _, _, _ => False
def scalD : D → Bool
  | .non => true | .bl _ => true | .int _ => true | .str _ => true | _ => false
def toV : D → V
  | .non => .non | .bl b => .bl b | .int i => .int i | .str x => .str x | _ => .non
theorem rep_toV {K : PySem.W.Frag} {F H : Hp} : ∀ {d : D}, scalD d = true → Rep K F H (toV d) d []
  | .non, _ => .non
  | .bl b, _ => .bl b
  | .int i, _ => .int i
  | .str x, _ => .str x
theorem rep_int {K : PySem.W.Frag} {F H : Hp} {v : V} {i : Int} {A : List Addr} (r : Rep K F H v (.int i) A) : v = .int i := by cases r; rfl
theorem rep_str {K : PySem.W.Frag} {F H : Hp} {v : V} {i : Str} {A : List Addr} (r : Rep K F H v (.str i) A) : v = .str i := by cases r; rfl
theorem rep_bl {K : PySem.W.Frag} {F H : Hp} {v : V} {i : Bool} {A : List Addr} (r : Rep K F H v (.bl i) A) : v = .bl i := by cases r; rfl
theorem rep_scal {K : PySem.W.Frag} {F H : Hp} {v : V} {d : D} {A : List Addr} (r : Rep K F H v d A) (h : scalD d = true) : v = toV d := by
  cases r <;> first | rfl | cases h
theorem opd_I {K : PySem.W.Frag} {C : Int → Int → Prop} {f : Int → Int → D} (hf : ∀ i j, scalD (f i j) = true) : OpD K (gI C f) (rI C fun i j => toV (f i j)) := by
  intro F H x y dx dy A B Q' Q e rx ry w k
  unfold gI at w
  split at w
  · rw [rep_int rx, rep_int ry]
    exact ⟨_, _, rfl, rfl, w.1, k.same w.2 (rep_toV (hf _ _))⟩
  · exact w.elim
theorem opd_I0 {K : PySem.W.Frag} {f : Int → Int → D} (hf : ∀ i j, scalD (f i j) = true) : OpD K (gI (fun _ _ => True) f) (rI0 fun i j => toV (f i j)) := by
  intro F H x y dx dy A B Q' Q e rx ry w k
  unfold gI at w
  split at w
  · rw [rep_int rx, rep_int ry]
    exact ⟨_, _, rfl, rfl, k.same w.2 (rep_toV (hf _ _))⟩
  · exact w.elim
end Tm

set_option Elab.async false
set_option linter.all false
set_option maxRecDepth 100000
set_option maxHeartbeats 1000000
namespace Tm
open PySem PySem.Spec PyProof.Rows L2

/-! ### tests -/
def wTest (w : WE) : WT := fun px env Q => w px env fun d _ env1 => match d with
  | .bl b => Q b env1
  | _ => False
theorem sim_test {K : PySem.W.Frag} {E : EX} {w : WE} {t : TE} (h : Sim K E w t) : SimT K E (wTest w) (tTest t) := by
  intro px F0 H0 F H σ env pv pd L S Q' Q w1 k
  refine h px F0 H0 F H σ env pv pd L S _ _ w1 fun d b env1 v F1 H1 w2 eF eH R => ?_
  obtain ⟨⟨A, r⟩, S1⟩ := R.forget
  cases d with
  | bl c => exact ⟨c, rep_bl r, k c env1 F1 H1 w2 eF eH S1⟩
  | _ => exact w2.elim
def wAnd (a b : WT) : WT := fun px env Q => a px env fun c env1 => if c = true then b px env1 Q else Q false env1
def wOr (a b : WT) : WT := fun px env Q => a px env fun c env1 => if c = true then Q true env1 else b px env1 Q
def wNot (a : WT) : WT := fun px env Q => a px env fun c env1 => Q (!c) env1
theorem sim_and {K : PySem.W.Frag} {E : EX} {a b : WT} {t u : TT} (h1 : SimT K E a t) (h2 : SimT K E b u) : SimT K E (wAnd a b) (tAnd t u) := by
  intro px F0 H0 F H σ env pv pd L S Q' Q w k
  refine h1 px F0 H0 F H σ env pv pd L S _ _ w fun c env1 F1 H1 w1 eF eH S1 => ?_
  cases c with
  | true => exact h2 px F0 H0 F1 H1 σ env1 pv pd L S1 _ _ w1 fun c2 env2 F2 H2 w2 eF2 eH2 S2 => k c2 env2 F2 H2 w2 (eF.trans eF2) (eH.trans eH2) S2
  | false => exact k false env1 F1 H1 w1 eF eH S1
theorem sim_or {K : PySem.W.Frag} {E : EX} {a b : WT} {t u : TT} (h1 : SimT K E a t) (h2 : SimT K E b u) : SimT K E (wOr a b) (tOr t u) := by
  intro px F0 H0 F H σ env pv pd L S Q' Q w k
  refine h1 px F0 H0 F H σ env pv pd L S _ _ w fun c env1 F1 H1 w1 eF eH S1 => ?_
  cases c with
  | false => exact h2 px F0 H0 F1 H1 σ env1 pv pd L S1 _ _ w1 fun c2 env2 F2 H2 w2 eF2 eH2 S2 => k c2 env2 F2 H2 w2 (eF.trans eF2) (eH.trans eH2) S2
  | true => exact k true env1 F1 H1 w1 eF eH S1
theorem sim_not {K : PySem.W.Frag} {E : EX} {a : WT} {t : TT} (h1 : SimT K E a t) : SimT K E (wNot a) (tNot t) := by
  intro px F0 H0 F H σ env pv pd L S Q' Q w k
  exact h1 px F0 H0 F H σ env pv pd L S _ _ w fun c env1 F1 H1 w1 eF eH S1 => k (!c) env1 F1 H1 w1 eF eH S1
/-- a if t else b -/
def wIfE (t : WT) (a b : WE) : WE := fun px env Q => t px env fun c env1 => if c = true then a px env1 Q else b px env1 Q
theorem sim_ifE {K : PySem.W.Frag} {E : EX} {c : WT} {a b : WE} {t : TT} {u v : TE} (h : SimT K E c t) (h1 : Sim K E a u) (h2 : Sim K E b v) : Sim K E (wIfE c a b) (tIf t u v) := by
  intro px F0 H0 F H σ env pv pd L S Q' Q w k
  refine h px F0 H0 F H σ env pv pd L S _ _ w fun c env1 F1 H1 w1 eF eH S1 => ?_
  cases c with
  | true => exact h1 px F0 H0 F1 H1 σ env1 pv pd L S1 _ _ w1 fun d b env2 v F2 H2 w2 eF2 eH2 S2 => k d b env2 v F2 H2 w2 (eF.trans eF2) (eH.trans eH2) S2
  | false => exact h2 px F0 H0 F1 H1 σ env1 pv pd L S1 _ _ w1 fun d b env2 v F2 H2 w2 eF2 eH2 S2 => k d b env2 v F2 H2 w2 (eF.trans eF2) (eH.trans eH2) S2
/-- and, or, not as values -/
def asB (Q : Bool → Env → Prop) : D → Bool → Env → Prop := fun d _ env => match d with
  | .bl b => Q b env
  | _ => False
def wAndV (a b : WE) : WE := fun px env Q => a px env (asB fun c env1 => if c = true then b px env1 Q else Q (.bl false) false env1)
def wOrV (a b : WE) : WE := fun px env Q => a px env (asB fun c env1 => if c = true then Q (.bl true) false env1 else b px env1 Q)
def wNotV (a : WE) : WE := fun px env Q => a px env (asB fun c env1 => Q (.bl (!c)) false env1)
theorem asB_is {Q : Bool → Env → Prop} {d : D} {b : Bool} {env : Env} (h : asB Q d b env) : ∃ c, d = .bl c ∧ Q c env := by
  cases d with
  | bl c => exact ⟨c, rfl, h⟩
  | _ => exact h.elim
theorem sim_andV {K : PySem.W.Frag} {E : EX} {a b : WE} {t u : TE} (h1 : Sim K E a t) (h2 : Sim K E b u) : Sim K E (wAndV a b) (tAndV t u) := by
  intro px F0 H0 F H σ env pv pd L S Q' Q w k
  refine h1 px F0 H0 F H σ env pv pd L S _ _ w fun d b env1 v F1 H1 w1 eF eH R => ?_
  obtain ⟨⟨A, r⟩, S1⟩ := R.forget
  obtain ⟨c, rfl, w1⟩ := asB_is w1
  refine ⟨c, rep_bl r, ?_⟩
  cases c with
  | true => exact h2 px F0 H0 F1 H1 σ env1 pv pd L S1 _ _ w1 fun d b env2 v F2 H2 w2 eF2 eH2 S2 => k d b env2 v F2 H2 w2 (eF.trans eF2) (eH.trans eH2) S2
  | false => exact k (.bl false) false env1 (.bl false) F1 H1 w1 eF eH (S1.clean (.bl false))
theorem sim_orV {K : PySem.W.Frag} {E : EX} {a b : WE} {t u : TE} (h1 : Sim K E a t) (h2 : Sim K E b u) : Sim K E (wOrV a b) (tOrV t u) := by
  intro px F0 H0 F H σ env pv pd L S Q' Q w k
  refine h1 px F0 H0 F H σ env pv pd L S _ _ w fun d b env1 v F1 H1 w1 eF eH R => ?_
  obtain ⟨⟨A, r⟩, S1⟩ := R.forget
  obtain ⟨c, rfl, w1⟩ := asB_is w1
  refine ⟨c, rep_bl r, ?_⟩
  cases c with
  | false => exact h2 px F0 H0 F1 H1 σ env1 pv pd L S1 _ _ w1 fun d b env2 v F2 H2 w2 eF2 eH2 S2 => k d b env2 v F2 H2 w2 (eF.trans eF2) (eH.trans eH2) S2
  | true => exact k (.bl true) false env1 (.bl true) F1 H1 w1 eF eH (S1.clean (.bl true))
theorem sim_notV {K : PySem.W.Frag} {E : EX} {a : WE} {t : TE} (h1 : Sim K E a t) : Sim K E (wNotV a) (tNotV t) := by
  intro px F0 H0 F H σ env pv pd L S Q' Q w k
  refine h1 px F0 H0 F H σ env pv pd L S _ _ w fun d b env1 v F1 H1 w1 eF eH R => ?_
  obtain ⟨⟨A, r⟩, S1⟩ := R.forget
  obtain ⟨c, rfl, w1⟩ := asB_is w1
  exact ⟨c, rep_bl r, k (.bl (!c)) false env1 (.bl (!c)) F1 H1 w1 eF eH (S1.clean (.bl (!c)))⟩
/-- a op b op' c -/
def wChain (g g' : G2) (wa wb wc : WE) : WE := fun px env Q => wa px env fun a _ env1 => wb px env1 fun b _ env2 => g a b fun d => match d with
  | .bl true => wc px env2 fun c _ env3 => g' b c fun d => Q d false env3
  | .bl false => Q (.bl false) false env2
  | _ => False
theorem sim_chain {K : PySem.W.Frag} {E : EX} {g g' : G2} {r r' : R2} {wa wb wc : WE} {ta tb tc : TE} (h : OpD K g r) (h' : OpD K g' r') (ha : Sim K E wa ta) (hb : Sim K E wb tb) (hc : Sim K E wc tc) : Sim K E (wChain g g' wa wb wc) (tChain r r' ta tb tc) := by
  intro px F0 H0 F H σ env pv pd L S Q' Q w k
  refine ha px F0 H0 F H σ env pv pd L S _ _ w fun a ba env1 x F1 H1 w1 eF1 eH1 R1 => ?_
  obtain ⟨⟨A, rx⟩, S1⟩ := R1.forget
  refine hb px F0 H0 F1 H1 σ env1 pv pd L S1 _ _ w1 fun b bb env2 y F2 H2 w2 eF2 eH2 R2 => ?_
  obtain ⟨⟨B, ry⟩, S2⟩ := R2.forget
  refine h F2 H2 x y a b A B _ _ S2.sub (rx.ex eF2 eH2) ry w2 fun d v H' C q e r hn hC => ?_
  cases d with
  | bl c =>
    refine ⟨c, rep_bl r, ?_⟩
    have S3 := S2.grow e
    cases c with
    | false => exact k (.bl false) false env2 _ F2 H' q (eF1.trans eF2) ((eH1.trans eH2).trans e) (S3.clean (.bl false))
    | true =>
      refine hc px F0 H0 F2 H' σ env2 pv pd L S3 _ _ q fun c bc env3 z F3 H3 w3 eF3 eH3 R3 => ?_
      obtain ⟨⟨C3, rz⟩, S4⟩ := R3.forget
      refine h' F3 H3 y z b c B C3 _ _ S4.sub ((ry.ex (Same.refl _) e).ex eF3 eH3) rz w3 fun d v H4 C q e4 r hn hC => ?_
      exact k d false env3 v F3 H4 q ((eF1.trans eF2).trans eF3) ((((eH1.trans eH2).trans e).trans eH3).trans e4) (S4.push e4 r hn hC)
  | _ => exact q.elim
section
variable {X : Cx} {E : EX} {a b c : Expr} {wa wb wc : WE} {pos : Pos} {ta tb : WT} {rest : List Expr}
theorem d_op {op : Operator} {g : G2} {r : R2} (ho : OpR X (binaryOp op) r) (hd : OpD X.K g r) (ha : DE X E a wa) (hb : DE X E b wb) : DE X E (.BinOp a op b pos) (wOp g wa wb) := by
  obtain ⟨ta, pa, sa⟩ := ha.ex
  obtain ⟨tb, pb, sb⟩ := hb.ex
  exact ⟨_, pe_op ho pa pb, sim_op hd sa sb⟩
theorem d_un {op : UnaryOp} {g : G1} {r : V → Hp → VK → Prop} (ho : UnR X (unaryOp op) r) (hd : UnD X.K g r) (ha : DE X E a wa) : DE X E (.UnaryOp op a pos) (wUn g wa) := by
  obtain ⟨ta, pa, sa⟩ := ha.ex
  exact ⟨_, pe_un ho pa, sim_un hd sa⟩
theorem d_cmp {op : CmpOp} {g : G2} {r : R2} (ho : OpR X (compareOp op) r) (hd : OpD X.K g r) (ha : DE X E a wa) (hb : DE X E b wb) (hm : behindInMarks op b = false) : DE X E (.Compare a [op] [b] pos) (wOp g wa wb) := by
  obtain ⟨ta, pa, sa⟩ := ha.ex
  obtain ⟨tb, pb, sb⟩ := hb.ex
  exact ⟨_, pe_cmpR ho pa pb hm, sim_op hd sa sb⟩
theorem t_cmp {op : CmpOp} {g : G2} {r : R2} (ho : OpR X (compareOp op) r) (hd : OpD X.K g r) (ha : DE X E a wa) (hb : DE X E b wb) (hm : behindInMarks op b = false) : DT X E (.Compare a [op] [b] pos) (wTest (wOp g wa wb)) := by
  obtain ⟨ta, pa, sa⟩ := ha.ex
  obtain ⟨tb, pb, sb⟩ := hb.ex
  exact ⟨_, pt_cmpR ho pa pb hm, sim_test (sim_op hd sa sb)⟩
theorem d_chain {op op' : CmpOp} {g g' : G2} {r r' : R2} (ho : OpR X (compareOp op) r) (ho' : OpR X (compareOp op') r') (hd : OpD X.K g r) (hd' : OpD X.K g' r') (ha : DE X E a wa) (hb : DE X E b wb) (hc : DE X E c wc)
    (hm : lastMarks [op, op'] [b, c] = false := by with_unfolding_all rfl) : DE X E (.Compare a [op, op'] [b, c] pos) (wChain g g' wa wb wc) := by
  obtain ⟨ta, pa, sa⟩ := ha.ex
  obtain ⟨tb, pb, sb⟩ := hb.ex
  obtain ⟨tc, pc, sc⟩ := hc.ex
  exact ⟨_, pe_chain ho ho' pa pb pc hm, sim_chain hd hd' sa sb sc⟩
theorem t_chain {op op' : CmpOp} {g g' : G2} {r r' : R2} (ho : OpR X (compareOp op) r) (ho' : OpR X (compareOp op') r') (hd : OpD X.K g r) (hd' : OpD X.K g' r') (ha : DE X E a wa) (hb : DE X E b wb) (hc : DE X E c wc)
    (hm : lastMarks [op, op'] [b, c] = false := by with_unfolding_all rfl) : DT X E (.Compare a [op, op'] [b, c] pos) (wTest (wChain g g' wa wb wc)) := by
  obtain ⟨ta, pa, sa⟩ := ha.ex
  obtain ⟨tb, pb, sb⟩ := hb.ex
  obtain ⟨tc, pc, sc⟩ := hc.ex
  exact ⟨_, pt_chain ho ho' pa pb pc hm, sim_test (sim_chain hd hd' sa sb sc)⟩
/-- a value that is a bool, as a test -/
theorem t_val {e : Expr} {w : WE} (h : DE X E e w) (he : ∀ whole, isTrue e X.env whole = (do let v ← whole; standAt e.pos; holding [v] (truthy v)) := by intro _; rfl) : DT X E e (wTest w) := by
  obtain ⟨t, p, s⟩ := h.ex
  exact ⟨_, pt_val p he, sim_test s⟩
theorem w_and1 (h : DT X E a ta) : DW X E (.BoolOp .And [a] pos) ta := by
  obtain ⟨t, p, s⟩ := h.ex
  exact ⟨_, pw_and1 p, s⟩
theorem w_or1 (h : DT X E a ta) : DW X E (.BoolOp .Or [a] pos) ta := by
  obtain ⟨t, p, s⟩ := h.ex
  exact ⟨_, pw_or1 p, s⟩
theorem w_and (h : DT X E a ta) (h2 : DW X E (.BoolOp .And (b :: rest) pos) tb) : DW X E (.BoolOp .And (a :: b :: rest) pos) (wAnd ta tb) := by
  obtain ⟨t, p, s⟩ := h.ex
  obtain ⟨t2, p2, s2⟩ := h2.ex
  exact ⟨_, pw_and p p2, sim_and s s2⟩
theorem w_or (h : DT X E a ta) (h2 : DW X E (.BoolOp .Or (b :: rest) pos) tb) : DW X E (.BoolOp .Or (a :: b :: rest) pos) (wOr ta tb) := by
  obtain ⟨t, p, s⟩ := h.ex
  obtain ⟨t2, p2, s2⟩ := h2.ex
  exact ⟨_, pw_or p p2, sim_or s s2⟩
theorem DW.t (h : DW X E a ta) : DT X E a ta := by
  obtain ⟨t, p, s⟩ := h.ex
  exact ⟨_, p.pt, s⟩
theorem t_not (h : DT X E a ta) : DT X E (.UnaryOp .Not a pos) (wNot ta) := by
  obtain ⟨t, p, s⟩ := h.ex
  exact ⟨_, pt_not p, sim_not s⟩
theorem d_ifE (h : DT X E c tb) (h1 : DE X E a wa) (h2 : DE X E b wb) : DE X E (.IfExp c a b pos) (wIfE tb wa wb) := by
  obtain ⟨t, p, s⟩ := h.ex
  obtain ⟨t1, p1, s1⟩ := h1.ex
  obtain ⟨t2, p2, s2⟩ := h2.ex
  exact ⟨_, pe_ifExp p p1 p2, sim_ifE s s1 s2⟩
theorem d_one {op} (h : DE X E a wa) : DE X E (.BoolOp op [a] pos) wa := by
  obtain ⟨t, p, s⟩ := h.ex
  exact ⟨_, pe_one p, s⟩
theorem d_and (h : DE X E a wa) (h2 : DE X E (.BoolOp .And (b :: rest) pos) wb) : DE X E (.BoolOp .And (a :: b :: rest) pos) (wAndV wa wb) := by
  obtain ⟨t, p, s⟩ := h.ex
  obtain ⟨t2, p2, s2⟩ := h2.ex
  exact ⟨_, pe_and p p2, sim_andV s s2⟩
theorem d_or (h : DE X E a wa) (h2 : DE X E (.BoolOp .Or (b :: rest) pos) wb) : DE X E (.BoolOp .Or (a :: b :: rest) pos) (wOrV wa wb) := by
  obtain ⟨t, p, s⟩ := h.ex
  obtain ⟨t2, p2, s2⟩ := h2.ex
  exact ⟨_, pe_or p p2, sim_orV s s2⟩
theorem d_not (h : DE X E a wa) : DE X E (.UnaryOp .Not a pos) (wNotV wa) := by
  obtain ⟨t, p, s⟩ := h.ex
  exact ⟨_, pe_not p, sim_notV s⟩
end

/-! ### arguments, displays -/
def wNil : WA := fun _ env Q => Q [] env
def wArg (w : WE) (r : WA) : WA := fun px env Q => w px env fun d _ env1 => r px env1 fun ds env2 => Q (d :: ds) env2
def wItm (w : WE) (r : WA) : WA := fun px env Q => w px env fun d b env1 => (b = false ∨ dirty d = false) ∧ r px env1 fun ds env2 => Q (d :: ds) env2
theorem sim_anil {K : PySem.W.Frag} {E : EX} : SimA K E wNil tNil := by
  intro px F0 H0 F H σ env pv pd L S Q' Q w k
  exact k [] env [] F H [] w (Same.refl _) (Same.refl _) .nil S
theorem sim_arg {K : PySem.W.Frag} {E : EX} {w : WE} {r : WA} {t : TE} {u : TA} (h : Sim K E w t) (hr : SimA K E r u) : SimA K E (wArg w r) (tCons t u) := by
  intro px F0 H0 F H σ env pv pd L S Q' Q w k
  refine h px F0 H0 F H σ env pv pd L S _ _ w fun d b env1 v F1 H1 w1 eF eH R => ?_
  obtain ⟨⟨A, r⟩, S1⟩ := R.forget
  refine hr px F0 H0 F1 H1 σ env1 pv pd L S1 _ _ w1 fun ds env2 vs F2 H2 B w2 eF2 eH2 rs S2 => ?_
  exact k (d :: ds) env2 (v :: vs) F2 H2 _ w2 (eF.trans eF2) (eH.trans eH2) (.cons (r.ex eF2 eH2) rs rfl) S2
theorem sim_dnil {K : PySem.W.Frag} {E : EX} : SimD K E wNil tNil := by
  intro px F0 H0 F H σ env pv pd L S Q' Q w k
  exact k [] env [] F H w (Same.refl _) (Same.refl _) rfl S
theorem sim_itm {K : PySem.W.Frag} {E : EX} {w : WE} {r : WA} {t : TE} {u : TA} (h : Sim K E w t) (hr : SimD K E r u) : SimD K E (wItm w r) (tCons t u) := by
  intro px F0 H0 F H σ env pv pd L S Q' Q w k
  refine h px F0 H0 F H σ env pv pd L S _ _ w fun d b env1 v F1 H1 w1 eF eH R => ?_
  have S1 := R.owned w1.1
  refine hr px F0 H0 F1 H1 σ env1 (v :: pv) (d :: pd) (L.push (qv := [v]) (qd := [d]) rfl) S1 _ _ w1.2 fun ds env2 vs F2 H2 w2 eF2 eH2 hl S2 => ?_
  exact k (d :: ds) env2 (v :: vs) F2 H2 w2 (eF.trans eF2) (eH.trans eH2) (by simp [hl]) (Sta.swap hl S2)
/-- the pending items gathered -/
theorem Sta.gather {K : PySem.W.Frag} {F0 H0 F H : Hp} {σ : L2.St} {env : Env} {pv vs : List V} {pd ds : List D} (hl : vs.length = ds.length) (S : Sta K F0 H0 F H σ env (vs ++ pv) (ds ++ pd)) :
    ∃ A, Reps K F H vs ds A ∧ A.Nodup ∧ ∀ (o : HO) (p : Addr) (d : D) (B : List Addr), H p = none → Ex H (upd H p o) → Rep K F (upd H p o) (.ref p) d B → (B = A ∨ B = p :: A) → Sta K F0 H0 F (upd H p o) σ env (.ref p :: pv) (d :: pd) := by
  obtain ⟨A0, B0, h1, h2, h3, h4⟩ := S.own
  obtain ⟨d1, d2, A, B2, e1, e2, r1, r2⟩ := h2.split
  obtain ⟨rfl, rfl⟩ := List.append_inj e1 (by rw [← r1.length]; exact hl.symm)
  subst e2
  have h5 := List.nodup_append.mp h3
  have h6 := List.nodup_append.mp h5.2.1
  refine ⟨A, r1, h6.1, fun o p d B hp e r hB => ?_⟩
  have hpn : ∀ a ∈ A0 ++ (A ++ B2), a ≠ p := fun a ha z => by
    subst z
    have : ∃ o, H a = some o := by
      rcases List.mem_append.mp ha with ha | ha
      · exact h1.there a ha
      · exact h2.there a ha
    obtain ⟨xs, q⟩ := this
    rw [hp] at q; cases q
  refine ⟨S.exF, S.exH.trans e, S.sub.trans e, S.new, A0, B ++ B2, h1.ex (Same.refl _) e, .cons r (r2.ex (Same.refl _) e) rfl, ?_, fun a ha => ?_⟩
  · rcases hB with rfl | rfl
    · exact h3
    · refine (List.Perm.nodup_iff (l₁ := p :: (A0 ++ (A ++ B2))) ?_).mp (List.nodup_cons.mpr ⟨fun z => hpn p z rfl, h3⟩)
      exact (List.perm_middle (l₁ := A0) (l₂ := A ++ B2) (a := p)).symm
  · rcases hB with rfl | rfl
    · exact h4 a ha
    · simp only [List.mem_append, List.mem_cons] at ha
      rcases ha with ha | (rfl | ha) | ha
      · exact h4 a (by simp [ha])
      · exact ⟨S.sub.none hp, S.exH.none hp⟩
      · exact h4 a (by simp [ha])
      · exact h4 a (by simp [ha])
theorem le_line {n : Nat} (h : n ≤ 100000) : n ≤ sizeLine := Nat.le_trans h (by decide)
theorem lt_line {n : Nat} (h : n ≤ 100000) : n < sizeLine := Nat.lt_of_le_of_lt h (by decide)
def wTup (w : WA) : WE := fun px env Q => w px env fun ds env1 => ds.length ≤ 100000 ∧ Q (.tup ds) false env1
def wLst (w : WA) : WE := fun px env Q => w px env fun ds env1 => ds.length ≤ 100000 ∧ Q (.lst true ds) false env1
theorem sim_tup {K : PySem.W.Frag} {E : EX} {w : WA} {t : TA} (h : SimD K E w t) : Sim K E (wTup w) (tTup t) := by
  intro px F0 H0 F H σ env pv pd L S Q' Q w k
  refine h px F0 H0 F H σ env pv pd L S _ _ w fun ds env1 vs F1 H1 w1 eF eH hl S1 => ?_
  refine ⟨by rw [hl]; exact le_line w1.1, fun p hp => ?_⟩
  obtain ⟨A, r, hn, put⟩ := S1.gather hl
  exact k (.tup ds) false env1 (.ref p) F1 _ w1.2 eF (eH.trans (Ex.new hp)) (put (.tup vs) p (.tup ds) A hp (Ex.new hp) (.tup upd_same (r.ex (Same.refl _) (Ex.new hp))) (.inl rfl))
theorem sim_lst {K : PySem.W.Frag} {E : EX} {w : WA} {t : TA} (h : SimD K E w t) : Sim K E (wLst w) (tLst t) := by
  intro px F0 H0 F H σ env pv pd L S Q' Q w k
  refine h px F0 H0 F H σ env pv pd L S _ _ w fun ds env1 vs F1 H1 w1 eF eH hl S1 => ?_
  refine ⟨by rw [hl]; exact le_line w1.1, fun p hp => ?_⟩
  obtain ⟨A, r, hn, put⟩ := S1.gather hl
  exact k (.lst true ds) false env1 (.ref p) F1 _ w1.2 eF (eH.trans (Ex.new hp)) (put (.lst vs) p (.lst true ds) (p :: A) hp (Ex.new hp) (.own upd_same (r.ex (Same.refl _) (Ex.new hp))) (.inr rfl))
section
variable {X : Cx} {E : EX} {e : Expr} {es : List Expr} {w : WE} {r : WA} {pos : Pos}
theorem a_nil : DA X E [] wNil := ⟨_, pa_nil, sim_anil⟩
theorem a_cons (h : DE X E e w) (hr : DA X E es r) (hs : starEach (e :: es) X.env = (false, eval e X.env) :: starEach es X.env := by rfl) : DA X E (e :: es) (wArg w r) := by
  obtain ⟨t, p, s⟩ := h.ex
  obtain ⟨t2, p2, s2⟩ := hr.ex
  exact ⟨_, pa_cons p p2 hs, sim_arg s s2⟩
theorem i_nil : DD X E [] wNil := ⟨_, pa_nil, sim_dnil⟩
theorem i_cons (h : DE X E e w) (hr : DD X E es r) (hs : starEach (e :: es) X.env = (false, eval e X.env) :: starEach es X.env := by rfl) : DD X E (e :: es) (wItm w r) := by
  obtain ⟨t, p, s⟩ := h.ex
  obtain ⟨t2, p2, s2⟩ := hr.ex
  exact ⟨_, pa_cons p p2 hs, sim_itm s s2⟩
theorem d_tup {x1} (h : DD X E es r) : DE X E (.Tuple es x1 pos) (wTup r) := by
  obtain ⟨t, p, s⟩ := h.ex
  exact ⟨_, pe_tup p, sim_tup s⟩
theorem d_lst (h : DD X E es r) : DE X E (.List es pos) (wLst r) := by
  obtain ⟨t, p, s⟩ := h.ex
  exact ⟨_, pe_lst p, sim_lst s⟩
end

/-! ### calls -/
abbrev SpecT := List D → PX → (D → Prop) → Prop
/-- what a def lets out -/
def LinkP (K : PySem.W.Frag) (H : Hp) (px : PX) (E : XK) : Prop := ∀ (n : Str) (C : Value) (env : Env) (H' : Hp), PySem.W.nsIn K mainGlobals n = some (some C) → px n env → Ex H H' → E C none H'
theorem linkP0 {K : PySem.W.Frag} {H : Hp} {E : XK} : LinkP K H px0 E := fun _ _ _ _ _ h => h.elim
/-- a def's promise over data -/
def spD (K : PySem.W.Frag) (spec : SpecT) : Sp := fun vs H Q E => ∃ (F : Hp) (ds : List D) (px : PX) (Qd : D → Prop), Ex F H ∧ Reps K F H vs ds [] ∧ spec ds px Qd ∧ LinkP K H px E ∧
  ∀ d v F' H' A, Qd d → Ex F F' → Ex H H' → Ex F' H' → (∀ a, F' a ≠ none → F a ≠ none ∨ H a = none) → Rep K F' H' v d A → A.Nodup → (∀ a ∈ A, F' a = none ∧ H a = none) → Q v H'
def wCall (spec : SpecT) (dds : List D) (w : WA) : WE := fun px env Q => w px env fun ds env1 => spec (fzs (ds ++ dds)) (fun n _ => px n env1) fun d => (dirtys ds = false ∨ selfc d = true) ∧ Q d false env1
def wCall0 (spec : SpecT) (dds : List D) (w : WA) : WE := fun px env Q => w px env fun ds env1 => spec (fzs (ds ++ dds)) px0 fun d => (dirtys ds = false ∨ selfc d = true) ∧ Q d false env1
theorem call_sim {K : PySem.W.Frag} {E : EX} {E' : XK} {spec : SpecT} {dvs : List V} {dds : List D} {w : WA} {t : TA} {px : PX} {px' : Env → PX} {F0 H0 F H : Hp} {σ : L2.St} {env : Env} {pv : List V} {pd : List D} {Q' : D → Bool → Env → Prop} {Q : VK}
    (hdd : ∀ F H, Reps K F H dvs dds []) (h : SimA K E w t) (L : LinkX K F0 H0 px E pv pd) (hL : ∀ F1 H1 env1, Sta K F0 H0 F1 H1 σ env1 pv pd → LinkP K H1 (px' env1) E') (S : Sta K F0 H0 F H σ env pv pd)
    (w1 : w px env fun ds env1 => spec (fzs (ds ++ dds)) (px' env1) fun d => (dirtys ds = false ∨ selfc d = true) ∧ Q' d false env1)
    (k : ∀ d b env' v F' H', Q' d b env' → Ex F F' → Ex H H' → Res K F0 H0 F' H' σ env' pv pd v d b → Q v H') : tCall (spD K spec) dvs E' t σ H Q := by
  refine h px F0 H0 F H σ env pv pd L S _ _ w1 fun ds env1 vs F1 H1 A w2 eF eH r S1 => ?_
  have rall := r.app (hdd F1 H1)
  rw [List.append_nil] at rall
  let Fc : Hp := fun a => if a ∈ A then H1 a else F1 a
  have hF : Ex F1 Fc := fun a o q => by
    show (if a ∈ A then H1 a else F1 a) = some o
    split
    · exact S1.sub _ _ q
    · exact q
  have hA : ∀ a ∈ A, Fc a = H1 a := fun a ha => if_pos ha
  have hsub : Ex Fc H1 := fun a o q => by
    by_cases hm : a ∈ A
    · rw [hA a hm] at q; exact q
    · have : Fc a = F1 a := if_neg hm
      rw [this] at q; exact S1.sub _ _ q
  refine ⟨Fc, _, px' env1, _, hsub, rall.frozen hF hA, w2, hL F1 H1 env1 S1, fun d v F' H' C q eF' eH' sub' new' rv hn hC => ?_⟩
  obtain ⟨ha, q⟩ := q
  rcases ha with ha | ha
  · -- the arguments are clean
    have eA : A = [] := r.clean ha
    have eFc : Fc = F1 := by
      funext a
      show (if a ∈ A then H1 a else F1 a) = F1 a
      rw [eA, if_neg (by simp)]
    rw [eFc] at eF' new'
    refine k d false env1 v F' H' q (eF.trans eF') (eH.trans eH') ?_
    obtain ⟨A0, B0, h1, h2, h3, h4⟩ := S1.own
    have away : ∀ a ∈ A0 ++ B0, F' a = none := fun a ha => by
      have : ∃ o, H1 a = some o := by
        rcases List.mem_append.mp ha with ha | ha
        · exact h1.there a ha
        · exact h2.there a ha
      obtain ⟨xs, e⟩ := this
      cases z : F' a with
      | none => rfl
      | some o =>
        rcases new' a (by rw [z]; simp) with y | y
        · exact absurd (h4 a ha).1 y
        · rw [y] at e; cases e
    have S2 : Sta K F0 H0 F' H' σ env1 pv pd := by
      refine ⟨S1.exF.trans eF', S1.exH.trans eH', sub', fun a z => ?_, A0, B0, h1.ex eF' eH', h2.ex eF' eH', h3, fun a ha => ⟨away a ha, (h4 a ha).2⟩⟩
      rcases new' a z with y | y
      · exact S1.new a y
      · exact .inr (S1.exH.none y)
    -- the value, new
    obtain ⟨A0', B0', g1, g2, g3, g4⟩ := S2.own
    refine ⟨S2.exF, S2.exH, S2.sub, S2.new, A0, C ++ B0, h1.ex eF' eH', .cons rv (h2.ex eF' eH') rfl, ?_, fun a ha => ?_⟩
    · have dis : ∀ a ∈ C, ∀ b ∈ A0 ++ B0, a ≠ b := fun a ha b hb z => by
        subst z
        have : ∃ o, H1 a = some o := by
          rcases List.mem_append.mp hb with hb | hb
          · exact h1.there a hb
          · exact h2.there a hb
        obtain ⟨xs, q⟩ := this
        rw [(hC a ha).2] at q; cases q
      rw [List.nodup_append] at h3 ⊢
      refine ⟨h3.1, ?_, fun a ha b hb => ?_⟩
      · rw [List.nodup_append]
        exact ⟨hn, h3.2.1, fun a ha b hb => dis a ha b (List.mem_append_right _ hb)⟩
      · rcases List.mem_append.mp hb with hb | hb
        · exact (dis b hb a (List.mem_append_left _ ha)).symm
        · exact h3.2.2 a ha b hb
    · rcases List.mem_append.mp ha with ha | ha
      · exact ⟨away a (List.mem_append_left _ ha), (h4 a (List.mem_append_left _ ha)).2⟩
      · rcases List.mem_append.mp ha with ha | ha
        · exact ⟨(hC a ha).1, S1.exH.none (hC a ha).2⟩
        · exact ⟨away a (List.mem_append_right _ ha), (h4 a (List.mem_append_right _ ha)).2⟩
  · -- the value leans on nothing frozen
    exact k d false env1 v F1 H' q eF (eH.trans eH') (S1.push eH' (rv.alone ha) hn fun a ha => (hC a ha).2)
section
variable {X : Cx} {E : EX} {CX : CXT} {k : Nat} {f : Addr} {fd : FuncData} {ps : List Str} {spec : SpecT} {dvs : List V} {dds : List D} {ds : List Value} {x : Str} {p pos : Pos} {e : Expr} {es : List Expr} {w : WA}
/-- a call of a def from which no exception leaves -/
theorem d_call (G : FnOk X.prog X.w X.K X.mg X.base CX0 k f fd ps (spD X.K spec)) (hr : Room k X.A) (hg : Gl X x) (hm : X.mg x = some (.ref f)) (hk : PySem.W.keepIn X.K (.ref f) = true) (hb : Binds X.K fd ps ds) (hd : Vals dvs ds) (hdd : ∀ F H, Reps X.K F H dvs dds [])
    (ha : DA X E (e :: es) w) (hdb : (x == ("__debug__" : Str)) = false := by decide) (he : starEach (e :: es) X.env = (false, eval e X.env) :: starEach es X.env := by rfl) (hpl : (backTo pos (starEach es X.env)).any (·.1) = false := by rfl) :
    DE X E (.Call (.Name x p) (e :: es) [] pos) (wCall0 spec dds w) := by
  obtain ⟨t, pa, sa⟩ := ha.ex
  refine ⟨_, pe_call G hr hg hm hk hb hd pass0 pa hdb he hpl, ?_⟩
  intro px F0 H0 F H σ env pv pd L S Q' Q w1 k
  exact call_sim (px' := fun _ => px0) hdd sa L (fun _ _ _ _ => linkP0) S w1 k
theorem d_call0 (G : FnOk X.prog X.w X.K X.mg X.base CX0 k f fd ps (spD X.K spec)) (hr : Room k X.A) (hg : Gl X x) (hm : X.mg x = some (.ref f)) (hk : PySem.W.keepIn X.K (.ref f) = true) (hb : Binds X.K fd ps ds) (hd : Vals dvs ds) (hdd : ∀ F H, Reps X.K F H dvs dds [])
    (hdb : (x == ("__debug__" : Str)) = false := by decide) : DE X E (.Call (.Name x p) [] [] pos) (wCall0 spec dds wNil) := by
  refine ⟨_, pe_call0 G hr hg hm hk hb hd pass0 hdb, ?_⟩
  intro px F0 H0 F H σ env pv pd L S Q' Q w1 k
  exact call_sim (E := E) (px' := fun _ => px0) hdd sim_anil L (fun _ _ _ _ => linkP0) S w1 k
/-- .. that may raise elsewhere, but not here -/
theorem d_callF (G : FnOk X.prog X.w X.K X.mg X.base CX k f fd ps (spD X.K spec)) (hr : Room k X.A) (hg : Gl X x) (hm : X.mg x = some (.ref f)) (hk : PySem.W.keepIn X.K (.ref f) = true) (hb : Binds X.K fd ps ds) (hd : Vals dvs ds) (hdd : ∀ F H, Reps X.K F H dvs dds [])
    (hx : ∀ σ, PassesAt CX X σ fun _ _ _ => False)
    (ha : DA X E (e :: es) w) (hdb : (x == ("__debug__" : Str)) = false := by decide) (he : starEach (e :: es) X.env = (false, eval e X.env) :: starEach es X.env := by rfl) (hpl : (backTo pos (starEach es X.env)).any (·.1) = false := by rfl) :
    DE X E (.Call (.Name x p) (e :: es) [] pos) (wCall0 spec dds w) := by
  obtain ⟨t, pa, sa⟩ := ha.ex
  refine ⟨_, pe_callSD (E := fun _ _ _ _ => False) G hr hg hm hk hb hd hx pa hdb he hpl, ?_⟩
  intro px F0 H0 F H σ env pv pd L S Q' Q w1 k
  exact call_sim (px' := fun _ => px0) hdd sa L (fun _ _ _ _ => linkP0) S w1 k
/-- a call of a def that may raise -/
theorem d_callX (G : FnOk X.prog X.w X.K X.mg X.base CX k f fd ps (spD X.K spec)) (hr : Room k X.A) (hg : Gl X x) (hm : X.mg x = some (.ref f)) (hk : PySem.W.keepIn X.K (.ref f) = true) (hb : Binds X.K fd ps ds) (hd : Vals dvs ds) (hdd : ∀ F H, Reps X.K F H dvs dds []) (hx : ∀ σ, PassesAt CX X σ (E σ))
    (ha : DA X E (e :: es) w) (hdb : (x == ("__debug__" : Str)) = false := by decide) (he : starEach (e :: es) X.env = (false, eval e X.env) :: starEach es X.env := by rfl) (hpl : (backTo pos (starEach es X.env)).any (·.1) = false := by rfl) :
    DE X E (.Call (.Name x p) (e :: es) [] pos) (wCall spec dds w) := by
  obtain ⟨t, pa, sa⟩ := ha.ex
  refine ⟨_, pe_callSD G hr hg hm hk hb hd hx pa hdb he hpl, ?_⟩
  intro px F0 H0 F H σ env pv pd L S Q' Q w1 k
  refine call_sim (E' := E σ) (px' := fun env1 n _ => px n env1) hdd sa L (fun F1 H1 env1 S1 n C _ H' hn hp e' => ?_) S w1 k
  exact L n C σ env1 F1 H' [] [] hn hp rfl (S1.grow e')
end
end Tm

set_option Elab.async false
set_option linter.all false
set_option maxRecDepth 100000
set_option maxHeartbeats 1000000
namespace Tm
open PySem PySem.Spec PyProof.Rows L2

/-! ### statements -/
structure PEnds where
  nx : Env → Prop
  rt : D → Prop
  bk : Env → Prop := fun _ => False
  ct : Env → Prop := fun _ => False
abbrev WS := PEnds → PX → Env → Prop
/-- behind it b -/
def PEnds.then (P : PEnds) (b : WS) (px : PX) : PEnds := { P with nx := fun env => b P px env }
/-- a loop's turn, to come to J -/
def PEnds.turn (P : PEnds) (J : Env → Prop) : PEnds := { P with nx := J, ct := J, bk := P.nx }
/-- a statement that is to come to J -/
def PEnds.mid (P : PEnds) (J : Env → Prop) : PEnds := { P with nx := J }
/-- a def's body -/
def PEnds.top (Q : D → Prop) : PEnds := { nx := fun _ => Q .non, rt := Q }
section
variable {P : PEnds} {b : WS} {px : PX} {J : Env → Prop} {Q : D → Prop} {env : Env} {d : D}
theorem then_nx : (P.then b px).nx env = b P px env := rfl
theorem then_rt : (P.then b px).rt = P.rt := rfl
theorem then_bk : (P.then b px).bk = P.bk := rfl
theorem then_ct : (P.then b px).ct = P.ct := rfl
theorem turn_nx : (P.turn J).nx = J := rfl
theorem turn_rt : (P.turn J).rt = P.rt := rfl
theorem turn_bk : (P.turn J).bk = P.nx := rfl
theorem turn_ct : (P.turn J).ct = J := rfl
theorem mid_nx : (P.mid J).nx = J := rfl
theorem mid_rt : (P.mid J).rt = P.rt := rfl
theorem mid_bk : (P.mid J).bk = P.bk := rfl
theorem mid_ct : (P.mid J).ct = P.ct := rfl
theorem top_nx : (PEnds.top Q).nx env = Q .non := rfl
theorem top_rt : (PEnds.top Q).rt d = Q d := rfl
end
abbrev WG := D → Env → (Env → Prop) → Prop
abbrev WGs := List D → Env → (Env → Prop) → Prop
structure LinkD (K : PySem.W.Frag) (F0 H0 : Hp) (pv : List V) (pd : List D) (P : PEnds) (D : Ends) : Prop where
  nx : ∀ σ' env' F' H', P.nx env' → Sta K F0 H0 F' H' σ' env' pv pd → D.nx σ' H'
  rt : ∀ d v F' H' σ' env' pv' pd', P.rt d → Sta K F0 H0 F' H' σ' env' (v :: pv') (d :: pd') → D.rt v H'
  bk : ∀ σ' env' F' H', P.bk env' → Sta K F0 H0 F' H' σ' env' pv pd → D.bk σ' H'
  ct : ∀ σ' env' F' H', P.ct env' → Sta K F0 H0 F' H' σ' env' pv pd → D.ct σ' H'
def SimS (K : PySem.W.Frag) (E : EX) (w : WS) (t : TS) : Prop := ∀ (px : PX) (F0 H0 F H : Hp) (σ : L2.St) (env : Env) (pv : List V) (pd : List D), LinkX K F0 H0 px E pv pd → Sta K F0 H0 F H σ env pv pd →
  ∀ (P : PEnds) (D : Ends), w P px env → LinkD K F0 H0 pv pd P D → t D σ H
def SimG (K : PySem.W.Frag) (w : WG) (g : TG) : Prop := ∀ (F0 H0 F H : Hp) (σ : L2.St) (env : Env) (pv : List V) (pd : List D) (x : V) (d : D), Sta K F0 H0 F H σ env (x :: pv) (d :: pd) →
  ∀ (Q' : Env → Prop) (Q : L2.St → Hp → Prop), w d env Q' → (∀ env' σ', Q' env' → Sta K F0 H0 F H σ' env' pv pd → Q σ' H) → g x σ H Q
def SimGs (K : PySem.W.Frag) (w : WGs) (g : TGs) : Prop := ∀ (F0 H0 F H : Hp) (σ : L2.St) (env : Env) (pv : List V) (pd : List D) (xs : List V) (ds : List D), xs.length = ds.length → Sta K F0 H0 F H σ env (xs ++ pv) (ds ++ pd) →
  ∀ (Q' : Env → Prop) (Q : L2.St → Hp → Prop), w ds env Q' → (∀ env' σ', Q' env' → Sta K F0 H0 F H σ' env' pv pd → Q σ' H) → g xs σ H Q
structure DS (X : Cx) (E : EX) (s : Stmt) (w : WS) : Prop where
  ex : ∃ t, PS X s t ∧ SimS X.K E w t
structure DSs (X : Cx) (E : EX) (s : List Stmt) (w : WS) : Prop where
  ex : ∃ t, PSs X s t ∧ SimS X.K E w t
structure DG (X : Cx) (e : Expr) (w : WG) : Prop where
  ex : ∃ t, PG X e t ∧ SimG X.K w t
structure DGs (X : Cx) (e : List Expr) (w : WGs) : Prop where
  ex : ∃ t, PGs X e t ∧ SimGs X.K w t

section
variable {K : PySem.W.Frag} {F0 H0 F F' H H' : Hp} {σ : L2.St} {env : Env} {pv : List V} {pd : List D}
/-- the newest value goes into a slot -/
theorem Sta.store {i : Nat} {x : V} {d : D} (S : Sta K F0 H0 F H σ env (x :: pv) (d :: pd)) : Sta K F0 H0 F H (σ.set i (some x)) (env.set i (some d)) pv pd := by
  obtain ⟨A0, B, h1, h2, h3, h4⟩ := S.own
  cases h2 with
  | cons r rr e =>
    rename_i A B1
    subst e
    by_cases hi : i < env.length
    · obtain ⟨A1, A2, Ai, e, q⟩ := h1.put hi r
      subst e
      refine ⟨S.exF, S.exH, S.sub, S.new, A1 ++ A ++ A2, B1, q, rr, ?_, fun a ha => h4 a ?_⟩
      · refine List.Nodup.sublist (l₂ := A1 ++ A ++ A2 ++ (Ai ++ B1)) ?_ ((List.Perm.nodup_iff ?_).mp h3)
        · exact List.Sublist.append (List.Sublist.refl _) (List.sublist_append_right _ _)
        · have p1 : (A1 ++ Ai ++ A2 ++ (A ++ B1)).Perm (A1 ++ (A ++ A2 ++ (Ai ++ B1))) := by
            rw [List.append_assoc, List.append_assoc]
            refine List.Perm.append_left _ ?_
            rw [show A ++ A2 ++ (Ai ++ B1) = A ++ (A2 ++ Ai) ++ B1 by simp [List.append_assoc], show Ai ++ (A2 ++ (A ++ B1)) = (Ai ++ A2) ++ A ++ B1 by simp [List.append_assoc]]
            refine List.Perm.append_right _ ?_
            refine List.Perm.trans List.perm_append_comm ?_
            exact List.Perm.append_left _ List.perm_append_comm
          rw [show A1 ++ A ++ A2 ++ (Ai ++ B1) = A1 ++ (A ++ A2 ++ (Ai ++ B1)) by simp [List.append_assoc]]
          exact p1
      · simp only [List.mem_append] at ha ⊢
        rcases ha with ((ha | ha) | ha) | ha
        · exact .inl (.inl (.inl ha))
        · exact .inr (.inl ha)
        · exact .inl (.inr ha)
        · exact .inr (.inr ha)
    · have l1 := h1.length
      rw [List.set_eq_of_length_le (by omega), List.set_eq_of_length_le (by omega)]
      exact (Sta.pop S).2
/-- the newest value, a tuple: its items -/
theorem Sta.open {x : V} {ds : List D} (S : Sta K F0 H0 F H σ env (x :: pv) (.tup ds :: pd)) : ∃ a vs, x = .ref a ∧ SqT K H a vs ∧ vs.length = ds.length ∧ Sta K F0 H0 F H σ env (vs ++ pv) (ds ++ pd) := by
  obtain ⟨A0, B, h1, h2, h3, h4⟩ := S.own
  cases h2 with
  | cons r rr e =>
    subst e
    cases r with
    | tup hq rs => exact ⟨_, _, rfl, SqT.of hq, rs.length, S.exF, S.exH, S.sub, S.new, A0, _, h1, rs.app rr, h3, h4⟩
theorem Sta.drops : ∀ {vs : List V} {ds : List D}, vs.length = ds.length → Sta K F0 H0 F H σ env (vs ++ pv) (ds ++ pd) → Sta K F0 H0 F H σ env pv pd
  | [], [], _, S => S
  | v :: vs, d :: ds, hl, S => Sta.drops (by simpa using hl) (Sta.pop S).2
theorem Sta.told {vs : List V} {ds : List D} (hl : vs.length = ds.length) (S : Sta K F0 H0 F H σ env (vs ++ pv) (ds ++ pd)) : ∃ A, Reps K F H vs ds A := by
  obtain ⟨A, r, _⟩ := S.gather hl
  exact ⟨A, r⟩
theorem Sta.len (S : Sta K F0 H0 F H σ env pv pd) : σ.length = env.length := by
  obtain ⟨A0, B, h1, _⟩ := S.own
  exact h1.length
end

/-! ### targets -/
def gtName (i : Nat) : WG := fun d env Q => Q (env.set i (some d))
def gtTup (n : Nat) (gs : WGs) : WG := fun d env Q => match d with
  | .tup ds => ds.length = n ∧ gs ds env Q
  | _ => False
def gtNil : WGs := fun _ env Q => Q env
def gtCons (g : WG) (r : WGs) : WGs := fun ds env Q => match ds with
  | d :: ds => g d env fun env1 => r ds env1 Q
  | [] => False
theorem simG_name {K : PySem.W.Frag} {i : Nat} : SimG K (gtName i) (gName i) := by
  intro F0 H0 F H σ env pv pd x d S Q' Q w k
  exact k _ _ w S.store
theorem simGs_nil {K : PySem.W.Frag} : SimGs K (fun ds env Q => ds = [] ∧ Q env) gNil := by
  intro F0 H0 F H σ env pv pd xs ds hl S Q' Q w k
  obtain ⟨e, w⟩ := w
  subst e
  have : xs = [] := by simpa using hl
  subst this
  exact ⟨rfl, k _ _ w S⟩
theorem simGs_cons {K : PySem.W.Frag} {g : WG} {r : WGs} {t : TG} {u : TGs} (h : SimG K g t) (hr : SimGs K r u) : SimGs K (gtCons g r) (gCons t u) := by
  intro F0 H0 F H σ env pv pd xs ds hl S Q' Q w k
  cases ds with
  | nil => exact w.elim
  | cons d ds =>
    cases xs with
    | nil => simp at hl
    | cons x xs =>
      refine ⟨x, xs, rfl, ?_⟩
      refine h F0 H0 F H σ env (xs ++ pv) (ds ++ pd) x d S _ _ w fun env1 σ1 w1 S1 => ?_
      exact hr F0 H0 F H σ1 env1 pv pd xs ds (by simpa using hl) S1 _ _ w1 k
theorem simG_tup {K : PySem.W.Frag} {n : Nat} {gs : WGs} {t : TGs} (h : SimGs K gs t) : SimG K (gtTup n gs) (gTup K n t) := by
  intro F0 H0 F H σ env pv pd x d S Q' Q w k
  unfold gtTup at w
  split at w
  · rename_i ds
    obtain ⟨a, vs, rfl, hq, hl, S1⟩ := S.open
    exact ⟨a, vs, rfl, hq, hl.trans w.1, h F0 H0 F H σ env pv pd vs ds hl S1 _ _ w.2 k⟩
  · exact w.elim
section
variable {X : Cx} {pos : Pos}
theorem g_name {i : Nat} {x : Str} (hN : X.N.Nodup) (hi : X.N[i]? = some x) (hx : Loc X.env.scope x) (hf : X.fn x = true ∨ X.env.scope.names.lookup x = some .local := by first | exact .inl rfl | exact .inr rfl | assumption) : DG X (.Name x pos) (gtName i) := ⟨_, pg_name hN hi hx hf, simG_name⟩
theorem gs_nil : DGs X [] (fun ds env Q => ds = [] ∧ Q env) := ⟨_, pgs_nil, simGs_nil⟩
theorem gs_cons {e : Expr} {es : List Expr} {g : WG} {r : WGs} (h : DG X e g) (hr : DGs X es r) (hs : (assignEach (e :: es) X.env).map (·.2) = assign e X.env :: (assignEach es X.env).map (·.2) := by rfl) : DGs X (e :: es) (gtCons g r) := by
  obtain ⟨t, p, s⟩ := h.ex
  obtain ⟨t2, p2, s2⟩ := hr.ex
  exact ⟨_, pgs_cons p p2 hs, simGs_cons s s2⟩
theorem g_tup {es : List Expr} {k : Nat} {gs : WGs} {n : Nat} (hc : X.calm = true) (h : DGs X es gs) (hn : (assignEach es X.env).length = n := by rfl) (hst : (assignEach es X.env).findIdx? (·.1) = none := by rfl) : DG X (.Tuple es k pos) (gtTup n gs) := by
  obtain ⟨t, p, s⟩ := h.ex
  exact ⟨_, pg_tup hc p hn hst, simG_tup s⟩
end

/-! ### simple statements -/
def wSeq (a b : WS) : WS := fun P px env => a (P.then b px) px env
/-- two statements with a word between them -/
def CutW (J : Env → Prop) (b : WS) (P : PEnds) (px : PX) : Prop := ∀ env1, J env1 → b P px env1
def wCut (a b : WS) : WS := fun P px env => ∃ J : Env → Prop, a (P.mid J) px env ∧ CutW J b P px
def wNext : WS := fun P _ env => P.nx env
def wBrk : WS := fun P _ env => P.bk env
def wCont : WS := fun P _ env => P.ct env
def wRet (w : WE) : WS := fun P px env => w px env fun d b _ => (b = false ∨ dirty d = false) ∧ P.rt d
def wRetN : WS := fun P _ _ => P.rt .non
def wIf (c : WT) (a b : WS) : WS := fun P px env => c px env fun k env1 => if k = true then a P px env1 else b P px env1
def wAsg (w : WE) (g : WG) : WS := fun P px env => w px env fun d b env1 => (b = false ∨ dirty d = false) ∧ g d env1 P.nx
def wDrop (w : WE) : WS := fun P px env => w px env fun _ _ env1 => P.nx env1
def wAug (i : Nat) (g : G2) (w : WE) : WS := fun P px env => match env[i]? with
  | some (some a) => w px env fun b _ env1 => g a b fun d => P.nx (env1.set i (some d))
  | _ => False
def wNever : WS := fun _ _ _ => False
section
variable {K : PySem.W.Frag} {E : EX}
theorem simS_next : SimS K E wNext tNext := fun px F0 H0 F H σ env pv pd L S P D w k => k.nx _ _ _ _ w S
theorem simS_brk : SimS K E wBrk tBreak := fun px F0 H0 F H σ env pv pd L S P D w k => k.bk _ _ _ _ w S
theorem simS_cont : SimS K E wCont tCont := fun px F0 H0 F H σ env pv pd L S P D w k => k.ct _ _ _ _ w S
theorem simS_never : SimS K E wNever tNever := fun px F0 H0 F H σ env pv pd L S P D w k => w
theorem simS_seq {a b : WS} {t u : TS} (h1 : SimS K E a t) (h2 : SimS K E b u) : SimS K E (wSeq a b) (tSeq t u) := fun px F0 H0 F H σ env pv pd L S P D w k =>
  h1 px F0 H0 F H σ env pv pd L S (P.then b px) { D with nx := u D } w
    ⟨fun σ' env' F' H' w' S' => h2 px F0 H0 F' H' σ' env' pv pd L S' P D w' k, k.rt, k.bk, k.ct⟩
theorem simS_cut {a b : WS} {t u : TS} (h1 : SimS K E a t) (h2 : SimS K E b u) : SimS K E (wCut a b) (tSeq t u) := fun px F0 H0 F H σ env pv pd L S P D ⟨J, w, w2⟩ k =>
  h1 px F0 H0 F H σ env pv pd L S (P.mid J) { D with nx := u D } w
    ⟨fun σ' env' F' H' w' S' => h2 px F0 H0 F' H' σ' env' pv pd L S' P D (w2 env' w') k, k.rt, k.bk, k.ct⟩
theorem simS_ret {w : WE} {t : TE} (h : Sim K E w t) : SimS K E (wRet w) (tRet t) := fun px F0 H0 F H σ env pv pd L S P D w1 k =>
  h px F0 H0 F H σ env pv pd L S _ _ w1 fun d b env1 v F1 H1 w2 eF eH R => k.rt d v F1 H1 _ _ _ _ w2.2 (R.owned w2.1)
theorem simS_retN : SimS K E wRetN tRetN := fun px F0 H0 F H σ env pv pd L S P D w1 k => k.rt .non .non F H _ _ _ _ w1 (S.clean .non)
theorem simS_if {c : WT} {a b : WS} {t : TT} {u v : TS} (h : SimT K E c t) (h1 : SimS K E a u) (h2 : SimS K E b v) : SimS K E (wIf c a b) (tIfS t u v) := fun px F0 H0 F H σ env pv pd L S P D w1 k =>
  h px F0 H0 F H σ env pv pd L S _ _ w1 fun b env1 F1 H1 w2 eF eH S1 => by
    cases b with
    | true => exact h1 px F0 H0 F1 H1 σ env1 pv pd L S1 P D w2 k
    | false => exact h2 px F0 H0 F1 H1 σ env1 pv pd L S1 P D w2 k
theorem simS_asg {w : WE} {t : TE} {g : WG} {u : TG} (h : Sim K E w t) (hg : SimG K g u) : SimS K E (wAsg w g) (tAsg t u) := fun px F0 H0 F H σ env pv pd L S P D w1 k =>
  h px F0 H0 F H σ env pv pd L S _ _ w1 fun d b env1 v F1 H1 w2 eF eH R =>
    hg F0 H0 F1 H1 σ env1 pv pd v d (R.owned w2.1) _ _ w2.2 fun env2 σ2 w3 S2 => k.nx _ _ _ _ w3 S2
theorem simS_drop {w : WE} {t : TE} (h : Sim K E w t) : SimS K E (wDrop w) (tDrop t) := fun px F0 H0 F H σ env pv pd L S P D w1 k =>
  h px F0 H0 F H σ env pv pd L S _ _ w1 fun d b env1 v F1 H1 w2 eF eH R => k.nx _ _ _ _ w2 R.forget.2
theorem simS_aug {i : Nat} {g : G2} {w : WE} {t : TE} {r : R2} (ho : OpD K g r) (h : Sim K E w t) : SimS K E (wAug i g w) (tAug i t r) := by
  intro px F0 H0 F H σ env pv pd L S P D w1 k
  unfold wAug at w1
  split at w1
  · rename_i a e
    obtain ⟨x, A, e2, rx⟩ := S.slot e
    refine ⟨x, e2, h px F0 H0 F H σ env pv pd L S _ _ w1 fun b bb env1 y F1 H1 w2 eF eH R => ?_⟩
    obtain ⟨⟨B, ry⟩, S1⟩ := R.forget
    exact ho F1 H1 x y a b A B _ _ S1.sub (rx.ex eF eH) ry w2 fun d v H' C q e r hn hC => k.nx _ _ F1 H' q (S1.push e r hn hC).store
  · exact w1.elim
end
section
variable {X : Cx} {E : EX} {st : Stmt} {rest : List Stmt} {a b : WS} {e : Expr} {w : WE} {g : WG} {pos : Pos}
theorem s_nil : DSs X E [] wNext := ⟨_, pss_nil, simS_next⟩
theorem s_cons (h : DS X E st a) (h2 : DSs X E rest b) : DSs X E (st :: rest) (wSeq a b) := by
  obtain ⟨t, p, s⟩ := h.ex
  obtain ⟨t2, p2, s2⟩ := h2.ex
  exact ⟨_, pss_cons p p2, simS_seq s s2⟩
theorem s_cut (h : DS X E st a) (h2 : DSs X E rest b) : DSs X E (st :: rest) (wCut a b) := by
  obtain ⟨t, p, s⟩ := h.ex
  obtain ⟨t2, p2, s2⟩ := h2.ex
  exact ⟨_, pss_cons p p2, simS_cut s s2⟩
theorem s_one (h : DS X E st a) : DSs X E [st] a := by
  obtain ⟨t, p, s⟩ := h.ex
  exact ⟨_, pss_one p, s⟩
theorem s_pass : DS X E (.Pass pos) wNext := ⟨_, ps_pass, simS_next⟩
theorem s_brk : DS X E (.Break pos) wBrk := ⟨_, ps_break, simS_brk⟩
theorem s_cont : DS X E (.Continue pos) wCont := ⟨_, ps_continue, simS_cont⟩
theorem s_doc {x j pos pos'} : DS X E (.Expr (.Constant (.str x) j pos) pos') wNext := ⟨_, ps_doc, simS_next⟩
theorem s_ret (h : DE X E e w) : DS X E (.Return (some e) pos) (wRet w) := by
  obtain ⟨t, p, s⟩ := h.ex
  exact ⟨_, ps_ret p, simS_ret s⟩
theorem s_retN : DS X E (.Return none pos) wRetN := ⟨_, ps_retN, simS_retN⟩
theorem s_if {c : Expr} {ba bb : List Stmt} {wc : WT} (h : DT X E c wc) (h1 : DSs X E ba a) (h2 : DSs X E bb b) : DS X E (.If c ba bb pos) (wIf wc a b) := by
  obtain ⟨t, p, s⟩ := h.ex
  obtain ⟨t1, p1, s1⟩ := h1.ex
  obtain ⟨t2, p2, s2⟩ := h2.ex
  exact ⟨_, ps_if p p1 p2, simS_if s s1 s2⟩
theorem s_asg {tg : Expr} (h : DE X E e w) (hg : DG X tg g) (hs : swapsWithSole [tg] e pos.line X.env = pure false := by rfl) (hw : swappedStores [tg] e X.env = pure none := by rfl) (h1 : (assignEach [tg] X.env).map (·.2) = [assign tg X.env] := by rfl) : DS X E (.Assign [tg] e pos) (wAsg w g) := by
  obtain ⟨t, p, s⟩ := h.ex
  obtain ⟨u, q, r⟩ := hg.ex
  exact ⟨_, ps_asg p q hs hw h1, simS_asg s r⟩
theorem s_set {i : Nat} {x : Str} {pos' : Pos} (hN : X.N.Nodup) (hi : X.N[i]? = some x) (hx : Loc X.env.scope x) (h : DE X E e w) (hs : swapsWith e (some (.Name x pos')) pos.line X.env = pure false := by rfl) (hf : X.fn x = true ∨ X.env.scope.names.lookup x = some .local := by first | exact .inl rfl | exact .inr rfl | assumption) :
    DS X E (.Assign [.Name x pos'] e pos) (wAsg w (gtName i)) := by
  obtain ⟨t, p, s⟩ := h.ex
  exact ⟨_, ps_set hN hi hx p hs hf, simS_asg s simG_name⟩
theorem s_expr (h : DE X E e w) (hs : swapsWith e none pos.line X.env = pure false := by rfl) : DS X E (.Expr e pos) (wDrop w) := by
  obtain ⟨t, p, s⟩ := h.ex
  exact ⟨_, ps_expr p hs, simS_drop s⟩
theorem s_aug {i : Nat} {x : Str} {op : Operator} {r : R2} {g : G2} {pos' : Pos} (hN : X.N.Nodup) (hi : X.N[i]? = some x) (hx : Loc X.env.scope x) (h : DE X E e w) (ho : OpR X (inplaceOp op) r) (hd : OpD X.K g r) (hf : X.fn x = true ∨ X.env.scope.names.lookup x = some .local := by first | exact .inl rfl | exact .inr rfl | assumption) :
    DS X E (.AugAssign (.Name x pos') op e pos) (wAug i g w) := by
  obtain ⟨t, p, s⟩ := h.ex
  exact ⟨_, ps_aug hN hi hx p ho hf, simS_aug hd s⟩
end

/-! ### loops -/
abbrev WI := PX → Env → (List D → Env → Prop) → Prop
structure ItD (K : PySem.W.Frag) (J : It) (pvx : List V) (pdx : List D) (ds : List D) : Prop where
  len : pvx.length = pdx.length
  go : ∀ F H A i d, Ex F H → Reps K F H pvx pdx A → ds[i]? = some d → J.go i H ∧ ∀ x H', J.yld i H x H' → Ex H H' ∧ Rep K F H' x d []
  stop : ∀ F H A, Ex F H → Reps K F H pvx pdx A → J.stop ds.length H
def SimI (K : PySem.W.Frag) (E : EX) (w : WI) (t : TI) : Prop := ∀ (px : PX) (F0 H0 F H : Hp) (σ : L2.St) (env : Env) (pv : List V) (pd : List D), LinkX K F0 H0 px E pv pd → Sta K F0 H0 F H σ env pv pd →
  ∀ (Q' : List D → Env → Prop) (R : It → Hp → Prop), w px env Q' → (∀ ds env' J F' H' pvx pdx, Q' ds env' → Ex F F' → Ex H H' → Sta K F0 H0 F' H' σ env' (pvx ++ pv) (pdx ++ pd) → ItD K J pvx pdx ds → R J H') → t σ H R
structure DI (X : Cx) (E : EX) (tg e : Expr) (w : WI) : Prop where
  ex : ∃ t, PI X tg e t ∧ SimI X.K E w t
def asL : D → Option (List D)
  | .lst _ ds => some ds
  | .seq ds => some ds
  | _ => none
/-- the items of a list that stands still through the loop -/
def itsL (w : WE) : WI := fun px env Q => w px env fun d b env1 => (b = false ∨ dirty d = false) ∧ match asL d with
  | some ds => dirtys ds = false ∧ Q ds env1
  | none => False
def itsT (w : WE) : WI := fun px env Q => w px env fun d b env1 => match d with
  | .tup ds => dirtys ds = false ∧ Q ds env1
  | _ => False
def rngD (lo : Int) (n : Nat) : List D := (List.range n).map fun (i : Nat) => .int (lo + (i : Int))
def its1 (w : WA) : WI := fun px env Q => w px env fun ds env1 => match ds with
  | [.int j] => -(2 ^ 62) ≤ j ∧ j < 2 ^ 62 ∧ Q (rngD 0 j.toNat) env1
  | _ => False
def its2 (w : WA) : WI := fun px env Q => w px env fun ds env1 => match ds with
  | [.int i, .int j] => (-(2 ^ 62) ≤ i ∧ i < 2 ^ 62 ∧ -(2 ^ 62) ≤ j ∧ j < 2 ^ 62) ∧ Q (rngD i (j - i).toNat) env1
  | _ => False
theorem rep_asL {K : PySem.W.Frag} {F H : Hp} {v : V} {d : D} {A : List Addr} {ds : List D} (hs : Ex F H) (r : Rep K F H v d A) (h : asL d = some ds) : ∃ a vs B, v = .ref a ∧ SqL K H a vs ∧ Reps K F H vs ds B ∧ ∀ b ∈ B, b ∈ A := by
  cases r with
  | fz h1 h2 => cases h; exact ⟨_, _, [], rfl, .inl (.inl (hs _ _ h1)), h2, fun _ z => z⟩
  | own h1 h2 => cases h; exact ⟨_, _, _, rfl, .inl (.inl h1), h2, fun b hb => List.mem_cons_of_mem _ hb⟩
  | seq h1 h2 => cases h; exact ⟨_, _, [], rfl, Same.seq hs h1, h2, fun _ z => z⟩
  | _ => cases h
theorem sqL_inj_H {K : PySem.W.Frag} {H : Hp} {a : Addr} {xs : List V} (h : SqL K H a xs) : (∀ ys, SqL K H a ys → ys = xs) → True := fun _ => trivial
theorem simI_L {K : PySem.W.Frag} {E : EX} {w : WE} {t : TE} (h : Sim K E w t) : SimI K E (itsL w) (iList K t) := by
  intro px F0 H0 F H σ env pv pd L S Q' R w1 k
  refine h px F0 H0 F H σ env pv pd L S _ _ w1 fun d b env1 v F1 H1 w2 eF eH R1 => ?_
  obtain ⟨hb, w2⟩ := w2
  have S1 := R1.owned hb
  obtain ⟨⟨A, r⟩, _⟩ := S1.pop
  split at w2
  · rename_i ds hd
    obtain ⟨a, vs, B, rfl, hq, rs, _⟩ := rep_asL S1.sub r hd
    refine ⟨a, rfl, ⟨vs, hq⟩, k ds env1 _ F1 H1 [.ref a] [d] w2.2 eF eH S1 ⟨rfl, fun F H A i e hs rr he => ?_, fun F H A hs rr => ?_⟩⟩
    · cases rr with
      | cons r1 _ _ =>
        obtain ⟨a', vs', B', e1, hq', rs', _⟩ := rep_asL hs r1 hd
        cases e1
        obtain ⟨x, C, hx, rx, _⟩ := rs'.get he
        refine ⟨⟨vs', x, hq', hx⟩, fun x' H' y => ?_⟩
        obtain ⟨e2, y⟩ := y
        subst e2
        have := y vs' hq'
        rw [hx] at this; cases this
        have cl := rx.clean (dirtys_false.mp w2.1 e (List.mem_of_getElem? he))
        subst cl
        exact ⟨Same.refl _, rx⟩
    · cases rr with
      | cons r1 _ _ =>
        obtain ⟨a', vs', B', e1, hq', rs', _⟩ := rep_asL hs r1 hd
        cases e1
        exact ⟨vs', hq', Nat.le_of_eq rs'.length⟩
  · exact w2.elim
theorem simI_T {K : PySem.W.Frag} {E : EX} {w : WE} {t : TE} (h : Sim K E w t) : SimI K E (itsT w) (iTup K t) := by
  intro px F0 H0 F H σ env pv pd L S Q' R w1 k
  refine h px F0 H0 F H σ env pv pd L S _ _ w1 fun d b env1 v F1 H1 w2 eF eH R1 => ?_
  cases d with
  | tup ds =>
    have S1 := R1.owned (.inr (by simpa [dirty] using w2.1))
    obtain ⟨⟨A, r⟩, _⟩ := S1.pop
    cases r with
    | tup hq rs =>
      rename_i a vs
      refine ⟨a, rfl, ⟨_, SqT.of hq⟩, k ds env1 _ F1 H1 [.ref a] [.tup ds] w2.2 eF eH S1 ⟨rfl, fun F H A i e hs rr he => ?_, fun F H A hs rr => ?_⟩⟩
      · cases rr with
        | cons r1 _ _ =>
          cases r1 with
          | tup hq' rs' =>
            obtain ⟨x, C, hx, rx, _⟩ := rs'.get he
            refine ⟨⟨_, x, SqT.of hq', hx⟩, fun x' H' y => ?_⟩
            obtain ⟨e2, y⟩ := y
            subst e2
            have := y _ (SqT.of hq')
            rw [hx] at this; cases this
            have cl := rx.clean (dirtys_false.mp w2.1 e (List.mem_of_getElem? he))
            subst cl
            exact ⟨Same.refl _, rx⟩
      · cases rr with
        | cons r1 _ _ =>
          cases r1 with
          | tup hq' rs' => exact ⟨_, SqT.of hq', Nat.le_of_eq rs'.length⟩
  | _ => exact w2.elim
theorem rngD_len (lo : Int) (n : Nat) : (rngD lo n).length = n := by simp [rngD]
theorem rngD_get {lo : Int} {n i : Nat} {d : D} (h : (rngD lo n)[i]? = some d) : i < n ∧ d = .int (lo + (i : Int)) := by
  have hi : i < n := by rw [← rngD_len lo n]; exact (List.getElem?_eq_some_iff.mp h).1
  simp only [rngD, List.getElem?_map, List.getElem?_range hi, Option.map_some, Option.some.injEq] at h
  exact ⟨hi, h.symm⟩
theorem itD_range {K : PySem.W.Frag} (lo : Int) (n : Nat) : ItD K (Itr lo n) [] [] (rngD lo n) := by
  refine ⟨rfl, fun F H A i d hs rr hd => ?_, fun F H A hs rr => ?_⟩
  · obtain ⟨hi, rfl⟩ := rngD_get hd
    refine ⟨hi, fun x H' y => ?_⟩
    obtain ⟨e, rfl⟩ := y
    subst e
    exact ⟨Same.refl _, .int _⟩
  · rw [rngD_len]; exact Nat.le_refl _
theorem simI_1 {K : PySem.W.Frag} {E : EX} {w : WA} {t : TA} (h : SimA K E w t) : SimI K E (its1 w) (iRng1 t) := by
  intro px F0 H0 F H σ env pv pd L S Q' R w1 k
  refine h px F0 H0 F H σ env pv pd L S _ _ w1 fun ds env1 vs F1 H1 A w2 eF eH rs S1 => ?_
  split at w2
  · rename_i j
    cases rs with
    | cons r1 r2 _ =>
      cases r2
      rw [rep_int r1]
      exact ⟨j, rfl, w2.1, w2.2.1, k _ env1 _ F1 H1 [] [] w2.2.2 eF eH S1 (itD_range 0 _)⟩
  · exact w2.elim
theorem simI_2 {K : PySem.W.Frag} {E : EX} {w : WA} {t : TA} (h : SimA K E w t) : SimI K E (its2 w) (iRng2 t) := by
  intro px F0 H0 F H σ env pv pd L S Q' R w1 k
  refine h px F0 H0 F H σ env pv pd L S _ _ w1 fun ds env1 vs F1 H1 A w2 eF eH rs S1 => ?_
  split at w2
  · rename_i i j
    cases rs with
    | cons r1 r2 _ =>
      cases r2 with
      | cons r3 r4 _ =>
        cases r4
        rw [rep_int r1, rep_int r3]
        exact ⟨i, j, rfl, w2.1, k _ env1 _ F1 H1 [] [] w2.2 eF eH S1 (itD_range i _)⟩
  · exact w2.elim
/-- for: I is what holds ahead of each turn -/
def ForW (g : WG) (b : WS) (P : PEnds) (px : PX) (ds : List D) (env : Env) : Prop := ∃ I : Nat → Env → Prop, I 0 env ∧
  (∀ i d env2, ds[i]? = some d → I i env2 → g d env2 fun env3 => b (P.turn (I (i + 1))) px env3) ∧ ∀ env2, I ds.length env2 → P.nx env2
def wFor (wi : WI) (g : WG) (b : WS) : WS := fun P px env => wi px env fun ds env1 => ForW g b P px ds env1
theorem simS_for {K : PySem.W.Frag} {E : EX} {wi : WI} {g : WG} {b : WS} {ti : TI} {tg : TG} {tb : TS} (hi : SimI K E wi ti) (hg : SimG K g tg) (hb : SimS K E b tb) : SimS K E (wFor wi g b) (tFor ti tg tb) := by
  intro px F0 H0 F H σ env pv pd L S P D w k
  refine hi px F0 H0 F H σ env pv pd L S _ _ w fun ds env1 J F1 H1 pvx pdx w1 eF eH S1 J1 => ?_
  obtain ⟨I, i0, turn, done⟩ := w1
  refine ⟨fun i m σ' H' => m = ds.length - i ∧ i ≤ ds.length ∧ ∃ env' F', I i env' ∧ Sta K F0 H0 F' H' σ' env' (pvx ++ pv) (pdx ++ pd), ⟨ds.length, by simp, Nat.zero_le _, env1, F1, i0, S1⟩, ?_⟩
  rintro i m σ2 H2 ⟨rfl, hle, env2, F2, i2, S2⟩
  obtain ⟨A, rs⟩ := S2.told J1.len
  by_cases hlt : i < ds.length
  · obtain ⟨go, yl⟩ := J1.go F2 H2 A i ds[i] S2.sub rs (List.getElem?_eq_getElem hlt)
    refine .inr ⟨go, fun σ' H' => ∃ env' F', I (i + 1) env' ∧ Sta K F0 H0 F' H' σ' env' (pvx ++ pv) (pdx ++ pd), fun σ' H' q => ⟨ds.length - (i + 1), by omega, rfl, hlt, q⟩, fun x H' y => ?_⟩
    obtain ⟨e, rx⟩ := yl x H' y
    have S3 := (S2.grow e).clean rx
    refine hg F0 H0 F2 H' σ2 env2 _ _ x _ S3 _ _ (turn i _ env2 (List.getElem?_eq_getElem hlt) i2) fun env3 σ3 w3 S4 => ?_
    exact hb px F0 H0 F2 H' σ3 env3 _ _ (L.push J1.len) S4 _ _ w3 ⟨fun σ' env' F' H' q S' => ⟨env', F', q, S'⟩, fun d v F' H' σ' env' pv' pd' q S' => k.rt d v F' H' σ' env' pv' pd' q S', fun σ' env' F' H' q S' => k.nx _ _ _ _ q (Sta.drops J1.len S'), fun σ' env' F' H' q S' => ⟨env', F', q, S'⟩⟩
  · have e : i = ds.length := by omega
    subst e
    exact .inl ⟨J1.stop F2 H2 A S2.sub rs, k.nx _ _ _ _ (done env2 i2) (Sta.drops J1.len S2)⟩
/-- while: I by a measure -/
def wWhile (c : WT) (b : WS) : WS := fun P px env => ∃ I : Nat → Env → Prop, (∃ m, I m env) ∧ ∀ m env1, I m env1 → c px env1 fun k env2 => if k = true then
    b (P.turn fun env3 => ∃ m', m' < m ∧ I m' env3) px env2 else P.nx env2
theorem simS_while {K : PySem.W.Frag} {E : EX} {c : WT} {b : WS} {tc : TT} {tb : TS} (hc : SimT K E c tc) (hb : SimS K E b tb) : SimS K E (wWhile c b) (tWhile tc tb) := by
  intro px F0 H0 F H σ env pv pd L S P D w k
  obtain ⟨I, ⟨m0, i0⟩, turn⟩ := w
  refine ⟨fun m σ' H' => ∃ env' F', I m env' ∧ Sta K F0 H0 F' H' σ' env' pv pd, ⟨m0, env, F, i0, S⟩, ?_⟩
  rintro m σ1 H1 ⟨env1, F1, i1, S1⟩
  refine hc px F0 H0 F1 H1 σ1 env1 pv pd L S1 _ _ (turn m env1 i1) fun kk env2 F2 H2 w2 eF eH S2 => ?_
  cases kk with
  | false => exact k.nx _ _ _ _ w2 S2
  | true =>
    refine ⟨fun σ' H' => ∃ m', m' < m ∧ ∃ env' F', I m' env' ∧ Sta K F0 H0 F' H' σ' env' pv pd, fun σ' H' q => q, ?_⟩
    exact hb px F0 H0 F2 H2 σ1 env2 pv pd L S2 _ _ w2 ⟨fun σ' env' F' H' ⟨m', hm, q⟩ S' => ⟨m', hm, env', F', q, S'⟩, k.rt, k.nx, fun σ' env' F' H' ⟨m', hm, q⟩ S' => ⟨m', hm, env', F', q, S'⟩⟩
section
variable {X : Cx} {E : EX} {tg e : Expr} {w : WE} {wa : WA} {pos : Pos}
theorem n_L (h : DE X E e w) : DI X E tg e (itsL w) := by
  obtain ⟨t, p, s⟩ := h.ex
  exact ⟨_, pi_list p, simI_L s⟩
theorem n_T (h : DE X E e w) : DI X E tg e (itsT w) := by
  obtain ⟨t, p, s⟩ := h.ex
  exact ⟨_, pi_tup p, simI_T s⟩
theorem n_1 {p pos : Pos} (hg : Gl X "range") (hm : X.mg "range" = none) (h : DA X E [e] wa) (hs : starEach [e] X.env = [(false, eval e X.env)] := by rfl) : DI X E tg (.Call (.Name "range" p) [e] [] pos) (its1 wa) := by
  obtain ⟨t, p, s⟩ := h.ex
  exact ⟨_, pi_range1 hg hm p hs, simI_1 s⟩
theorem n_2 {a b : Expr} {p pos : Pos} (hg : Gl X "range") (hm : X.mg "range" = none) (h : DA X E [a, b] wa) (hs : starEach [a, b] X.env = [(false, eval a X.env), (false, eval b X.env)] := by rfl) (hs2 : starEach [b] X.env = [(false, eval b X.env)] := by rfl) : DI X E tg (.Call (.Name "range" p) [a, b] [] pos) (its2 wa) := by
  obtain ⟨t, p, s⟩ := h.ex
  exact ⟨_, pi_range2 hg hm p hs hs2, simI_2 s⟩
theorem s_for {iter : Expr} {body : List Stmt} {wi : WI} {g : WG} {b : WS} (hp : PassesOwn (model X.prog X.w) X.A X.env X.xe) (hc : X.calm = true) (hi : DI X E tg iter wi) (hg : DG X tg g) (hb : DSs X E body b) (hs : ∀ x, foldedSetIterable iter X.env x = pure x := by intro _; rfl) :
    DS X E (.For tg iter body [] pos) (wFor wi g b) := by
  obtain ⟨t1, p1, s1⟩ := hi.ex
  obtain ⟨t2, p2, s2⟩ := hg.ex
  obtain ⟨t3, p3, s3⟩ := hb.ex
  exact ⟨_, ps_for hp hc p1 p2 p3 hs, simS_for s1 s2 s3⟩
theorem s_while {c : Expr} {body : List Stmt} {wc : WT} {b : WS} (hp : PassesOwn (model X.prog X.w) X.A X.env X.xe) (hc : DT X E c wc) (hb : DSs X E body b) : DS X E (.While c body [] pos) (wWhile wc b) := by
  obtain ⟨t1, p1, s1⟩ := hc.ex
  obtain ⟨t2, p2, s2⟩ := hb.ex
  exact ⟨_, ps_while hp p1 p2, simS_while s1 s2⟩
end

/-! ### a def -/
def start0 (n : Nat) (ds : List D) : Env := ds.map some ++ List.replicate (n - ds.length) none
theorem slots_start {K : PySem.W.Frag} {F H : Hp} {n : Nat} : ∀ {vs : List V} {ds : List D}, Reps K F H vs ds [] → Slots K F H (vs.map some ++ List.replicate n none) (ds.map some ++ List.replicate n none) []
  | [], _, .nil => by
    simp only [List.map_nil, List.nil_append]
    induction n with
    | zero => exact .nil
    | succ n ih => exact .skip ih
  | _, _, .cons (A := A) (B := B) r rs e => by
    have e1 : A = [] := by cases A with | nil => rfl | cons _ _ => simp at e
    have e2 : B = [] := by subst e1; simpa using e.symm
    subst e1 e2
    exact .cons r (slots_start rs) rfl
theorem spD_len {K : PySem.W.Frag} {spec : SpecT} {n : Nat} (h : ∀ ds px Q, spec ds px Q → ds.length = n) : ∀ vs H Q E, spD K spec vs H Q E → vs.length = n := by
  rintro vs H Q E ⟨F, ds, px, Qd, _, r, s, _⟩
  rw [r.length]; exact h ds px Qd s
theorem body_start {K : PySem.W.Frag} {F H : Hp} {N : List Str} {vs : List V} {ds : List D} (hF : Ex F H) (r : Reps K F H vs ds []) : Sta K F H F H (L2.start N vs) (start0 N.length ds) [] [] := by
  refine ⟨Same.refl _, Same.refl _, hF, fun a q => .inl q, [], [], ?_, .nil, List.nodup_nil, fun a ha => absurd ha List.not_mem_nil⟩
  unfold L2.start start0
  rw [r.length]
  exact slots_start r
theorem body_end {K : PySem.W.Frag} {F H : Hp} {Q : VK} {Qd : D → Prop} (back : ∀ d v F' H' A, Qd d → Ex F F' → Ex H H' → Ex F' H' → (∀ a, F' a ≠ none → F a ≠ none ∨ H a = none) → Rep K F' H' v d A → A.Nodup → (∀ a ∈ A, F' a = none ∧ H a = none) → Q v H') :
    LinkD K F H [] [] (PEnds.top Qd) { nx := fun _ H' => Q .non H', rt := Q } := by
  have fin : ∀ d v F' H' σ' env' pv' pd', Qd d → Sta K F H F' H' σ' env' (v :: pv') (d :: pd') → Q v H' := fun d v F' H' σ' env' pv' pd' q S' => by
    obtain ⟨A0, B, h1, h2, h3, h4⟩ := S'.own
    cases h2 with
    | cons r1 r2 e =>
      subst e
      rename_i A B1
      refine back d v F' H' A q S'.exF S'.exH S'.sub S'.new r1 ?_ fun a ha => h4 a (by simp [ha])
      exact (List.nodup_append.mp (List.nodup_append.mp h3).2.1).1
  exact ⟨fun σ' env' F' H' q S' => fin .non .non F' H' σ' env' [] [] q (S'.clean .non), fin, fun _ _ _ _ q _ => q, fun _ _ _ _ q _ => q⟩
theorem body_ok {K : PySem.W.Frag} {E : XK} {spec : SpecT} {w : WS} {t : TS} {N : List Str} {vs : List V} {H : Hp} {Q : VK} (hs : SimS K (fun _ => E) w t) (h : spD K spec vs H Q E)
    (pure : ∀ ds px Qd, spec ds px Qd → w (PEnds.top Qd) px (start0 N.length ds)) : t { nx := fun _ H' => Q .non H', rt := Q } (L2.start N vs) H := by
  obtain ⟨F, ds, px, Qd, hF, r, sp, L, back⟩ := h
  have S := body_start hF r (N := N)
  have LX : LinkX K F H px (fun _ => E) [] [] := fun n C σ' env' F' H' pvx pdx hn hp _ S' => L n C env' H' hn hp S'.exH
  exact hs px F H F H _ _ [] [] LX S _ _ (pure ds px Qd sp) (body_end back)
/-- .. where nothing is let out -/
theorem body_ok0 {K : PySem.W.Frag} {E : XK} {E' : EX} {spec : SpecT} {w : WS} {t : TS} {N : List Str} {vs : List V} {H : Hp} {Q : VK} (hs : SimS K E' w t) (h : spD K spec vs H Q E)
    (pure : ∀ ds px Qd, spec ds px Qd → w (PEnds.top Qd) px0 (start0 N.length ds)) : t { nx := fun _ H' => Q .non H', rt := Q } (L2.start N vs) H := by
  obtain ⟨F, ds, px, Qd, hF, r, sp, L, back⟩ := h
  exact hs px0 F H F H _ _ [] [] link0 (body_start hF r (N := N)) _ _ (pure ds px Qd sp) (body_end back)
section
variable {P : Program} {w : World} {K : PySem.W.Frag} {mg : Str → Option Value} {base : Heap}
/-- THE RULE for a def from which no exception leaves -/
theorem okD {x qual : Str} {st : Stmt} {f : Addr} {fd : FuncData} {N ps : List Str} {k : Nat} {spec : SpecT} (F : Fun K x qual st f fd) (S : FnScope N ps (defScope st)) (len : ∀ ds px Q, spec ds px Q → ds.length = ps.length) {ws : WS}
    (body : ∀ (cdv : Value) (A : Around) (outer : List PySem.Env) (s : Shared) (H : Hp) (E : XK), Room k (A.deeper (envOfC qual (defScope st) s.heap.objs.size f cdv)) → DSs (cxOf CX0 P w K mg base N qual (defScope st) f cdv A outer s H E).nox (fun _ => E) (defBody st) ws)
    (pure : ∀ ds px Q, spec ds px Q → ws (PEnds.top Q) px (start0 N.length ds)) : FnOk P w K mg base CX0 (k + 1) f fd ps (spD K spec) := by
  refine F.ok S (spD_len len) fun cdv A outer s H vs Q E hr h => ?_
  obtain ⟨t, p, sim⟩ := (body cdv A outer s H E hr).ex
  exact ⟨t, p, body_ok sim h pure⟩
end
end Tm

set_option Elab.async false
set_option linter.all false
set_option maxRecDepth 100000
set_option maxHeartbeats 1000000
namespace Tm
open PySem PySem.Spec PyProof.Rows L2

/-! ### + -/
def rAddS : R2 := fun x y H Q => ∃ i j, x = .str i ∧ y = .str j ∧ i.length + j.length ≤ sizeLine ∧ Q (.str (i ++ j)) H
def rAddA (K : PySem.W.Frag) : R2 := fun x y H Q => rI0 (fun i j => .int (i + j)) x y H Q ∨ rAddS x y H Q ∨ rCat x y H Q ∨ rCatA K x y H Q
theorem op_addA {X : Cx} : OpR X (binaryOp .Add) (rAddA X.K) := op_add.or (op_add_str.or (op_cat.or op_catA))
def gAdd : G2
  | .int i, .int j, Q => Q (.int (i + j))
  | .str x, .str y, Q => x.length + y.length ≤ 100000 ∧ Q (.str (x ++ y))
  | .lst _ xs, .lst _ ys, Q => dirtys xs = false ∧ dirtys ys = false ∧ xs.length + ys.length ≤ 100000 ∧ Q (.lst true (xs ++ ys))
  | .tup xs, .tup ys, Q => dirtys xs = false ∧ dirtys ys = false ∧ xs.length + ys.length ≤ 100000 ∧ Q (.tup (xs ++ ys))
  | _, _, _ => False
theorem rep_lst {K : PySem.W.Frag} {F H : Hp} {v : V} {o : Bool} {ds : List D} {A : List Addr} (hs : Ex F H) (r : Rep K F H v (.lst o ds) A) : ∃ a vs B, v = .ref a ∧ H a = some (.lst vs) ∧ Reps K F H vs ds B := by
  cases r with
  | fz h1 h2 => exact ⟨_, _, [], rfl, hs _ _ h1, h2⟩
  | own h1 h2 => exact ⟨_, _, _, rfl, h1, h2⟩
theorem rep_tup {K : PySem.W.Frag} {F H : Hp} {v : V} {ds : List D} {A : List Addr} (r : Rep K F H v (.tup ds) A) : ∃ a vs, v = .ref a ∧ SqT K H a vs ∧ Reps K F H vs ds A := by
  cases r with
  | tup h1 h2 => exact ⟨_, _, rfl, SqT.of h1, h2⟩
theorem reps_nil_iff {K : PySem.W.Frag} {F H : Hp} {vs : List V} {ds : List D} {A : List Addr} (r : Reps K F H vs ds A) : vs = [] ↔ ds = [] := by
  cases r <;> simp
theorem opd_add {K : PySem.W.Frag} : OpD K gAdd (rAddA K) := by
  intro F H x y dx dy A B Q' Q hs rx ry w k
  unfold gAdd at w
  split at w
  · rw [rep_int rx, rep_int ry]
    exact .inl ⟨_, _, rfl, rfl, k.same w (.int _)⟩
  · rw [rep_str rx, rep_str ry]
    exact .inr (.inl ⟨_, _, rfl, rfl, le_line w.1, k.same w.2 (.str _)⟩)
  · obtain ⟨a, vs, A', rfl, h1, r1⟩ := rep_lst hs rx
    obtain ⟨b, ws, B', rfl, h2, r2⟩ := rep_lst hs ry
    have e1 := r1.clean w.1
    have e2 := r2.clean w.2.1
    subst e1 e2
    refine .inr (.inr (.inl ⟨a, b, vs, ws, rfl, rfl, h1, h2, by rw [r1.length, r2.length]; exact le_line w.2.2.1, k.lst w.2.2.2 (r1.app r2)⟩))
  · obtain ⟨a, vs, rfl, h1, r1⟩ := rep_tup rx
    obtain ⟨b, ws, rfl, h2, r2⟩ := rep_tup ry
    have e1 := r1.clean w.1
    have e2 := r2.clean w.2.1
    subst e1 e2
    refine .inr (.inr (.inr ⟨a, b, vs, ws, rfl, rfl, h1, h2, by rw [r1.length, r2.length]; exact le_line w.2.2.1, fun z => ?_, fun _ z => ?_, fun _ _ => k.tup w.2.2.2 (r1.app r2)⟩))
    · have := (reps_nil_iff r1).mp z
      subst this
      exact k.same w.2.2.2 ry
    · have := (reps_nil_iff r2).mp z
      subst this
      rw [List.append_nil] at w
      exact k.same w.2.2.2 rx
  · exact w.elim
def rIaddA : R2 := fun x y H Q => rI0 (fun i j => .int (i + j)) x y H Q ∨ rAddS x y H Q
theorem op_iaddA {X : Cx} : OpR X (inplaceOp .Add) rIaddA := iop_add.or iop_add_str
def gIadd : G2
  | .int i, .int j, Q => Q (.int (i + j))
  | .str x, .str y, Q => x.length + y.length ≤ 100000 ∧ Q (.str (x ++ y))
  | _, _, _ => False
theorem opd_iadd {K : PySem.W.Frag} : OpD K gIadd rIaddA := by
  intro F H x y dx dy A B Q' Q hs rx ry w k
  unfold gIadd at w
  split at w
  · rw [rep_int rx, rep_int ry]
    exact .inl ⟨_, _, rfl, rfl, k.same w (.int _)⟩
  · rw [rep_str rx, rep_str ry]
    exact .inr ⟨_, _, rfl, rfl, le_line w.1, k.same w.2 (.str _)⟩
  · exact w.elim

/-! ### ints -/
def gMinus : G2 := fun a b Q => gI (fun _ _ => True) (fun i j => .int (i - j)) a b Q
theorem opd_sub {K : PySem.W.Frag} : OpD K gMinus (rI0 fun i j => .int (i - j)) := opd_I0 (f := fun i j => .int (i - j)) fun _ _ => rfl
def CDivB (i j : Int) : Prop := 0 < j ∧ j ≤ 10 ^ 100
theorem nat_lt400 {j : Int} (h1 : 0 < j) (h2 : j ≤ 10 ^ 100) : j.natAbs < 2 ^ 400 := by
  have e : ((10 : Int) ^ 100) = (((10 : Nat) ^ 100 : Nat) : Int) := by decide +kernel
  have h4 : j.natAbs ≤ 10 ^ 100 := by
    rw [e] at h2
    have : (j.natAbs : Int) = j := by omega
    exact Int.ofNat_le.mp (by rw [this]; exact h2)
  exact Nat.lt_of_le_of_lt h4 (by decide +kernel)
theorem op_fdivB {X : Cx} : OpR X (binaryOp .FloorDiv) (rI CDivB fun i j => .int (i / j)) := fun pins s σ H x y v u Q I rx ry ⟨i, j, e1, e2, hc, q⟩ =>
  op_fdivW pins s σ H x y v u Q I rx ry ⟨i, j, e1, e2, wide_div (b := 400) hc.1 (nat_lt400 hc.1 hc.2) (by decide) (by decide), q⟩
def gFdiv : G2 := fun a b Q => gI CDivB (fun i j => .int (i / j)) a b Q
theorem opd_fdiv {K : PySem.W.Frag} : OpD K gFdiv (rI CDivB fun i j => .int (i / j)) := opd_I (f := fun i j => .int (i / j)) fun _ _ => rfl
def gMod : G2 := fun a b Q => gI (fun _ j => 0 < j) (fun i j => .int (i % j)) a b Q
theorem opd_mod {K : PySem.W.Frag} : OpD K gMod (rI (fun _ j => 0 < j) fun i j => .int (i % j)) := opd_I (f := fun i j => .int (i % j)) fun _ _ => rfl
def gPow : G2 := fun a b Q => gI CPow (fun i j => .int (i ^ j.toNat)) a b Q
theorem opd_pow {K : PySem.W.Frag} : OpD K gPow (rI CPow fun i j => .int (i ^ j.toNat)) := opd_I (f := fun i j => .int (i ^ j.toNat)) fun _ _ => rfl
/-- *: ints, a text or a list so often -/
def repl {α : Type} (n : Nat) (xs : List α) : List α := (List.replicate n xs).flatten
def repS (n : Nat) (z : Str) : Str := ⟨(repl n z.cps.toList).toArray⟩
def rRepS : R2 := fun x y H Q => ∃ (z : Str) (k : Int), x = .str z ∧ y = .int k ∧ -100000 ≤ k ∧ k ≤ 100000 ∧ z.length * k.toNat ≤ 100000 ∧ Q (.str (repS k.toNat z)) H
theorem fold_repl (a : Array Nat) : ∀ (n : Nat) (b : Array Nat), ((List.replicate n a).foldl (· ++ ·) b).toList = b.toList ++ repl n a.toList
  | 0, b => by simp [repl]
  | n + 1, b => by
    rw [List.replicate_succ, List.foldl_cons, fold_repl a n]
    simp [repl, List.replicate_succ]
theorem repl_len {α : Type} (n : Nat) (xs : List α) : (repl n xs).length = n * xs.length := by
  unfold repl
  induction n with
  | zero => simp
  | succ n ih => rw [List.replicate_succ, List.flatten_cons, List.length_append, ih, Nat.succ_mul]; omega
theorem op_mul_str {X : Cx} : OpR X (binaryOp .Mult) rRepS := by
  intro pins s σ H x y v u Q I rx ry h
  obtain ⟨z, k, rfl, rfl, h1, h2, hz, q⟩ := h
  obtain ⟨t, rfl⟩ := rx
  obtain ⟨t', rfl⟩ := ry
  have hl : z.cps.toList.length = z.length := by show _ = z.cps.size; simp
  refine P.mul_str ?_ (fun h3 h4 => ?_) (fun h3 h4 => ?_) ?_
  · rw [decide_eq_false (by omega), decide_eq_false (by omega)]; rfl
  · have hk : 0 < k := by omega
    have hm : (z.length : Int) * k ≤ 2 ^ 63 - 1 := by
      have e : ((z.length * k.toNat : Nat) : Int) = (z.length : Int) * k := by
        rw [Int.natCast_mul, Int.toNat_of_nonneg (by omega)]
      omega
    have := Int.le_ediv_of_mul_le hk hm
    omega
  · unfold Builtin.Str.tooLong
    exact decide_eq_false (by have : (100000 : Nat) ≤ sizeLine := by decide
                              omega)
  · split
    · rename_i h3
      refine ⟨by decide, .str (repS k.toNat z), H, I.tok _, ⟨s.toks, ?_⟩, q⟩
      rw [show k.toNat = 0 from by omega]; rfl
    · split
      · rename_i h3 h4
        have ez : repS k.toNat z = z := by
          rw [Bool.or_eq_true, beq_iff_eq, beq_iff_eq] at h4
          rcases h4 with h4 | h4
          · rw [h4]
            show (⟨(repl 1 z.cps.toList).toArray⟩ : Str) = z
            simp [repl]
          · have e0 : z.cps.toList = [] := by
              apply List.eq_nil_of_length_eq_zero
              rw [hl]; exact h4
            have e1 : repl k.toNat z.cps.toList = [] := by
              apply List.eq_nil_of_length_eq_zero
              rw [repl_len, e0]; rfl
            obtain ⟨⟨l⟩⟩ := z
            show (⟨(repl k.toNat _).toArray⟩ : Str) = _
            rw [e1]
            simp at e0
            subst e0; rfl
        exact ⟨.str (repS k.toNat z), H, I, ⟨t, by rw [ez]⟩, q⟩
      · refine ⟨?_, .str (repS k.toNat z), H, I.tok _, ⟨s.toks, ?_⟩, q⟩
        · have e1 : (List.replicate k.toNat z.cps).foldl (fun x1 x2 => x1 ++ x2) #[] = (repl k.toNat z.cps.toList).toArray := by
            apply Array.ext'
            rw [fold_repl]; simp
          rw [e1]
          show (repl k.toNat z.cps.toList).toArray.size ≤ sizeLine
          rw [List.size_toArray, repl_len, hl, Nat.mul_comm]
          exact le_line hz
        · have : (List.replicate k.toNat z.cps).foldl (· ++ ·) #[] = (repl k.toNat z.cps.toList).toArray := by
            apply Array.ext'
            rw [fold_repl]; simp
          rw [this]; rfl
def rMulA : R2 := fun x y H Q => rI CMul (fun i j => .int (i * j)) x y H Q ∨ rRep x y H Q ∨ rRepS x y H Q
theorem op_mulA {X : Cx} : OpR X (binaryOp .Mult) rMulA := op_mul.or (op_rep.or op_mul_str)
def gMul : G2
  | .int i, .int j, Q => CMul i j ∧ Q (.int (i * j))
  | .lst _ xs, .int k, Q => dirtys xs = false ∧ k ≤ 100000 ∧ -100000 ≤ k ∧ xs.length * k.toNat ≤ 100000 ∧ Q (.lst true (repl k.toNat xs))
  | .str z, .int k, Q => -100000 ≤ k ∧ k ≤ 100000 ∧ z.length * k.toNat ≤ 100000 ∧ Q (.str (repS k.toNat z))
  | _, _, _ => False
theorem reps_repl {K : PySem.W.Frag} {F H : Hp} {vs : List V} {ds : List D} (r : Reps K F H vs ds []) : ∀ n, Reps K F H (List.replicate n vs).flatten (repl n ds) []
  | 0 => .nil
  | n + 1 => by
    have := r.app (reps_repl r n)
    unfold repl
    rw [List.replicate_succ, List.replicate_succ, List.flatten_cons, List.flatten_cons]
    exact this
theorem opd_mul {K : PySem.W.Frag} : OpD K gMul rMulA := by
  intro F H x y dx dy A B Q' Q hs rx ry w k
  unfold gMul at w
  split at w
  · rw [rep_int rx, rep_int ry]
    exact .inl ⟨_, _, rfl, rfl, w.1, k.same w.2 (.int _)⟩
  · obtain ⟨a, vs, A', rfl, h1, r1⟩ := rep_lst hs rx
    rw [rep_int ry]
    have e1 := r1.clean w.1
    subst e1
    exact .inr (.inl ⟨a, _, vs, rfl, rfl, h1, by have := w.2.2.1; omega, by have := w.2.1; omega, by rw [r1.length]; exact le_line w.2.2.2.1, k.lst w.2.2.2.2 (reps_repl r1 _)⟩)
  · rw [rep_str rx, rep_int ry]
    exact .inr (.inr ⟨_, _, rfl, rfl, w.1, w.2.1, w.2.2.1, k.same w.2.2.2 (.str _)⟩)
  · exact w.elim
def gNeg : G1
  | .int i, Q => Q (.int (-i))
  | _, _ => False
theorem und_neg {K : PySem.W.Frag} : UnD K gNeg (rU fun i => .int (-i)) := by
  intro F H x dx A Q' Q hs rx w k
  unfold gNeg at w
  split at w
  · rw [rep_int rx]
    exact ⟨_, rfl, k.same w (.int _)⟩
  · exact w.elim

/-! ### comparisons -/
def gLt : G2 := fun a b Q => gI (fun _ _ => True) (fun i j => .bl (decide (i < j))) a b Q
def gLe : G2 := fun a b Q => gI (fun _ _ => True) (fun i j => .bl (decide (i ≤ j))) a b Q
def gGt : G2 := fun a b Q => gI (fun _ _ => True) (fun i j => .bl (decide (j < i))) a b Q
def gGe : G2 := fun a b Q => gI (fun _ _ => True) (fun i j => .bl (decide (j ≤ i))) a b Q
theorem opd_lt {K : PySem.W.Frag} : OpD K gLt (rI0 fun i j => .bl (decide (i < j))) := opd_I0 (f := fun i j => .bl (decide (i < j))) fun _ _ => rfl
theorem opd_le {K : PySem.W.Frag} : OpD K gLe (rI0 fun i j => .bl (decide (i ≤ j))) := opd_I0 (f := fun i j => .bl (decide (i ≤ j))) fun _ _ => rfl
theorem opd_gt {K : PySem.W.Frag} : OpD K gGt (rI0 fun i j => .bl (decide (j < i))) := opd_I0 (f := fun i j => .bl (decide (j < i))) fun _ _ => rfl
theorem opd_ge {K : PySem.W.Frag} : OpD K gGe (rI0 fun i j => .bl (decide (j ≤ i))) := opd_I0 (f := fun i j => .bl (decide (j ≤ i))) fun _ _ => rfl
mutual
/-- data as the library's == takes it -/
def py : D → PyData
  | .non => .none
  | .bl b => .bool b
  | .int i => .int i
  | .str x => .str x
  | .tup ds => .tuple (pys ds)
  | .lst _ ds => .list (pys ds)
  | .seq ds => .list (pys ds)
  | .ref _ => .none
  | .ty _ => .none
  | .dct _ _ _ => .none
  | .pin _ _ => .none
  | .obj _ _ _ _ => .none
def pys : List D → List PyData
  | [] => []
  | d :: ds => py d :: pys ds
end
mutual
def isPy : D → Bool
  | .tup ds => isPys ds
  | .lst _ ds => isPys ds
  | .seq ds => isPys ds
  | .ref _ => false
  | .ty _ => false
  | .dct _ _ _ => false
  | .pin _ _ => false
  | .obj _ _ _ _ => false
  | _ => true
def isPys : List D → Bool
  | [] => true
  | d :: ds => isPy d && isPys ds
end
mutual
theorem Rep.dp {K : PySem.W.Frag} {F H : Hp} (hs : Ex F H) : ∀ {v : V} {d : D} {A : List Addr}, Rep K F H v d A → isPy d = true → Dp K H v (py d)
  | _, _, _, .non, _ => by rw [py]; exact .non
  | _, _, _, .bl b, _ => by rw [py]; exact .bl b
  | _, _, _, .int i, _ => by rw [py]; exact .int i
  | _, _, _, .str x, _ => by rw [py]; exact .str x
  | _, _, _, .ref a, h => by simp [isPy] at h
  | _, _, _, .ty n, h => by simp [isPy] at h
  | _, _, _, .tup h r, hd => by rw [py]; exact .tup (SqT.of h) (Reps.dp hs r (by simpa [isPy] using hd))
  | _, _, _, .dF _ _ _, h => by simp [isPy] at h
  | _, _, _, .dO _ _ _, h => by simp [isPy] at h
  | _, _, _, .fz h r, hd => by rw [py]; exact .lst (.inl (.inl (hs _ _ h))) (Reps.dp hs r (by simpa [isPy] using hd))
  | _, _, _, .own h r, hd => by rw [py]; exact .lst (.inl (.inl h)) (Reps.dp hs r (by simpa [isPy] using hd))
  | _, _, _, .seq h r, hd => by rw [py]; exact .lst (Same.seq hs h) (Reps.dp hs r (by simpa [isPy] using hd))
theorem Reps.dp {K : PySem.W.Frag} {F H : Hp} (hs : Ex F H) : ∀ {vs : List V} {ds : List D} {A : List Addr}, Reps K F H vs ds A → isPys ds = true → DpAll K H vs (pys ds)
  | _, _, _, .nil, _ => by rw [pys]; exact .nil
  | _, _, _, .cons h r e, hd => by
    simp only [isPys, Bool.and_eq_true] at hd
    rw [pys]; exact .cons (Rep.dp hs h hd.1) (Reps.dp hs r hd.2)
end
def shD (d : D) : Bool := isPy d && SeqAt.shaped (py d)
def eqD (a b : D) : Bool := PyData.eqv (py a) (py b)
def rEqA (K : PySem.W.Frag) : R2 := fun x y H Q => rEq x y H Q ∨ rEqD K x y H Q
def rNeA (K : PySem.W.Frag) : R2 := fun x y H Q => rNe x y H Q ∨ rNeD K x y H Q
theorem op_eqA {X : Cx} (hu : X.A.units + 64 < cLine) : OpR X (compareOp .Eq) (rEqA X.K) := op_eq.or (op_eqD hu)
theorem op_neA {X : Cx} (hu : X.A.units + 64 < cLine) : OpR X (compareOp .NotEq) (rNeA X.K) := op_ne.or (op_neD hu)
/-- the scalars, whose == is plain; else the library's over data -/
def scEq : D → D → Option Bool
  | .int i, .int j => some (decide (i = j))
  | .str x, .str y => some (decide (x = y))
  | .bl a, .bl b => some (decide (a = b))
  | .non, .non => some true
  | .non, .int _ => some false
  | .int _, .non => some false
  | .non, .str _ => some false
  | .str _, .non => some false
  | _, _ => none
def eqK (o : Option Bool) (a b : D) (Q : Bool → Prop) : Prop := match o with
  | some c => Q c
  | none => shD a = true ∧ shD b = true ∧ Q (eqD a b)
def gEq : G2 := fun a b Q => eqK (scEq a b) a b fun c => Q (.bl c)
def gNe : G2 := fun a b Q => eqK (scEq a b) a b fun c => Q (.bl (!c))
theorem scEq_int {i j : Int} : scEq (.int i) (.int j) = some (decide (i = j)) := rfl
theorem scEq_str {x y : Str} : scEq (.str x) (.str y) = some (decide (x = y)) := rfl
theorem scEq_bl {x y : Bool} : scEq (.bl x) (.bl y) = some (decide (x = y)) := rfl
theorem scEq_nn : scEq .non .non = some true := rfl
theorem scEq_ni {i : Int} : scEq .non (.int i) = some false := rfl
theorem scEq_in {i : Int} : scEq (.int i) .non = some false := rfl
theorem scEq_ns {i : Str} : scEq .non (.str i) = some false := rfl
theorem scEq_sn {i : Str} : scEq (.str i) .non = some false := rfl
theorem scEq_lst {o : Bool} {ds : List D} {e : D} : scEq (.lst o ds) e = none := by cases e <;> rfl
theorem scEq_tup {ds : List D} {e : D} : scEq (.tup ds) e = none := by cases e <;> rfl
theorem scEq_seq {ds : List D} {e : D} : scEq (.seq ds) e = none := by cases e <;> rfl
theorem scEq_xlst {o : Bool} {ds : List D} {e : D} : scEq e (.lst o ds) = none := by cases e <;> rfl
theorem scEq_xtup {ds : List D} {e : D} : scEq e (.tup ds) = none := by cases e <;> rfl
theorem eqK_some {c : Bool} {a b : D} {Q : Bool → Prop} : eqK (some c) a b Q = Q c := rfl
theorem eqK_none {a b : D} {Q : Bool → Prop} : eqK none a b Q = (shD a = true ∧ shD b = true ∧ Q (eqD a b)) := rfl
theorem scEq_ok {a b : D} {c : Bool} (h : scEq a b = some c) : scalD a = true ∧ scalD b = true ∧ scal (toV a) (toV b) = true ∧ decide (toV a = toV b) = c := by
  unfold scEq at h
  split at h <;> first | cases h | skip
  all_goals first | (refine ⟨rfl, rfl, rfl, ?_⟩; simp [toV]) | skip
theorem opd_eq {K : PySem.W.Frag} : OpD K gEq (rEqA K) := by
  intro F H x y dx dy A B Q' Q hs rx ry w k
  unfold gEq eqK at w
  split at w
  · rename_i c e
    obtain ⟨h1, h2, h3, h4⟩ := scEq_ok e
    rw [rep_scal rx h1, rep_scal ry h2]
    exact .inl ⟨h3, by rw [h4]; exact k.same w (.bl c)⟩
  · obtain ⟨w1, w2, w3⟩ := w
    unfold shD at w1 w2
    rw [Bool.and_eq_true] at w1 w2
    exact .inr ⟨_, _, rx.dp hs w1.1, ry.dp hs w2.1, w1.2, w2.2, k.same w3 (.bl _)⟩
theorem opd_ne {K : PySem.W.Frag} : OpD K gNe (rNeA K) := by
  intro F H x y dx dy A B Q' Q hs rx ry w k
  unfold gNe eqK at w
  split at w
  · rename_i c e
    obtain ⟨h1, h2, h3, h4⟩ := scEq_ok e
    rw [rep_scal rx h1, rep_scal ry h2]
    exact .inl ⟨h3, by rw [h4]; exact k.same w (.bl (!c))⟩
  · obtain ⟨w1, w2, w3⟩ := w
    unfold shD at w1 w2
    rw [Bool.and_eq_true] at w1 w2
    exact .inr ⟨_, _, rx.dp hs w1.1, ry.dp hs w2.1, w1.2, w2.2, k.same w3 (.bl _)⟩
def isNon : D → Bool
  | .non => true
  | _ => false
def gIs : G2 := fun a b Q => match b with
  | .non => Q (.bl (isNon a))
  | _ => False
def gIsnt : G2 := fun a b Q => match b with
  | .non => Q (.bl (!isNon a))
  | _ => False
theorem rep_non {K : PySem.W.Frag} {F H : Hp} {v : V} {d : D} {A : List Addr} (r : Rep K F H v d A) : decide (v = .non) = isNon d := by
  cases r <;> simp [isNon]
theorem opd_is {K : PySem.W.Frag} : OpD K gIs (fun x y H Q => y = .non ∧ Q (.bl (decide (x = .non))) H) := by
  intro F H x y dx dy A B Q' Q hs rx ry w k
  unfold gIs at w
  split at w
  · cases ry
    exact ⟨rfl, by rw [rep_non rx]; exact k.same w (.bl _)⟩
  · exact w.elim
theorem opd_isnt {K : PySem.W.Frag} : OpD K gIsnt (fun x y H Q => y = .non ∧ Q (.bl (!decide (x = .non))) H) := by
  intro F H x y dx dy A B Q' Q hs rx ry w k
  unfold gIsnt at w
  split at w
  · cases ry
    exact ⟨rfl, by rw [rep_non rx]; exact k.same w (.bl _)⟩
  · exact w.elim

/-! ### in -/
def rInS (x y : V) (H : Hp) (Q : VK) : Prop := ∃ (c : Nat) (z : Str), x = .str ⟨#[c]⟩ ∧ y = .str z ∧ Q (.bl (decide (c ∈ z.cps.toList))) H
def rNotInS (x y : V) (H : Hp) (Q : VK) : Prop := ∃ (c : Nat) (z : Str), x = .str ⟨#[c]⟩ ∧ y = .str z ∧ Q (.bl (!decide (c ∈ z.cps.toList))) H
def occ (i j : Str) : Bool := !(Builtin.Str.occurrences j i 0 j.length 1).isEmpty
def rInT (x y : V) (H : Hp) (Q : VK) : Prop := ∃ i j, x = .str i ∧ y = .str j ∧ Q (.bl (!(Builtin.Str.occurrences j i 0 j.length 1).isEmpty)) H
def rNotInT (x y : V) (H : Hp) (Q : VK) : Prop := ∃ i j, x = .str i ∧ y = .str j ∧ Q (.bl (!(!(Builtin.Str.occurrences j i 0 j.length 1).isEmpty))) H
def rInA (K : PySem.W.Frag) : R2 := fun x y H Q => rInS x y H Q ∨ rInT x y H Q ∨ rIn K false x y H Q
def rNotInA (K : PySem.W.Frag) : R2 := fun x y H Q => rNotInS x y H Q ∨ rNotInT x y H Q ∨ rIn K true x y H Q
theorem op_inA {X : Cx} : OpR X (compareOp .In) (rInA X.K) := OpR.or (r := rInS) op_in_sign (OpR.or (r := rInT) op_in_str op_in_seq)
theorem op_notInA {X : Cx} : OpR X (compareOp .NotIn) (rNotInA X.K) := OpR.or (r := rNotInS) op_notIn_sign (OpR.or (r := rNotInT) op_notin_str op_notIn_seq)
/-- the place of one sign, else of a text, in a text -/
def inStr (x z : Str) : Bool := match x.cps.toList with
  | [c] => decide (c ∈ z.cps.toList)
  | _ => occ x z
def eqF : D → D → Bool
  | .non, .non => true
  | .bl a, .bl b => a == b
  | .bl a, .int b => (if a then 1 else 0) == b
  | .int a, .bl b => a == (if b then 1 else 0)
  | .int a, .int b => a == b
  | .str a, .str b => a == b
  | _, _ => false
def inF (x : D) (ds : List D) : Bool := ds.any fun y => eqF y x
def gIn : G2
  | .str x, .str z, Q => Q (.bl (inStr x z))
  | d, .lst _ ds, Q => scalD d = true ∧ ds.all scalD = true ∧ Q (.bl (inF d ds))
  | d, .seq ds, Q => scalD d = true ∧ ds.all scalD = true ∧ Q (.bl (inF d ds))
  | d, .tup ds, Q => scalD d = true ∧ ds.all scalD = true ∧ Q (.bl (inF d ds))
  | _, _, _ => False
def gNotIn : G2
  | .str x, .str z, Q => Q (.bl (!inStr x z))
  | d, .lst _ ds, Q => scalD d = true ∧ ds.all scalD = true ∧ Q (.bl (!inF d ds))
  | d, .seq ds, Q => scalD d = true ∧ ds.all scalD = true ∧ Q (.bl (!inF d ds))
  | d, .tup ds, Q => scalD d = true ∧ ds.all scalD = true ∧ Q (.bl (!inF d ds))
  | _, _, _ => False
theorem eqF_V : ∀ (a b : D), scalD a = true → scalD b = true → eqV (toV a) (toV b) = eqF a b := by
  intro a b h1 h2
  cases a <;> cases b <;> first | rfl | exact Bool.noConfusion h1 | exact Bool.noConfusion h2
theorem reps_scal {K : PySem.W.Frag} {F H : Hp} : ∀ {vs : List V} {ds : List D} {A : List Addr}, Reps K F H vs ds A → ds.all scalD = true → vs = ds.map toV
  | _, _, _, .nil, _ => rfl
  | _, _, _, .cons h r e, hd => by
    rw [List.all_cons, Bool.and_eq_true] at hd
    rw [rep_scal h hd.1, reps_scal r hd.2]; rfl
theorem flat_toV : ∀ {d : D}, scalD d = true → flatV (toV d) = true := by
  intro d h
  cases d <;> first | rfl | exact Bool.noConfusion h
theorem inF_V {d : D} {ds : List D} (hd : scalD d = true) (h : ds.all scalD = true) : inV (toV d) (ds.map toV) = inF d ds := by
  unfold inV inF
  rw [List.any_map]
  induction ds with
  | nil => rfl
  | cons e es ih =>
    rw [List.all_cons, Bool.and_eq_true] at h
    rw [List.any_cons, List.any_cons, ih h.2]
    show (eqV (toV e) (toV d) || _) = _
    rw [eqF_V e d h.1 hd]
theorem flats_toV {ds : List D} (h : ds.all scalD = true) : (ds.map toV).all flatV = true := by
  rw [List.all_map]
  rw [List.all_eq_true] at h ⊢
  exact fun x hx => flat_toV (h x hx)
theorem str_one {x : Str} {c : Nat} (h : x.cps.toList = [c]) : x = ⟨#[c]⟩ := by
  obtain ⟨a⟩ := x
  simp only at h
  congr 1
  exact Array.toList_inj.mp (by simpa using h)
theorem opd_in {K : PySem.W.Frag} : OpD K gIn (rInA K) := by
  intro F H x y dx dy A B Q' Q hs rx ry w k
  unfold gIn at w
  split at w
  · rename_i x' z
    rw [rep_str rx, rep_str ry]
    unfold inStr at w
    split at w
    · rename_i c e
      exact .inl ⟨c, z, by rw [str_one e], rfl, k.same w (.bl _)⟩
    · exact .inr (.inl ⟨x', z, rfl, rfl, k.same w (.bl _)⟩)
  · obtain ⟨a, vs, A', rfl, h1, r1⟩ := rep_lst hs ry
    rw [rep_scal rx w.1]
    refine .inr (.inr ⟨a, vs, rfl, .inl (.inl (.inl h1)), flat_toV w.1, ?_, ?_⟩)
    · rw [reps_scal r1 w.2.1]; exact flats_toV w.2.1
    · rw [reps_scal r1 w.2.1, inF_V w.1 w.2.1]; exact k.same w.2.2 (.bl _)
  · cases ry with
    | seq h1 r1 =>
      rename_i a vs
      rw [rep_scal rx w.1]
      refine .inr (.inr ⟨a, vs, rfl, .inl (Same.seq hs h1), flat_toV w.1, ?_, ?_⟩)
      · rw [reps_scal r1 w.2.1]; exact flats_toV w.2.1
      · rw [reps_scal r1 w.2.1, inF_V w.1 w.2.1]; exact k.same w.2.2 (.bl _)
  · obtain ⟨a, vs, rfl, h1, r1⟩ := rep_tup ry
    rw [rep_scal rx w.1]
    refine .inr (.inr ⟨a, vs, rfl, .inr h1, flat_toV w.1, ?_, ?_⟩)
    · rw [reps_scal r1 w.2.1]; exact flats_toV w.2.1
    · rw [reps_scal r1 w.2.1, inF_V w.1 w.2.1]; exact k.same w.2.2 (.bl _)
  · exact w.elim
theorem opd_notIn {K : PySem.W.Frag} : OpD K gNotIn (rNotInA K) := by
  intro F H x y dx dy A B Q' Q hs rx ry w k
  unfold gNotIn at w
  split at w
  · rename_i x' z
    rw [rep_str rx, rep_str ry]
    unfold inStr at w
    split at w
    · rename_i c e
      exact .inl ⟨c, z, by rw [str_one e], rfl, k.same w (.bl _)⟩
    · exact .inr (.inl ⟨x', z, rfl, rfl, k.same w (.bl _)⟩)
  · obtain ⟨a, vs, A', rfl, h1, r1⟩ := rep_lst hs ry
    rw [rep_scal rx w.1]
    refine .inr (.inr ⟨a, vs, rfl, .inl (.inl (.inl h1)), flat_toV w.1, ?_, ?_⟩)
    · rw [reps_scal r1 w.2.1]; exact flats_toV w.2.1
    · rw [reps_scal r1 w.2.1, inF_V w.1 w.2.1]; exact k.same w.2.2 (.bl _)
  · cases ry with
    | seq h1 r1 =>
      rename_i a vs
      rw [rep_scal rx w.1]
      refine .inr (.inr ⟨a, vs, rfl, .inl (Same.seq hs h1), flat_toV w.1, ?_, ?_⟩)
      · rw [reps_scal r1 w.2.1]; exact flats_toV w.2.1
      · rw [reps_scal r1 w.2.1, inF_V w.1 w.2.1]; exact k.same w.2.2 (.bl _)
  · obtain ⟨a, vs, rfl, h1, r1⟩ := rep_tup ry
    rw [rep_scal rx w.1]
    refine .inr (.inr ⟨a, vs, rfl, .inr h1, flat_toV w.1, ?_, ?_⟩)
    · rw [reps_scal r1 w.2.1]; exact flats_toV w.2.1
    · rw [reps_scal r1 w.2.1, inF_V w.1 w.2.1]; exact k.same w.2.2 (.bl _)
  · exact w.elim

/-! ### items, slices -/
def atK (o : Option D) (Q : D → Prop) : Prop := match o with
  | some d => dirty d = false ∧ Q d
  | none => False
def atC (o : Option Nat) (Q : D → Prop) : Prop := match o with
  | some c => Q (.str ⟨#[c]⟩)
  | none => False
theorem atK_some {d : D} {Q : D → Prop} : atK (some d) Q = (dirty d = false ∧ Q d) := rfl
theorem atC_some {c : Nat} {Q : D → Prop} : atC (some c) Q = Q (.str ⟨#[c]⟩) := rfl
theorem atK_of {o : Option D} {d : D} {Q : D → Prop} (h : o = some d) (hd : dirty d = false) (q : Q d) : atK o Q := by subst h; exact ⟨hd, q⟩
theorem atC_of {o : Option Nat} {c : Nat} {Q : D → Prop} (h : o = some c) (q : Q (.str ⟨#[c]⟩)) : atC o Q := by subst h; exact q
def gIx : G2
  | .lst _ ds, .int i, Q => atK (atI ds i) Q
  | .seq ds, .int i, Q => atK (atI ds i) Q
  | .tup ds, .int i, Q => atK (atI ds i) Q
  | .str z, .int i, Q => z.length ≤ 100000 ∧ atC (atI z.cps.toList i) Q
  | _, _, _ => False
section
variable {o : Bool} {ds : List D} {i : Int} {z : Str} {Q : D → Prop}
theorem gIx_lst : gIx (.lst o ds) (.int i) Q = atK (atI ds i) Q := rfl
theorem gIx_seq : gIx (.seq ds) (.int i) Q = atK (atI ds i) Q := rfl
theorem gIx_tup : gIx (.tup ds) (.int i) Q = atK (atI ds i) Q := rfl
theorem gIx_str : gIx (.str z) (.int i) Q = (z.length ≤ 100000 ∧ atC (atI z.cps.toList i) Q) := rfl
end
theorem atI_0 {α : Type} {x : α} {xs : List α} : atI (x :: xs) 0 = some x := atI_nat (j := 0) rfl
theorem atI_1 {α : Type} {x y : α} {xs : List α} : atI (x :: y :: xs) 1 = some y := atI_nat (j := 1) rfl
theorem atI_2 {α : Type} {x y z : α} {xs : List α} : atI (x :: y :: z :: xs) 2 = some z := atI_nat (j := 2) rfl
theorem atI_3 {α : Type} {x y z w : α} {xs : List α} : atI (x :: y :: z :: w :: xs) 3 = some w := atI_nat (j := 3) rfl
theorem reps_atI {K : PySem.W.Frag} {F H : Hp} {vs : List V} {ds : List D} {A : List Addr} {i : Int} {d : D} (r : Reps K F H vs ds A) (h : atI ds i = some d) : ∃ v B, atI vs i = some v ∧ Rep K F H v d B := by
  unfold atI at h ⊢
  rw [r.length]
  cases e : ixN ds.length i with
  | none => rw [e] at h; cases h
  | some j =>
    rw [e] at h
    obtain ⟨v, B, h1, h2, _⟩ := r.get (show ds[j]? = some d from h)
    exact ⟨v, B, h1, h2⟩
theorem atK_is {o : Option D} {Q : D → Prop} (h : atK o Q) : ∃ d, o = some d ∧ dirty d = false ∧ Q d := by
  unfold atK at h
  split at h
  · exact ⟨_, rfl, h⟩
  · exact h.elim
theorem atC_is {o : Option Nat} {Q : D → Prop} (h : atC o Q) : ∃ c, o = some c ∧ Q (.str ⟨#[c]⟩) := by
  unfold atC at h
  split at h
  · exact ⟨_, rfl, h⟩
  · exact h.elim
theorem opd_ix {K : PySem.W.Frag} : OpD K gIx (rIx K) := by
  intro F H x y dx dy A B Q' Q hs rx ry w k
  unfold gIx at w
  split at w
  · obtain ⟨a, vs, A', rfl, h1, r1⟩ := rep_lst hs rx
    rw [rep_int ry]
    obtain ⟨d, e, w1, w2⟩ := atK_is w
    obtain ⟨v, C, e2, r2⟩ := reps_atI r1 e
    have := r2.clean w1
    subst this
    exact .inl ⟨a, vs, _, v, rfl, rfl, .inl (.inl h1), e2, k.same w2 r2⟩
  · cases rx with
    | seq h1 r1 =>
      rename_i a vs
      rw [rep_int ry]
      obtain ⟨d, e, w1, w2⟩ := atK_is w
      obtain ⟨v, C, e2, r2⟩ := reps_atI r1 e
      have := r2.clean w1
      subst this
      exact .inl ⟨a, vs, _, v, rfl, rfl, Same.seq hs h1, e2, k.same w2 r2⟩
  · obtain ⟨a, vs, rfl, h1, r1⟩ := rep_tup rx
    rw [rep_int ry]
    obtain ⟨d, e, w1, w2⟩ := atK_is w
    obtain ⟨v, C, e2, r2⟩ := reps_atI r1 e
    have := r2.clean w1
    subst this
    exact .inr (.inl ⟨a, vs, _, v, rfl, rfl, h1, e2, k.same w2 r2⟩)
  · rw [rep_str rx, rep_int ry]
    obtain ⟨w1, w2⟩ := w
    obtain ⟨c, e, w3⟩ := atC_is w2
    exact .inr (.inr ⟨_, _, c, rfl, rfl, le_line w1, e, k.same w3 (.str _)⟩)
  · exact w.elim
theorem d_ix {X : Cx} {E : EX} {a b : Expr} {wa wb : WE} {pos : Pos} (ha : DE X E a wa) (hb : DE X E b wb) (hs : PlainIx b := by exact fun _ _ => rfl) : DE X E (.Subscript a b pos) (wOp gIx wa wb) := by
  obtain ⟨ta, pa, sa⟩ := ha.ex
  obtain ⟨tb, pb, sb⟩ := hb.ex
  exact ⟨_, pe_ix ix_seq pa pb hs, sim_op opd_ix sa sb⟩
abbrev WO := PX → Env → (Option Int → Env → Prop) → Prop
def SimO (K : PySem.W.Frag) (E : EX) (w : WO) (t : TO) : Prop := ∀ (px : PX) (F0 H0 F H : Hp) (σ : L2.St) (env : Env) (pv : List V) (pd : List D), LinkX K F0 H0 px E pv pd → Sta K F0 H0 F H σ env pv pd →
  ∀ (Q' : Option Int → Env → Prop) (Q : Option Int → Hp → Prop), w px env Q' → (∀ o env' F' H', Q' o env' → Ex F F' → Ex H H' → Sta K F0 H0 F' H' σ env' pv pd → Q o H') → t σ H Q
structure DO (X : Cx) (E : EX) (e : Option Expr) (w : WO) : Prop where
  ex : ∃ t, PO X e t ∧ SimO X.K E w t
def wNo : WO := fun _ env Q => Q none env
def wPart (w : WE) : WO := fun px env Q => w px env fun d _ env1 => match d with
  | .int i => Q (some i) env1
  | _ => False
theorem o_none {X : Cx} {E : EX} : DO X E none wNo := ⟨_, po_none, fun px F0 H0 F H σ env pv pd L S Q' Q w k => k none env F H w (Same.refl _) (Same.refl _) S⟩
theorem o_some {X : Cx} {E : EX} {e : Expr} {w : WE} (h : DE X E e w) : DO X E (some e) (wPart w) := by
  obtain ⟨t, p, s⟩ := h.ex
  refine ⟨_, po_some p, fun px F0 H0 F H σ env pv pd L S Q' Q w k => ?_⟩
  refine s px F0 H0 F H σ env pv pd L S _ _ w fun d b env1 v F1 H1 w2 eF eH R => ?_
  obtain ⟨⟨A, r⟩, S1⟩ := R.forget
  cases d with
  | int i => exact ⟨i, rep_int r, k (some i) env1 F1 H1 w2 eF eH S1⟩
  | _ => exact w2.elim
def cutD (xs : List D) (lo hi : Option Int) : List D := (xs.drop (HT.sIx xs.length 0 lo)).take (HT.sIx xs.length xs.length hi - HT.sIx xs.length 0 lo)
theorem reps_take {K : PySem.W.Frag} {F H : Hp} {vs : List V} {ds : List D} (r : Reps K F H vs ds []) (n m : Nat) : Reps K F H ((vs.drop n).take m) ((ds.drop n).take m) [] := by
  refine .of_clean (by simp [r.length]) fun i v d h1 h2 => ?_
  rw [List.getElem?_take] at h1 h2
  split at h1
  · rename_i hi
    rw [if_pos hi, List.getElem?_drop] at h2
    rw [List.getElem?_drop] at h1
    exact r.clean_get h1 h2
  · cases h1
theorem reps_cut {K : PySem.W.Frag} {F H : Hp} {vs : List V} {ds : List D} (r : Reps K F H vs ds []) (lo hi : Option Int) : Reps K F H (cutV vs lo hi) (cutD ds lo hi) [] := by
  unfold cutV cutD
  rw [r.length]
  exact reps_take r _ _
def gSl (d : D) (lo hi : Option Int) (Q : D → Prop) : Prop := match d with
  | .lst _ ds => dirtys ds = false ∧ Q (.lst true (cutD ds lo hi))
  | .seq ds => dirtys ds = false ∧ Q (.lst true (cutD ds lo hi))
  | .tup ds => dirtys ds = false ∧ Q (.tup (cutD ds lo hi))
  | .str z => z.length ≤ 100000 ∧ Q (.str (cutS z lo hi))
  | _ => False
def rSlS : V → Option Int → Option Int → Hp → VK → Prop := fun x lo hi H Q => ∃ z, x = .str z ∧ z.length ≤ sizeLine ∧ Q (.str (cutS z lo hi)) H
def rSl (K : PySem.W.Frag) : V → Option Int → Option Int → Hp → VK → Prop := fun x lo hi H Q => rSlL K x lo hi H Q ∨ rSlA K x lo hi H Q ∨ rSlS x lo hi H Q
theorem sl_all {X : Cx} : SlR X (rSl X.K) := sl_list.or (sl_tupA.or (r' := rSlS) sl_str)
theorem cutD_all {ds : List D} {lo hi : Option Int} (h : HT.sIx ds.length 0 lo = 0 ∧ HT.sIx ds.length ds.length hi = ds.length) : cutD ds lo hi = ds := by
  unfold cutD
  rw [h.1, h.2, List.drop_zero, Nat.sub_zero, List.take_length]
theorem gSl_ok {K : PySem.W.Frag} {F H : Hp} {x : V} {d : D} {A : List Addr} {lo hi : Option Int} {Q' : D → Prop} {Q : VK} (hs : Ex F H) (r : Rep K F H x d A) (w : gSl d lo hi Q') (k : Ends1 K F H Q' Q) : rSl K x lo hi H Q := by
  unfold gSl at w
  split at w
  · obtain ⟨a, vs, A', rfl, h1, r1⟩ := rep_lst hs r
    have := r1.clean w.1
    subst this
    exact .inl ⟨a, vs, rfl, .inl (.inl h1), k.lst w.2 (reps_cut r1 lo hi)⟩
  · cases r with
    | seq h1 r1 => exact .inl ⟨_, _, rfl, Same.seq hs h1, k.lst w.2 (reps_cut r1 lo hi)⟩
  · obtain ⟨a, vs, rfl, h1, r1⟩ := rep_tup r
    have := r1.clean w.1
    subst this
    refine .inr (.inl ⟨a, vs, rfl, h1, fun z => ?_, fun _ => k.tup w.2 (reps_cut r1 lo hi)⟩)
    rw [r1.length] at z
    have w2 := w.2
    rw [cutD_all z] at w2
    exact k.same w2 r
  · rw [rep_str r]
    exact .inr (.inr ⟨_, rfl, le_line w.1, k.same w.2 (.str _)⟩)
  · exact w.elim
def wSl (w : WE) (wl wh : WO) : WE := fun px env Q => w px env fun d _ env1 => wl px env1 fun lo env2 => wh px env2 fun hi env3 => gSl d lo hi fun e => Q e false env3
theorem d_sl {X : Cx} {E : EX} {e : Expr} {lo hi : Option Expr} {w : WE} {wl wh : WO} {p2 pos : Pos} (he : DE X E e w) (hl : DO X E lo wl) (hh : DO X E hi wh) : DE X E (.Subscript e (.Slice lo hi none p2) pos) (wSl w wl wh) := by
  obtain ⟨t, p, s⟩ := he.ex
  obtain ⟨t1, p1, s1⟩ := hl.ex
  obtain ⟨t2, p2, s2⟩ := hh.ex
  refine ⟨_, pe_slice sl_all p p1 p2, fun px F0 H0 F H σ env pv pd L S Q' Q w k => ?_⟩
  refine s px F0 H0 F H σ env pv pd L S _ _ w fun d b env1 x F1 H1 w1 eF1 eH1 R1 => ?_
  obtain ⟨⟨A, rx⟩, S1⟩ := R1.forget
  refine s1 px F0 H0 F1 H1 σ env1 pv pd L S1 _ _ w1 fun lo env2 F2 H2 w2 eF2 eH2 S2 => ?_
  refine s2 px F0 H0 F2 H2 σ env2 pv pd L S2 _ _ w2 fun hi env3 F3 H3 w3 eF3 eH3 S3 => ?_
  refine gSl_ok S3.sub ((rx.ex eF2 eH2).ex eF3 eH3) w3 fun d v H' C q e r hn hC => ?_
  exact k d false env3 v F3 H' q ((eF1.trans eF2).trans eF3) (((eH1.trans eH2).trans eH3).trans e) (S3.push e r hn hC)

/-! ### built-ins by name -/
abbrev GC := List D → (D → Prop) → Prop
def CallD (K : PySem.W.Frag) (g : GC) (r : List V → Hp → VK → Prop) : Prop := ∀ (F H : Hp) (xs : List V) (ds : List D) (A : List Addr) (Q' : D → Prop) (Q : VK), Ex F H → Reps K F H xs ds A → g ds Q' → Ends1 K F H Q' Q → r xs H Q
def wB (g : GC) (w : WA) : WE := fun px env Q => w px env fun ds env1 => g ds fun d => Q d false env1
theorem sim_B {K : PySem.W.Frag} {E : EX} {g : GC} {r : List V → Hp → VK → Prop} {w : WA} {t : TA} (h : CallD K g r) (ha : SimA K E w t) : Sim K E (wB g w) (tCB r t) := by
  intro px F0 H0 F H σ env pv pd L S Q' Q w1 k
  refine ha px F0 H0 F H σ env pv pd L S _ _ w1 fun ds env1 vs F1 H1 A w2 eF eH rs S1 => ?_
  refine h F1 H1 vs ds A _ _ S1.sub rs w2 fun d v H' C q e r hn hC => ?_
  exact k d false env1 v F1 H' q eF (eH.trans e) (S1.push e r hn hC)
section
variable {X : Cx} {E : EX} {g : GC} {r : List V → Hp → VK → Prop} {x : Str} {p pos : Pos} {e : Expr} {es : List Expr} {w : WA}
theorem d_B {id : String} (hc : CallR X (.builtin id) r) (hd : CallD X.K g r) (hg : Gl X x) (hm : X.mg x = none) (hv : bootBuiltins x = some (.builtin id)) (ha : DA X E (e :: es) w) (hn : x ≠ "__name__" := by decide) (hdb : (x == ("__debug__" : Str)) = false := by decide)
    (he : starEach (e :: es) X.env = (false, eval e X.env) :: starEach es X.env := by rfl) (hpl : (backTo pos (starEach es X.env)).any (·.1) = false := by rfl) : DE X E (.Call (.Name x p) (e :: es) [] pos) (wB g w) := by
  obtain ⟨t, pa, sa⟩ := ha.ex
  exact ⟨_, pe_callB hc hg hm hv pa hn hdb he hpl, sim_B hd sa⟩
theorem d_BT {T : String} (hc : CallR X (.type T) r) (hd : CallD X.K g r) (hg : Gl X x) (hm : X.mg x = none) (hv : bootBuiltins x = some (.type T)) (ha : DA X E (e :: es) w) (hn : x ≠ "__name__" := by decide) (hdb : (x == ("__debug__" : Str)) = false := by decide)
    (he : starEach (e :: es) X.env = (false, eval e X.env) :: starEach es X.env := by rfl) (hpl : (backTo pos (starEach es X.env)).any (·.1) = false := by rfl) : DE X E (.Call (.Name x p) (e :: es) [] pos) (wB g w) := by
  obtain ⟨t, pa, sa⟩ := ha.ex
  exact ⟨_, pe_callTy hc hg hm hv pa hn hdb he hpl, sim_B hd sa⟩
/-- a built-in type's name as a value -/
theorem d_ty {x : Str} {T : String} {pos : Pos} (hg : Gl X x) (hm : X.mg x = none) (hv : bootBuiltins x = some (.type T)) (hn : x ≠ "__name__" := by decide) (hd : (x == ("__debug__" : Str)) = false := by decide) : DE X E (.Name x pos) (wC (.ty T)) :=
  ⟨_, pe_bltn (v := .ty T) hg hm hv rfl hn hd, sim_c fun _ _ => .ty T⟩
end
theorem reps1 {K : PySem.W.Frag} {F H : Hp} {xs : List V} {d : D} {A : List Addr} (r : Reps K F H xs [d] A) : ∃ v, xs = [v] ∧ Rep K F H v d A := by
  cases r with
  | cons h r e => cases r; exact ⟨_, rfl, by rw [e, List.append_nil]; exact h⟩
theorem reps2 {K : PySem.W.Frag} {F H : Hp} {xs : List V} {d e : D} {A : List Addr} (r : Reps K F H xs [d, e] A) : ∃ v u B C, xs = [v, u] ∧ Rep K F H v d B ∧ Rep K F H u e C := by
  cases r with
  | cons h r e =>
    obtain ⟨u, rfl, r2⟩ := reps1 r
    exact ⟨_, u, _, _, rfl, h, r2⟩
def gLen : GC
  | [.str z], Q => z.length ≤ 100000 ∧ Q (.int (z.length : Int))
  | [.lst _ ds], Q => Q (.int (ds.length : Int))
  | [.seq ds], Q => Q (.int (ds.length : Int))
  | [.tup ds], Q => Q (.int (ds.length : Int))
  | _, _ => False
def rLenA (K : PySem.W.Frag) : List V → Hp → VK → Prop := fun xs H Q => ∃ x n, xs = [x] ∧ LenV K x H n ∧ Q (.int n) H
theorem cd_len {K : PySem.W.Frag} : CallD K gLen (rLenA K) := by
  intro F H xs ds A Q' Q hs r w k
  unfold gLen at w
  split at w
  · obtain ⟨v, rfl, r1⟩ := reps1 r
    rw [rep_str r1]
    exact ⟨_, _, rfl, ⟨le_line w.1, rfl⟩, k.same w.2 (.int _)⟩
  · obtain ⟨v, rfl, r1⟩ := reps1 r
    obtain ⟨a, vs, A', rfl, h1, r2⟩ := rep_lst hs r1
    exact ⟨_, _, rfl, .inl ⟨vs, .inl (.inl h1), rfl⟩, by rw [r2.length]; exact k.same w (.int _)⟩
  · obtain ⟨v, rfl, r1⟩ := reps1 r
    cases r1 with
    | seq h1 r2 => exact ⟨_, _, rfl, .inl ⟨_, Same.seq hs h1, rfl⟩, by rw [r2.length]; exact k.same w (.int _)⟩
  · obtain ⟨v, rfl, r1⟩ := reps1 r
    obtain ⟨a, vs, rfl, h1, r2⟩ := rep_tup r1
    exact ⟨_, _, rfl, .inr ⟨vs, h1, rfl⟩, by rw [r2.length]; exact k.same w (.int _)⟩
  · exact w.elim
def gMin2 : GC
  | [.int i, .int j], Q => Q (.int (if j < i then j else i))
  | _, _ => False
def gMax2 : GC
  | [.int i, .int j], Q => Q (.int (if j > i then j else i))
  | _, _ => False
theorem cd_min2 {K : PySem.W.Frag} : CallD K gMin2 (fun xs H Q => ∃ i j, xs = [.int i, .int j] ∧ Q (.int (if j < i then j else i)) H) := by
  intro F H xs ds A Q' Q hs r w k
  unfold gMin2 at w
  split at w
  · obtain ⟨v, u, B, C, rfl, r1, r2⟩ := reps2 r
    rw [rep_int r1, rep_int r2]
    exact ⟨_, _, rfl, k.same w (.int _)⟩
  · exact w.elim
theorem cd_max2 {K : PySem.W.Frag} : CallD K gMax2 (fun xs H Q => ∃ i j, xs = [.int i, .int j] ∧ Q (.int (if j > i then j else i)) H) := by
  intro F H xs ds A Q' Q hs r w k
  unfold gMax2 at w
  split at w
  · obtain ⟨v, u, B, C, rfl, r1, r2⟩ := reps2 r
    rw [rep_int r1, rep_int r2]
    exact ⟨_, _, rfl, k.same w (.int _)⟩
  · exact w.elim
def gInt : GC
  | [.int i], Q => Q (.int i)
  | [.bl b], Q => Q (.int (if b then 1 else 0))
  | _, _ => False
theorem cd_int {K : PySem.W.Frag} : CallD K gInt (fun xs H Q => (∃ i, xs = [.int i] ∧ Q (.int i) H) ∨ ∃ k, xs = [.bl k] ∧ Q (.int (if k then 1 else 0)) H) := by
  intro F H xs ds A Q' Q hs r w k
  unfold gInt at w
  split at w
  · obtain ⟨v, rfl, r1⟩ := reps1 r
    rw [rep_int r1]
    exact .inl ⟨_, rfl, k.same w (.int _)⟩
  · obtain ⟨v, rfl, r1⟩ := reps1 r
    rw [rep_bl r1]
    exact .inr ⟨_, rfl, k.same w (.int _)⟩
  · exact w.elim
/-- list(xs), tuple(xs) -/
def gList : GC
  | [.lst _ ds], Q => dirtys ds = false ∧ Q (.lst true ds)
  | [.seq ds], Q => dirtys ds = false ∧ Q (.lst true ds)
  | [.tup ds], Q => dirtys ds = false ∧ Q (.lst true ds)
  | _, _ => False
theorem cd_list {K : PySem.W.Frag} : CallD K gList (fun xs H Q => ∃ p ys, xs = [.ref p] ∧ (SqL K H p ys ∨ SqT K H p ys) ∧ ∀ l, H l = none → Q (.ref l) (upd H l (.lst ys))) := by
  intro F H xs ds A Q' Q hs r w k
  unfold gList at w
  split at w
  · obtain ⟨v, rfl, r1⟩ := reps1 r
    obtain ⟨a, vs, A', rfl, h1, r2⟩ := rep_lst hs r1
    have := r2.clean w.1
    subst this
    exact ⟨a, vs, rfl, .inl (.inl (.inl h1)), k.lst w.2 r2⟩
  · obtain ⟨v, rfl, r1⟩ := reps1 r
    cases r1 with
    | seq h1 r2 => exact ⟨_, _, rfl, .inl (Same.seq hs h1), k.lst w.2 r2⟩
  · obtain ⟨v, rfl, r1⟩ := reps1 r
    obtain ⟨a, vs, rfl, h1, r2⟩ := rep_tup r1
    have := r2.clean w.1
    subst this
    exact ⟨a, vs, rfl, .inr h1, k.lst w.2 r2⟩
  · exact w.elim
def gTuple : GC
  | [.lst _ ds], Q => dirtys ds = false ∧ Q (.tup ds)
  | [.seq ds], Q => dirtys ds = false ∧ Q (.tup ds)
  | [.tup ds], Q => dirtys ds = false ∧ Q (.tup ds)
  | _, _ => False
theorem cd_tuple {K : PySem.W.Frag} : CallD K gTuple (fun xs H Q => ∃ p ys, xs = [.ref p] ∧ ((SqL K H p ys ∧ ∀ l, H l = none → Q (.ref l) (upd H l (.tup ys))) ∨ (SqT K H p ys ∧ Q (.ref p) H))) := by
  intro F H xs ds A Q' Q hs r w k
  unfold gTuple at w
  split at w
  · obtain ⟨v, rfl, r1⟩ := reps1 r
    obtain ⟨a, vs, A', rfl, h1, r2⟩ := rep_lst hs r1
    have := r2.clean w.1
    subst this
    exact ⟨a, vs, rfl, .inl ⟨.inl (.inl h1), k.tup w.2 r2⟩⟩
  · obtain ⟨v, rfl, r1⟩ := reps1 r
    cases r1 with
    | seq h1 r2 => exact ⟨_, _, rfl, .inl ⟨Same.seq hs h1, k.tup w.2 r2⟩⟩
  · obtain ⟨v, rfl, r1⟩ := reps1 r
    have e := r1.clean (by simpa [dirty] using w.1)
    subst e
    obtain ⟨a, vs, rfl, h1, r2⟩ := rep_tup r1
    exact ⟨a, vs, rfl, .inr ⟨h1, k.same w.2 r1⟩⟩
  · exact w.elim
/-- isinstance(x, T), built-in types -/
def tyD : D → String
  | .non => "NoneType" | .bl _ => "bool" | .int _ => "int" | .str _ => "str" | .tup _ => "tuple" | .lst _ _ => "list" | .seq _ => "list" | .ref _ => "" | .ty _ => "" | .dct _ _ _ => "dict" | .pin _ _ => "list" | .obj _ _ _ _ => ""
def isiT : String → String → Option Bool
  | "int", "int" => some true | "int", "bool" => some false | "int", "str" => some false | "int", "list" => some false | "int", "tuple" => some false | "int", "dict" => some false
  | "bool", "int" => some true | "bool", "bool" => some true | "bool", "str" => some false | "bool", "list" => some false | "bool", "tuple" => some false | "bool", "dict" => some false
  | "str", "int" => some false | "str", "bool" => some false | "str", "str" => some true | "str", "list" => some false | "str", "tuple" => some false | "str", "dict" => some false
  | "list", "int" => some false | "list", "bool" => some false | "list", "str" => some false | "list", "list" => some true | "list", "tuple" => some false | "list", "dict" => some false
  | "tuple", "int" => some false | "tuple", "bool" => some false | "tuple", "str" => some false | "tuple", "list" => some false | "tuple", "tuple" => some true | "tuple", "dict" => some false
  | "dict", "int" => some false | "dict", "bool" => some false | "dict", "str" => some false | "dict", "list" => some false | "dict", "tuple" => some false | "dict", "dict" => some true
  | "NoneType", "int" => some false | "NoneType", "bool" => some false | "NoneType", "str" => some false | "NoneType", "list" => some false | "NoneType", "tuple" => some false | "NoneType", "dict" => some false
  | _, _ => none
theorem isiT_ok {a b : String} {c : Bool} (h : isiT a b = some c) : kitB a b = some c := by
  unfold isiT at h
  split at h <;> first | (cases h; decide +kernel) | cases h
theorem isiT_none (n : String) : isiT "" n = none := by simp [isiT]
def gIsi : GC
  | [d, .ty n], Q => match isiT (tyD d) n with
    | some b => Q (.bl b)
    | none => False
  | _, _ => False
theorem tyX_D {K : PySem.W.Frag} {F H : Hp} {v : V} {d : D} {A : List Addr} (hs : Ex F H) (r : Rep K F H v d A) (h : tyD d ≠ "") : TyX K H v (.type (tyD d)) := by
  cases r with
  | non => exact .base .non
  | bl b => exact .base (.bl b)
  | int i => exact .base (.int i)
  | str x => exact .base (.str x)
  | ref a => exact absurd rfl h
  | ty n => exact absurd rfl h
  | tup h1 _ => exact .base (.tup h1)
  | @dF _ _ kd _ h1 _ _ =>
    cases kd with
    | k ks => exact .base (.dK (hs _ _ h1))
    | t ks => exact .base (.dT (hs _ _ h1))
  | @dO _ _ kd _ _ h1 _ _ =>
    cases kd with
    | k ks => exact .base (.dK h1)
    | t ks => exact .base (.dT h1)
  | fz h1 _ => exact .base (.lst (hs _ _ h1))
  | own h1 _ => exact .base (.lst h1)
  | pin h1 _ => exact .base (.lst h1)
  | oF _ _ _ _ => exact absurd rfl h
  | oO _ _ _ _ => exact absurd rfl h
  | oP _ _ _ _ => exact absurd rfl h
  | seq h1 _ =>
    rcases h1 with (h1 | ⟨o, h1⟩) | ⟨o, its, n, h1, h2, _⟩
    · exact .base (.lst (hs _ _ h1))
    · exact .base (.frz (hs _ _ h1))
    · exact .kList h1 h2
theorem cd_isi {K : PySem.W.Frag} : CallD K gIsi (rIsi K) := by
  intro F H xs ds A Q' Q hs r w k
  unfold gIsi at w
  split at w
  · rename_i d n
    split at w
    · rename_i b e
      obtain ⟨v, u, B, C, rfl, r1, r2⟩ := reps2 r
      cases r2
      refine ⟨v, .ty n, _, _, b, rfl, .ty n, tyX_D hs r1 fun z => ?_, kit_ty (isiT_ok e), k.same w (.bl b)⟩
      rw [z] at e
      rw [isiT_none] at e
      cases e
    · exact w.elim
  · exact w.elim

/-! ### readings by rows -/
section
variable {i j : Int} {x z : Str} {o o2 : Bool} {ds es : List D} {d e : D} {Q : D → Prop} {C : Int → Int → Prop} {f : Int → Int → D} {lo hi : Option Int} {b c : Bool} {n : String}
theorem gI_int : gI C f (.int i) (.int j) Q = (C i j ∧ Q (f i j)) := rfl
theorem gAdd_int : gAdd (.int i) (.int j) Q = Q (.int (i + j)) := rfl
theorem gAdd_str : gAdd (.str x) (.str z) Q = (x.length + z.length ≤ 100000 ∧ Q (.str (x ++ z))) := rfl
theorem gAdd_lst : gAdd (.lst o ds) (.lst o2 es) Q = (dirtys ds = false ∧ dirtys es = false ∧ ds.length + es.length ≤ 100000 ∧ Q (.lst true (ds ++ es))) := rfl
theorem gAdd_tup : gAdd (.tup ds) (.tup es) Q = (dirtys ds = false ∧ dirtys es = false ∧ ds.length + es.length ≤ 100000 ∧ Q (.tup (ds ++ es))) := rfl
theorem gIadd_int : gIadd (.int i) (.int j) Q = Q (.int (i + j)) := rfl
theorem gIadd_str : gIadd (.str x) (.str z) Q = (x.length + z.length ≤ 100000 ∧ Q (.str (x ++ z))) := rfl
theorem gMinus_int : gMinus (.int i) (.int j) Q = Q (.int (i - j)) := by simp [gMinus, gI]
theorem gFdiv_int : gFdiv (.int i) (.int j) Q = (CDivB i j ∧ Q (.int (i / j))) := rfl
theorem gMod_int : gMod (.int i) (.int j) Q = (0 < j ∧ Q (.int (i % j))) := rfl
theorem gPow_int : gPow (.int i) (.int j) Q = (CPow i j ∧ Q (.int (i ^ j.toNat))) := rfl
theorem gMul_int : gMul (.int i) (.int j) Q = (CMul i j ∧ Q (.int (i * j))) := rfl
theorem gMul_lst : gMul (.lst o ds) (.int j) Q = (dirtys ds = false ∧ j ≤ 100000 ∧ -100000 ≤ j ∧ ds.length * j.toNat ≤ 100000 ∧ Q (.lst true (repl j.toNat ds))) := rfl
theorem gMul_str {z : Str} : gMul (.str z) (.int j) Q = (-100000 ≤ j ∧ j ≤ 100000 ∧ z.length * j.toNat ≤ 100000 ∧ Q (.str (repS j.toNat z))) := rfl
theorem gNeg_int : gNeg (.int i) Q = Q (.int (-i)) := rfl
theorem gLt_int : gLt (.int i) (.int j) Q = Q (.bl (decide (i < j))) := by simp [gLt, gI]
theorem gLe_int : gLe (.int i) (.int j) Q = Q (.bl (decide (i ≤ j))) := by simp [gLe, gI]
theorem gGt_int : gGt (.int i) (.int j) Q = Q (.bl (decide (j < i))) := by simp [gGt, gI]
theorem gGe_int : gGe (.int i) (.int j) Q = Q (.bl (decide (j ≤ i))) := by simp [gGe, gI]
theorem gIs_non : gIs d .non Q = Q (.bl (isNon d)) := rfl
theorem gIsnt_non : gIsnt d .non Q = Q (.bl (!isNon d)) := rfl
theorem gIn_str : gIn (.str x) (.str z) Q = Q (.bl (inStr x z)) := rfl
theorem gIn_lst : gIn d (.lst o ds) Q = (scalD d = true ∧ ds.all scalD = true ∧ Q (.bl (inF d ds))) := by cases d <;> rfl
theorem gIn_seq : gIn d (.seq ds) Q = (scalD d = true ∧ ds.all scalD = true ∧ Q (.bl (inF d ds))) := by cases d <;> rfl
theorem gIn_tup : gIn d (.tup ds) Q = (scalD d = true ∧ ds.all scalD = true ∧ Q (.bl (inF d ds))) := by cases d <;> rfl
theorem gNotIn_str : gNotIn (.str x) (.str z) Q = Q (.bl (!inStr x z)) := rfl
theorem gNotIn_lst : gNotIn d (.lst o ds) Q = (scalD d = true ∧ ds.all scalD = true ∧ Q (.bl (!inF d ds))) := by cases d <;> rfl
theorem gNotIn_seq : gNotIn d (.seq ds) Q = (scalD d = true ∧ ds.all scalD = true ∧ Q (.bl (!inF d ds))) := by cases d <;> rfl
theorem gNotIn_tup : gNotIn d (.tup ds) Q = (scalD d = true ∧ ds.all scalD = true ∧ Q (.bl (!inF d ds))) := by cases d <;> rfl
theorem gSl_lst : gSl (.lst o ds) lo hi Q = (dirtys ds = false ∧ Q (.lst true (cutD ds lo hi))) := rfl
theorem gSl_seq : gSl (.seq ds) lo hi Q = (dirtys ds = false ∧ Q (.lst true (cutD ds lo hi))) := rfl
theorem gSl_tup : gSl (.tup ds) lo hi Q = (dirtys ds = false ∧ Q (.tup (cutD ds lo hi))) := rfl
theorem gSl_str : gSl (.str x) lo hi Q = (x.length ≤ 100000 ∧ Q (.str (cutS x lo hi))) := rfl
theorem gLen_str : gLen [.str x] Q = (x.length ≤ 100000 ∧ Q (.int (x.length : Int))) := rfl
theorem gLen_lst : gLen [.lst o ds] Q = Q (.int (ds.length : Int)) := rfl
theorem gLen_seq : gLen [.seq ds] Q = Q (.int (ds.length : Int)) := rfl
theorem gLen_tup : gLen [.tup ds] Q = Q (.int (ds.length : Int)) := rfl
theorem gMin2_int : gMin2 [.int i, .int j] Q = Q (.int (if j < i then j else i)) := rfl
theorem gMax2_int : gMax2 [.int i, .int j] Q = Q (.int (if j > i then j else i)) := rfl
theorem gInt_int : gInt [.int i] Q = Q (.int i) := rfl
theorem gInt_bl : gInt [.bl b] Q = Q (.int (if b then 1 else 0)) := rfl
theorem gList_lst : gList [.lst o ds] Q = (dirtys ds = false ∧ Q (.lst true ds)) := rfl
theorem gList_seq : gList [.seq ds] Q = (dirtys ds = false ∧ Q (.lst true ds)) := rfl
theorem gList_tup : gList [.tup ds] Q = (dirtys ds = false ∧ Q (.lst true ds)) := rfl
theorem gTuple_lst : gTuple [.lst o ds] Q = (dirtys ds = false ∧ Q (.tup ds)) := rfl
theorem gTuple_seq : gTuple [.seq ds] Q = (dirtys ds = false ∧ Q (.tup ds)) := rfl
theorem gTuple_tup : gTuple [.tup ds] Q = (dirtys ds = false ∧ Q (.tup ds)) := rfl
def isiK (o : Option Bool) (Q : D → Prop) : Prop := match o with
  | some b => Q (.bl b)
  | none => False
theorem isiK_some : isiK (some b) Q = Q (.bl b) := rfl
theorem gIsi_ty : gIsi [d, .ty n] Q = isiK (isiT (tyD d) n) Q := rfl
end
end Tm

set_option Elab.async false
set_option linter.all false
set_option maxRecDepth 100000
set_option maxHeartbeats 1000000
namespace Tm
open PySem PySem.Spec PyProof.Rows L2

/-! ### lists changed in place -/
section
variable {K : PySem.W.Frag} {F0 H0 F F' H H' : Hp} {σ : L2.St} {env : Env} {pv : List V} {pd : List D}
theorem tup_upd {a : Addr} {vs vs' : List V} (h : H a = some (.lst vs)) : ∀ b xs, H b = some (.tup xs) → upd H a (.lst vs') b = some (.tup xs) := fun b xs q => by
  have ne : b ≠ a := fun z => by
    subst z
    rw [h] at q; cases q
  rw [upd_ne ne]; exact q
/-- the list in slot i, changed to clean items -/
theorem Sta.mutC {i : Nat} {ds : List D} (S : Sta K F0 H0 F H σ env pv pd) (h : env[i]? = some (some (.lst true ds))) : ∃ a vs A', σ[i]? = some (some (.ref a)) ∧ H a = some (.lst vs) ∧ Reps K F H vs ds A' ∧
    ∀ vs' ds', Reps K F H vs' ds' [] → Sta K F0 H0 F (upd H a (.lst vs')) σ (env.set i (some (.lst true ds'))) pv pd := by
  obtain ⟨A0, B, h1, h2, h3, h4⟩ := S.own
  obtain ⟨v, A1, Ai, A2, e2, e3, r, s, back⟩ := h1.at h
  subst e3
  cases r with
  | own hq rs =>
    rename_i a vs A'
    refine ⟨a, vs, A', e2, hq, rs, fun vs' ds' r' => ?_⟩
    have na : ∀ b ∈ A1 ++ A2 ++ B, b ≠ a := fun b hb z => by
      subst z
      rw [List.nodup_append] at h3
      have h5 := List.nodup_append.mp h3.1
      have h6 := List.nodup_append.mp h5.1
      simp only [List.mem_append] at hb
      rcases hb with (hb | hb) | hb
      · exact h6.2.2 b hb b List.mem_cons_self rfl
      · exact h5.2.2 b (by simp) b hb rfl
      · exact h3.2.2 b (by simp) b hb rfl
    have ha := h4 a (by simp)
    have hT := tup_upd (vs' := vs') hq
    have ex0 : ∀ {G : Hp}, G a = none → (∀ b o, G b = some o → H b = some o) → Ex G (upd H a (.lst vs')) := fun {G} hn hg b o q => by
      rw [upd_ne (ne_of_none q hn)]; exact hg b o q
    have ev : (σ.set i (some (V.ref a))) = σ := by
      obtain ⟨hi, hv⟩ := List.getElem?_eq_some_iff.mp e2
      rw [← hv]; exact List.set_getElem_self hi
    have rnew : Rep K F (upd H a (.lst vs')) (.ref a) (.lst true ds') [a] := .own upd_same (r'.mono (Same.refl _) hT fun b hb => absurd hb List.not_mem_nil)
    have sl := back (F' := F) (H' := upd H a (.lst vs')) (Same.refl _) hT (fun b hb => upd_ne (na b (List.mem_append_left _ hb))) rnew
    rw [ev] at sl
    refine ⟨S.exF, ex0 ha.2 S.exH, ex0 ha.1 S.sub, S.new, A1 ++ [a] ++ A2, B, sl, h2.mono (Same.refl _) hT fun b hb => upd_ne (na b (List.mem_append_right _ hb)), ?_, fun b hb => h4 b ?_⟩
    · refine List.Nodup.sublist ?_ h3
      refine List.Sublist.append (List.Sublist.append (List.Sublist.append (List.Sublist.refl _) ?_) (List.Sublist.refl _)) (List.Sublist.refl _)
      exact List.Sublist.cons₂ _ (List.nil_sublist _)
    · simp only [List.mem_append, List.mem_cons, List.mem_nil_iff, or_false] at hb ⊢
      rcases hb with ((hb | hb) | hb) | hb
      · exact .inl (.inl (.inl hb))
      · exact .inl (.inl (.inr (.inl hb)))
      · exact .inl (.inr hb)
      · exact .inr hb
/-- the newest value goes behind the items of the list in slot i -/
theorem Sta.mutA {i : Nat} {ds : List D} {y : V} {d : D} (S : Sta K F0 H0 F H σ env (y :: pv) (d :: pd)) (h : env[i]? = some (some (.lst true ds))) : ∃ a vs, σ[i]? = some (some (.ref a)) ∧ H a = some (.lst vs) ∧ vs.length = ds.length ∧
    Sta K F0 H0 F (upd H a (.lst (vs ++ [y]))) σ (env.set i (some (.lst true (ds ++ [d])))) pv pd := by
  obtain ⟨A0, B, h1, h2, h3, h4⟩ := S.own
  obtain ⟨v, A1, Ai, A2, e2, e3, r, s, back⟩ := h1.at h
  subst e3
  cases h2 with
  | cons ry rr e =>
    rename_i C B1
    subst e
    cases r with
    | own hq rs =>
      rename_i a vs A'
      refine ⟨a, vs, e2, hq, rs.length, ?_⟩
      have na : ∀ b ∈ A1 ++ A2 ++ (C ++ B1) ++ A', b ≠ a := fun b hb z => by
        subst z
        rw [List.nodup_append] at h3
        have h5 := List.nodup_append.mp h3.1
        have h6 := List.nodup_append.mp h5.1
        simp only [List.mem_append] at hb
        rcases hb with ((hb | hb) | hb) | hb
        · exact h6.2.2 b hb b List.mem_cons_self rfl
        · exact h5.2.2 b (by simp) b hb rfl
        · exact h3.2.2 b (by simp) b (by simpa using hb) rfl
        · exact (List.nodup_cons.mp h6.2.1).1 hb
      have ha := h4 a (by simp)
      have hT := tup_upd (vs' := vs ++ [y]) hq
      have ex0 : ∀ {G : Hp}, G a = none → (∀ b o, G b = some o → H b = some o) → Ex G (upd H a (.lst (vs ++ [y]))) := fun {G} hn hg b o q => by
        rw [upd_ne (ne_of_none q hn)]; exact hg b o q
      have ev : (σ.set i (some (V.ref a))) = σ := by
        obtain ⟨hi, hv⟩ := List.getElem?_eq_some_iff.mp e2
        rw [← hv]; exact List.set_getElem_self hi
      have r1 := rs.mono (Same.refl F) hT fun b hb => upd_ne (na b (by simp [hb]))
      have r2 := ry.mono (Same.refl F) hT fun b hb => upd_ne (na b (by simp [hb]))
      have rnew : Rep K F (upd H a (.lst (vs ++ [y]))) (.ref a) (.lst true (ds ++ [d])) (a :: (A' ++ C)) := .own upd_same (by
        have := r1.app (.cons r2 .nil rfl)
        rw [List.append_nil] at this
        exact this)
      have sl := back (F' := F) (H' := upd H a (.lst (vs ++ [y]))) (Same.refl _) hT (fun b hb => upd_ne (na b (by simp at hb ⊢; rcases hb with hb | hb <;> simp [hb]))) rnew
      rw [ev] at sl
      refine ⟨S.exF, ex0 ha.2 S.exH, ex0 ha.1 S.sub, S.new, A1 ++ (a :: (A' ++ C)) ++ A2, B1, sl, rr.mono (Same.refl _) hT fun b hb => upd_ne (na b (by simp [hb])), ?_, fun b hb => h4 b ?_⟩
      · refine (List.Perm.nodup_iff ?_).mp h3
        rw [show A1 ++ a :: A' ++ A2 ++ (C ++ B1) = (A1 ++ a :: A') ++ ((A2 ++ C) ++ B1) by simp [List.append_assoc], show A1 ++ a :: (A' ++ C) ++ A2 ++ B1 = (A1 ++ a :: A') ++ ((C ++ A2) ++ B1) by simp [List.append_assoc]]
        exact List.Perm.append_left _ (List.Perm.append_right _ List.perm_append_comm)
      · simp only [List.mem_append, List.mem_cons] at hb ⊢
        rcases hb with ((hb | hb | hb | hb) | hb) | hb
        · exact .inl (.inl (.inl hb))
        · exact .inl (.inl (.inr (.inl hb)))
        · exact .inl (.inl (.inr (.inr hb)))
        · exact .inr (.inl hb)
        · exact .inl (.inr hb)
        · exact .inr (.inr hb)
theorem Sta.lstAt {i : Nat} {o : Bool} {ds : List D} (S : Sta K F0 H0 F H σ env pv pd) (h : env[i]? = some (some (.lst o ds))) : ∃ a vs, σ[i]? = some (some (.ref a)) ∧ H a = some (.lst vs) := by
  obtain ⟨v, A, e, r⟩ := S.slot h
  obtain ⟨a, vs, _, rfl, h1, _⟩ := rep_lst S.sub r
  exact ⟨a, vs, e, h1⟩
end
def atLst (i : Nat) (env : Env) (Q : List D → Prop) : Prop := match env[i]? with
  | some (some (.lst true ds)) => Q ds
  | _ => False
theorem atLst_is {i : Nat} {env : Env} {Q : List D → Prop} (h : atLst i env Q) : ∃ ds, env[i]? = some (some (.lst true ds)) ∧ Q ds := by
  unfold atLst at h
  split at h
  · exact ⟨_, by assumption, h⟩
  · exact h.elim
/-- x.append(e) -/
def wApp (i : Nat) (w : WE) : WS := fun P px env => atLst i env fun _ => w px env fun d b env1 => (b = false ∨ dirty d = false) ∧ atLst i env1 fun ds => ds.length ≤ 100000 ∧ P.nx (env1.set i (some (.lst true (ds ++ [d]))))
theorem simS_app {K : PySem.W.Frag} {E : EX} {i : Nat} {w : WE} {t : TE} (h : Sim K E w t) : SimS K E (wApp i w) (tDrop (tBM K "list" rAppend (tVar i) (tCons t tNil))) := by
  intro px F0 H0 F H σ env pv pd L S P D w1 k
  obtain ⟨ds0, e0, w1⟩ := atLst_is w1
  obtain ⟨a0, vs0, ea, ha⟩ := S.lstAt e0
  refine ⟨.ref a0, ea, .inl ⟨rfl, vs0, .inl (.inl ha)⟩, ?_⟩
  refine h px F0 H0 F H σ env pv pd L S _ _ w1 fun d b env1 v F1 H1 w2 eF eH R => ?_
  obtain ⟨hb, w2⟩ := w2
  obtain ⟨ds, e1, hl, w3⟩ := atLst_is w2
  obtain ⟨a, vs, es, hq, hlen, S2⟩ := (R.owned hb).mutA e1
  rw [ea] at es; cases es
  exact ⟨a0, vs, v, rfl, rfl, hq, by rw [hlen]; exact lt_line hl, k.nx _ _ _ _ w3 S2⟩
/-- x.extend(e), clean items -/
def wExt (i : Nat) (w : WE) : WS := fun P px env => atLst i env fun _ => w px env fun d _ env1 => atLst i env1 fun ds => match d with
  | .lst _ es => dirtys ds = false ∧ dirtys es = false ∧ ds.length + es.length ≤ 100000 ∧ P.nx (env1.set i (some (.lst true (ds ++ es))))
  | _ => False
theorem simS_ext {K : PySem.W.Frag} {E : EX} {i : Nat} {w : WE} {t : TE} (h : Sim K E w t) : SimS K E (wExt i w) (tDrop (tBM K "list" rExtend (tVar i) (tCons t tNil))) := by
  intro px F0 H0 F H σ env pv pd L S P D w1 k
  obtain ⟨ds0, e0, w1⟩ := atLst_is w1
  obtain ⟨a0, vs0, ea, ha⟩ := S.lstAt e0
  refine ⟨.ref a0, ea, .inl ⟨rfl, vs0, .inl (.inl ha)⟩, ?_⟩
  refine h px F0 H0 F H σ env pv pd L S _ _ w1 fun d b env1 v F1 H1 w2 eF eH R => ?_
  obtain ⟨⟨A, r⟩, S1⟩ := R.forget
  obtain ⟨ds, e1, w2⟩ := atLst_is w2
  split at w2
  · rename_i o es
    obtain ⟨w4, w5, w6, w7⟩ := w2
    obtain ⟨b, ws, B, rfl, hb, rb⟩ := rep_lst S1.sub r
    obtain ⟨a, vs, A', es', hq, ra, back⟩ := S1.mutC e1
    rw [ea] at es'; cases es'
    have c1 := ra.clean w4
    have c2 := rb.clean w5
    subst c1 c2
    exact ⟨a0, b, vs, ws, rfl, rfl, hq, hb, by rw [ra.length, rb.length]; exact le_line w6, k.nx _ _ _ _ w7 (back _ _ (ra.app rb))⟩
  · exact w2.elim
/-- x.clear() -/
def wClear (i : Nat) : WS := fun P _ env => atLst i env fun _ => P.nx (env.set i (some (.lst true [])))
theorem simS_clear {K : PySem.W.Frag} {E : EX} {i : Nat} : SimS K E (wClear i) (tDrop (tBM0 K "list" rClear (tVar i))) := by
  intro px F0 H0 F H σ env pv pd L S P D w1 k
  obtain ⟨ds0, e0, w1⟩ := atLst_is w1
  obtain ⟨a, vs, A', es', hq, ra, back⟩ := S.mutC e0
  exact ⟨.ref a, es', .inl ⟨rfl, vs, .inl (.inl hq)⟩, a, vs, rfl, rfl, hq, k.nx _ _ _ _ w1 (back [] [] .nil)⟩
/-- t = x.pop() -/
def wPop (i : Nat) (g : WG) : WS := fun P _ env => atLst i env fun ds => match ds.getLast? with
  | some d => dirtys ds = false ∧ g d (env.set i (some (.lst true ds.dropLast))) P.nx
  | none => False
theorem simS_pop {K : PySem.W.Frag} {E : EX} {i : Nat} {g : WG} {t : TG} (hg : SimG K g t) : SimS K E (wPop i g) (tAsg (tBM0 K "list" rPop (tVar i)) t) := by
  intro px F0 H0 F H σ env pv pd L S P D w1 k
  obtain ⟨ds, e0, w1⟩ := atLst_is w1
  obtain ⟨a, vs, A', es', hq, ra, back⟩ := S.mutC e0
  refine ⟨.ref a, es', .inl ⟨rfl, vs, .inl (.inl hq)⟩, ?_⟩
  split at w1
  · rename_i d ed
    obtain ⟨cl, w1⟩ := w1
    have c1 := ra.clean cl
    subst c1
    rw [List.getLast?_eq_getElem?] at ed
    obtain ⟨y, B, ey, ry, _⟩ := ra.get ed
    have c2 := ry.clean (dirtys_false.mp cl d (List.mem_of_getElem? ed))
    subst c2
    have ey' : vs[vs.length - 1]? = some y := by rw [ra.length]; exact ey
    have rl : Reps K F H vs.dropLast ds.dropLast [] := by
      rw [List.dropLast_eq_take, List.dropLast_eq_take, ra.length]
      have := reps_take ra 0 (ds.length - 1)
      simpa using this
    have S2 := back _ _ rl
    have ry2 : Rep K F (upd H a (.lst vs.dropLast)) y d [] := ry.mono (Same.refl _) (tup_upd hq) fun b hb => absurd hb List.not_mem_nil
    exact ⟨a, vs, y, rfl, rfl, hq, ey', hg F0 H0 F _ σ _ pv pd y d (S2.clean ry2) _ _ w1 fun env2 σ2 w3 S3 => k.nx _ _ _ _ w3 S3⟩
  · exact w1.elim
/-- x[k] = e, clean items -/
def wSetL (i : Nat) (w wk : WE) : WS := fun P px env => w px env fun d b env1 => atLst i env1 fun _ => wk px env1 fun k _ env2 => atLst i env2 fun ds => match k with
  | .int z => match ixN ds.length z with
    | some j => dirty d = false ∧ dirtys ds = false ∧ P.nx (env2.set i (some (.lst true (ds.set j d))))
    | none => False
  | _ => False
theorem reps_set {K : PySem.W.Frag} {F H : Hp} {vs : List V} {ds : List D} {j : Nat} {v : V} {d : D} (r : Reps K F H vs ds []) (h : Rep K F H v d []) : Reps K F H (vs.set j v) (ds.set j d) [] := by
  refine .of_clean (by simp [r.length]) fun i v' d' h1 h2 => ?_
  rw [List.getElem?_set] at h1 h2
  rw [r.length] at h1
  split at h1
  · rename_i e
    rw [if_pos e] at h2
    split at h1
    · rename_i hlt
      rw [if_pos hlt] at h2
      cases h1; cases h2; exact h
    · cases h1
  · rename_i e
    rw [if_neg e] at h2
    exact r.clean_get h1 h2
theorem simS_setL {K : PySem.W.Frag} {E : EX} {i : Nat} {w wk : WE} {t tk : TE} (h : Sim K E w t) (hk : Sim K E wk tk) : SimS K E (wSetL i w wk) (tAsg t (L2.gSub (tVar i) tk rSetL)) := by
  intro px F0 H0 F H σ env pv pd L S P D w1 k
  refine h px F0 H0 F H σ env pv pd L S _ _ w1 fun d b env1 v F1 H1 w2 eF eH R => ?_
  obtain ⟨⟨A, r⟩, S1⟩ := R.forget
  obtain ⟨ds0, e0, w2⟩ := atLst_is w2
  obtain ⟨a0, vs0, ea, ha⟩ := S1.lstAt e0
  refine ⟨.ref a0, ea, ?_⟩
  refine hk px F0 H0 F1 H1 σ env1 pv pd L S1 _ _ w2 fun kk bk env2 kv F2 H2 w3 eF2 eH2 R2 => ?_
  obtain ⟨⟨A2, rk⟩, S2⟩ := R2.forget
  obtain ⟨ds, e1, w3⟩ := atLst_is w3
  cases kk with
  | int z =>
    dsimp only at w3
    split at w3
    · rename_i j ej
      obtain ⟨w4, w5, w6⟩ := w3
      obtain ⟨a, vs, A', es', hq, ra, back⟩ := S2.mutC e1
      rw [ea] at es'; cases es'
      have c1 := ra.clean w5
      subst c1
      have c2 := r.clean w4
      subst c2
      rw [rep_int rk]
      exact ⟨a0, vs, z, j, rfl, rfl, hq, by rw [ra.length]; exact ej, k.nx _ _ _ _ w6 (back _ _ (reps_set ra (r.ex eF2 eH2)))⟩
    · exact w3.elim
  | _ => exact w3.elim
/-- x.insert(k, e), clean items -/
def wIns (i : Nat) (wk w : WE) : WS := fun P px env => atLst i env fun _ => wk px env fun k _ env1 => w px env1 fun d _ env2 => atLst i env2 fun ds => match k with
  | .int z => 0 ≤ z ∧ z < 2 ^ 63 ∧ dirty d = false ∧ dirtys ds = false ∧ ds.length ≤ 100000 ∧ P.nx (env2.set i (some (.lst true (ds.take z.toNat ++ [d] ++ ds.drop z.toNat))))
  | _ => False
def rInsert : V → List V → Hp → VK → Prop := fun x vs H Q => ∃ (l : Addr) (xs : List V) (i : Int) (y : V), x = .ref l ∧ vs = [.int i, y] ∧ H l = some (.lst xs) ∧ xs.length < sizeLine ∧ 0 ≤ i ∧ i < 2 ^ 63 ∧
    Q .non (upd H l (.lst (xs.take i.toNat ++ [y] ++ xs.drop i.toNat)))
theorem simS_ins {K : PySem.W.Frag} {E : EX} {i : Nat} {w wk : WE} {t tk : TE} (h : Sim K E w t) (hk : Sim K E wk tk) : SimS K E (wIns i wk w) (tDrop (tBM K "list" rInsert (tVar i) (tCons tk (tCons t tNil)))) := by
  intro px F0 H0 F H σ env pv pd L S P D w1 k
  obtain ⟨ds0, e0, w1⟩ := atLst_is w1
  obtain ⟨a0, vs0, ea, ha⟩ := S.lstAt e0
  refine ⟨.ref a0, ea, .inl ⟨rfl, vs0, .inl (.inl ha)⟩, ?_⟩
  refine hk px F0 H0 F H σ env pv pd L S _ _ w1 fun kk bk env1 kv F1 H1 w2 eF eH R => ?_
  obtain ⟨⟨A1, rk⟩, S1⟩ := R.forget
  refine h px F0 H0 F1 H1 σ env1 pv pd L S1 _ _ w2 fun d b env2 v F2 H2 w3 eF2 eH2 R2 => ?_
  obtain ⟨⟨A2, r⟩, S2⟩ := R2.forget
  obtain ⟨ds, e1, w3⟩ := atLst_is w3
  cases kk with
  | int z =>
    obtain ⟨z0, z1, w4, w5, w6, w7⟩ := w3
    obtain ⟨a, vs, A', es', hq, ra, back⟩ := S2.mutC e1
    rw [ea] at es'; cases es'
    have c1 := ra.clean w5
    subst c1
    have c2 := r.clean w4
    subst c2
    rw [rep_int rk]
    refine ⟨a0, vs, z, v, rfl, rfl, hq, by rw [ra.length]; exact lt_line w6, z0, z1, k.nx _ _ _ _ w7 (back _ _ ?_)⟩
    have t1 := reps_take ra 0 z.toNat
    rw [List.drop_zero, List.drop_zero] at t1
    have t2 : Reps K F2 H2 (vs.drop z.toNat) (ds.drop z.toNat) [] := by
      have := reps_take ra z.toNat (ds.length)
      rwa [List.take_of_length_le (by simp [ra.length]), List.take_of_length_le (by simp)] at this
    exact (t1.app (.cons r .nil rfl)).app t2
  | _ => exact w3.elim
section
variable {X : Cx} {E : EX} {e k : Expr} {w wk : WE} {pos apos cpos npos : Pos} {i : Nat} {x : Str}
theorem s_app (hN : X.N[i]? = some x := by rfl) (hv : Vis X.env.scope x := by first | exact Or.inl rfl | exact Or.inr (Or.inl rfl) | exact Or.inr (Or.inr rfl)) (h : DE X E e w) (hd : (x == ("__debug__" : Str)) = false := by decide) (hcd : (x == ("__classdict__" : Str)) = false := by decide)
    (hbase : attributeBase (.Name x npos) "append" X.env (eval (.Name x npos) X.env) = eval (.Name x npos) X.env := by rfl)
    (hfew : ((backTo cpos (starEach [e] X.env)).all (fun x => !x.1) && (backToKw cpos (keywordEach [] X.env)).all (fun x => x.1.isSome) && decide ([e].length + ([] : List Keyword).length + (if ([] : List Keyword).isEmpty then 0 else 1) < 30)) = true := by rfl)
    (hline : (apos.endLine == cpos.line) = true := by rfl) (hs : starEach [e] X.env = (false, eval e X.env) :: starEach [] X.env := by rfl) (hplain : (backTo cpos (starEach [] X.env)).any (·.1) = false := by rfl) (hsw : swapsWith (.Call (.Attribute (.Name x npos) "append" apos) [e] [] cpos) none pos.line X.env = pure false := by rfl) :
    DS X E (.Expr (.Call (.Attribute (.Name x npos) "append" apos) [e] [] cpos) pos) (wApp i w) := by
  obtain ⟨t, p, s⟩ := h.ex
  exact ⟨_, ps_expr (pe_bm PySem.F.plainAttrs_list PySem.F.slot_list_append PySem.F.type_list_append mt_append (pe_var hN hv hd hcd) (pa_cons p pa_nil hs) hbase hfew hline hs hplain) hsw, simS_app s⟩
theorem s_ext (hN : X.N[i]? = some x := by rfl) (hv : Vis X.env.scope x := by first | exact Or.inl rfl | exact Or.inr (Or.inl rfl) | exact Or.inr (Or.inr rfl)) (h : DE X E e w) (hd : (x == ("__debug__" : Str)) = false := by decide) (hcd : (x == ("__classdict__" : Str)) = false := by decide)
    (hbase : attributeBase (.Name x npos) "extend" X.env (eval (.Name x npos) X.env) = eval (.Name x npos) X.env := by rfl)
    (hfew : ((backTo cpos (starEach [e] X.env)).all (fun x => !x.1) && (backToKw cpos (keywordEach [] X.env)).all (fun x => x.1.isSome) && decide ([e].length + ([] : List Keyword).length + (if ([] : List Keyword).isEmpty then 0 else 1) < 30)) = true := by rfl)
    (hline : (apos.endLine == cpos.line) = true := by rfl) (hs : starEach [e] X.env = (false, eval e X.env) :: starEach [] X.env := by rfl) (hplain : (backTo cpos (starEach [] X.env)).any (·.1) = false := by rfl) (hsw : swapsWith (.Call (.Attribute (.Name x npos) "extend" apos) [e] [] cpos) none pos.line X.env = pure false := by rfl) :
    DS X E (.Expr (.Call (.Attribute (.Name x npos) "extend" apos) [e] [] cpos) pos) (wExt i w) := by
  obtain ⟨t, p, s⟩ := h.ex
  exact ⟨_, ps_expr (pe_bm PySem.F.plainAttrs_list PySem.F.slot_list_extend PySem.F.type_list_extend mt_extend (pe_var hN hv hd hcd) (pa_cons p pa_nil hs) hbase hfew hline hs hplain) hsw, simS_ext s⟩
theorem s_ins (hN : X.N[i]? = some x := by rfl) (hv : Vis X.env.scope x := by first | exact Or.inl rfl | exact Or.inr (Or.inl rfl) | exact Or.inr (Or.inr rfl)) (hk : DE X E k wk) (h : DE X E e w) (hd : (x == ("__debug__" : Str)) = false := by decide) (hcd : (x == ("__classdict__" : Str)) = false := by decide)
    (hbase : attributeBase (.Name x npos) "insert" X.env (eval (.Name x npos) X.env) = eval (.Name x npos) X.env := by rfl)
    (hfew : ((backTo cpos (starEach [k, e] X.env)).all (fun x => !x.1) && (backToKw cpos (keywordEach [] X.env)).all (fun x => x.1.isSome) && decide ([k, e].length + ([] : List Keyword).length + (if ([] : List Keyword).isEmpty then 0 else 1) < 30)) = true := by rfl)
    (hline : (apos.endLine == cpos.line) = true := by rfl) (hs : starEach [k, e] X.env = (false, eval k X.env) :: starEach [e] X.env := by rfl) (hs2 : starEach [e] X.env = (false, eval e X.env) :: starEach [] X.env := by rfl) (hplain : (backTo cpos (starEach [e] X.env)).any (·.1) = false := by rfl) (hsw : swapsWith (.Call (.Attribute (.Name x npos) "insert" apos) [k, e] [] cpos) none pos.line X.env = pure false := by rfl) :
    DS X E (.Expr (.Call (.Attribute (.Name x npos) "insert" apos) [k, e] [] cpos) pos) (wIns i wk w) := by
  obtain ⟨t, p, s⟩ := h.ex
  obtain ⟨tk, pk, sk⟩ := hk.ex
  exact ⟨_, ps_expr (pe_bm PySem.F.plainAttrs_list PySem.F.slot_list_insert PySem.F.type_list_insert (r := rInsert) mt_insert (pe_var hN hv hd hcd) (pa_cons pk (pa_cons p pa_nil hs2) hs) hbase hfew hline hs hplain) hsw, simS_ins s sk⟩
theorem s_clear (hN : X.N[i]? = some x := by rfl) (hv : Vis X.env.scope x := by first | exact Or.inl rfl | exact Or.inr (Or.inl rfl) | exact Or.inr (Or.inr rfl)) (hd : (x == ("__debug__" : Str)) = false := by decide) (hcd : (x == ("__classdict__" : Str)) = false := by decide)
    (hbase : attributeBase (.Name x npos) "clear" X.env (eval (.Name x npos) X.env) = eval (.Name x npos) X.env := by rfl) (hline : (apos.endLine == cpos.line) = true := by rfl) (hsw : swapsWith (.Call (.Attribute (.Name x npos) "clear" apos) [] [] cpos) none pos.line X.env = pure false := by rfl) :
    DS X E (.Expr (.Call (.Attribute (.Name x npos) "clear" apos) [] [] cpos) pos) (wClear i) :=
  ⟨_, ps_expr (pe_bm0 PySem.F.plainAttrs_list PySem.F.slot_list_clear PySem.F.type_list_clear mt_clear (pe_var hN hv hd hcd) hbase hline) hsw, simS_clear⟩
theorem s_pop {tg : Expr} {g : WG} (hN : X.N[i]? = some x := by rfl) (hv : Vis X.env.scope x := by first | exact Or.inl rfl | exact Or.inr (Or.inl rfl) | exact Or.inr (Or.inr rfl)) (hg : DG X tg g) (hd : (x == ("__debug__" : Str)) = false := by decide) (hcd : (x == ("__classdict__" : Str)) = false := by decide)
    (hbase : attributeBase (.Name x npos) "pop" X.env (eval (.Name x npos) X.env) = eval (.Name x npos) X.env := by rfl) (hline : (apos.endLine == cpos.line) = true := by rfl)
    (hs : swapsWithSole [tg] (.Call (.Attribute (.Name x npos) "pop" apos) [] [] cpos) pos.line X.env = pure false := by rfl) (hw : swappedStores [tg] (.Call (.Attribute (.Name x npos) "pop" apos) [] [] cpos) X.env = pure none := by rfl) (h1 : (assignEach [tg] X.env).map (·.2) = [assign tg X.env] := by rfl) :
    DS X E (.Assign [tg] (.Call (.Attribute (.Name x npos) "pop" apos) [] [] cpos) pos) (wPop i g) := by
  obtain ⟨t, p, s⟩ := hg.ex
  exact ⟨_, ps_asg (pe_bm0 PySem.F.plainAttrs_list PySem.F.slot_list_pop PySem.F.type_list_pop mt_pop (pe_var hN hv hd hcd) hbase hline) p hs hw h1, simS_pop s⟩
theorem s_setL {spos : Pos} (hN : X.N[i]? = some x := by rfl) (hv : Vis X.env.scope x := by first | exact Or.inl rfl | exact Or.inr (Or.inl rfl) | exact Or.inr (Or.inr rfl)) (hk : DE X E k wk) (h : DE X E e w) (hd : (x == ("__debug__" : Str)) = false := by decide) (hcd : (x == ("__classdict__" : Str)) = false := by decide)
    (ha : ∀ v, assign (.Subscript (.Name x npos) k spos) X.env v = (do
      let ov ← holding [v] (eval (.Name x npos) X.env)
      let iv ← holding [v, ov] (eval k X.env)
      standAt spos
      holding [v, ov, iv] (setItem ov iv v)
      release [v, ov, iv] []) := by intro _; rfl)
    (hs : swapsWithSole [.Subscript (.Name x npos) k spos] e pos.line X.env = pure false := by rfl) (hw : swappedStores [.Subscript (.Name x npos) k spos] e X.env = pure none := by rfl)
    (h1 : (assignEach [.Subscript (.Name x npos) k spos] X.env).map (·.2) = [assign (.Subscript (.Name x npos) k spos) X.env] := by rfl) :
    DS X E (.Assign [.Subscript (.Name x npos) k spos] e pos) (wSetL i w wk) := by
  obtain ⟨t, p, s⟩ := h.ex
  obtain ⟨tk, pk, sk⟩ := hk.ex
  exact ⟨_, ps_asg p (pg_sub (pe_var hN hv hd hcd) pk set_list ha) hs hw h1, simS_setL s sk⟩
end
end Tm

set_option Elab.async false
set_option linter.all false
set_option maxRecDepth 100000
set_option maxHeartbeats 1000000
namespace Tm
open PySem PySem.Spec PyProof.Rows L2

/-! ### list comprehensions -/
def envF : Env → Env
  | [] => []
  | some d :: r => some (fz d) :: envF r
  | none :: r => none :: envF r
def wipeE (env : Env) : List Nat → Env
  | [] => env
  | v :: vs => (wipeE env vs).set v none
def lcW (g : WG) (tt : WT) (te : WE) (env : Env) (cl : Bool) : List D → List D → (List D → Prop) → Prop
  | [], acc, Q => Q acc
  | d :: ds, acc, Q => g d env fun env2 => tt px0 env2 fun b env3 => if b = true then te px0 env3 fun y by_ _ => (by_ = false ∨ dirty y = false) ∧ (cl = true ∨ selfc y = true) ∧ acc.length ≤ 100000 ∧ lcW g tt te env cl ds (acc ++ [y]) Q else lcW g tt te env cl ds acc Q
def cleanE : Env → Bool
  | [] => true
  | some d :: r => !dirty d && cleanE r
  | none :: r => cleanE r
def wLc (wi : WI) (g : WG) (tt : WT) (te : WE) (vs : List Nat) : WE := fun px env Q => wi px env fun ds env1 => lcW g tt te (wipeE (envF env1) vs) (cleanE env1) ds [] fun acc => Q (.lst true acc) false env1
def Keep (vs : List Nat) (g : TG) : Prop := ∀ (v : V) (σ : L2.St) (H : Hp) (Q : L2.St → Hp → Prop), g v σ H Q → g v σ H fun σ' H' => Q σ' H' ∧ wipe σ' vs = wipe σ vs
def KeepS (vs : List Nat) (g : TGs) : Prop := ∀ (v : List V) (σ : L2.St) (H : Hp) (Q : L2.St → Hp → Prop), g v σ H Q → g v σ H fun σ' H' => Q σ' H' ∧ wipe σ' vs = wipe σ vs
theorem wipe_none {σ : L2.St} {i : Nat} : ∀ {vs : List Nat}, i ∈ vs → ∀ x, (wipe σ vs)[i]? = some x → x = none
  | v :: vs, h, x, e => by
    unfold wipe at e
    by_cases hi : v = i
    · subst hi
      by_cases hl : v < (wipe σ vs).length
      · rw [List.getElem?_set_self hl] at e; cases e; rfl
      · rw [List.getElem?_eq_none (by simpa using hl)] at e; cases e
    · rw [List.getElem?_set_ne hi] at e
      rcases List.mem_cons.mp h with h | h
      · exact absurd h.symm hi
      · exact wipe_none h x e
theorem wipe_set {σ : L2.St} {i : Nat} {x : Option V} : ∀ {vs : List Nat}, i ∈ vs → wipe (σ.set i x) vs = wipe σ vs := fun {vs} h => by
  apply List.ext_getElem?
  intro j
  by_cases hj : j ∈ vs
  · cases e1 : (wipe (σ.set i x) vs)[j]? with
    | none =>
      rw [List.getElem?_eq_none_iff, wipe_length, List.length_set] at e1
      rw [List.getElem?_eq_none (by rw [wipe_length]; exact e1)]
    | some a =>
      have := wipe_none hj a e1
      subst this
      have hl : j < σ.length := by
        have := (List.getElem?_eq_some_iff.mp e1).1
        rw [wipe_length, List.length_set] at this; exact this
      cases e2 : (wipe σ vs)[j]? with
      | none => rw [List.getElem?_eq_none_iff, wipe_length] at e2; omega
      | some b => rw [wipe_none hj b e2]
  · rw [wipe_out hj, wipe_out hj, List.getElem?_set_ne (fun e => hj (by rw [← e]; exact h))]
theorem keep_name {vs : List Nat} {i : Nat} (h : i ∈ vs) : Keep vs (gName i) := fun v σ H Q q => ⟨q, wipe_set h⟩
theorem keep_nil {vs : List Nat} : KeepS vs gNil := fun v σ H Q ⟨e, q⟩ => ⟨e, q, rfl⟩
theorem keepS_mono {vs : List Nat} {g : TGs} (h : KeepS vs g) : True := trivial
/-- readings of targets are monotone -/
def MonoG (g : TG) : Prop := ∀ (v : V) (σ : L2.St) (H : Hp) (Q Q' : L2.St → Hp → Prop), (∀ σ' H', Q σ' H' → Q' σ' H') → g v σ H Q → g v σ H Q'
def MonoGs (g : TGs) : Prop := ∀ (v : List V) (σ : L2.St) (H : Hp) (Q Q' : L2.St → Hp → Prop), (∀ σ' H', Q σ' H' → Q' σ' H') → g v σ H Q → g v σ H Q'
theorem mono_name {i : Nat} : MonoG (gName i) := fun v σ H Q Q' h q => h _ _ q
theorem mono_nil : MonoGs gNil := fun v σ H Q Q' h ⟨e, q⟩ => ⟨e, h _ _ q⟩
theorem mono_cons {g : TG} {r : TGs} (h1 : MonoG g) (h2 : MonoGs r) : MonoGs (gCons g r) := fun vs σ H Q Q' h ⟨v, r', e, q⟩ =>
  ⟨v, r', e, h1 v σ H _ _ (fun σ' H' q => h2 _ _ _ _ _ h q) q⟩
theorem mono_tup {K : PySem.W.Frag} {n : Nat} {g : TGs} (h1 : MonoGs g) : MonoG (gTup K n g) := fun v σ H Q Q' h ⟨a, xs, e, hq, hl, q⟩ => ⟨a, xs, e, hq, hl, h1 _ _ _ _ _ h q⟩
theorem keep_cons {vs : List Nat} {g : TG} {r : TGs} (m1 : MonoG g) (m2 : MonoGs r) (h1 : Keep vs g) (h2 : KeepS vs r) : KeepS vs (gCons g r) := fun v σ H Q ⟨x, r', e, q⟩ => by
  refine ⟨x, r', e, m1 _ _ _ _ _ ?_ (h1 _ _ _ _ q)⟩
  intro σ' H' ⟨q, e1⟩
  exact m2 _ _ _ _ _ (fun σ2 H2 ⟨q, e2⟩ => ⟨q, e2.trans e1⟩) (h2 _ _ _ _ q)
theorem keep_tup {K : PySem.W.Frag} {vs : List Nat} {n : Nat} {g : TGs} (h : KeepS vs g) : Keep vs (gTup K n g) := fun v σ H Q ⟨a, xs, e, hq, hl, q⟩ => ⟨a, xs, e, hq, hl, h _ _ _ _ q⟩

/-! canonical readings -/
def tW (K : PySem.W.Frag) (E : EX) (w : WE) : TE := fun σ H Q => ∃ (px : PX) (F0 H0 F : Hp) (env : Env) (pv : List V) (pd : List D) (Q' : D → Bool → Env → Prop), LinkX K F0 H0 px E pv pd ∧ Sta K F0 H0 F H σ env pv pd ∧ w px env Q' ∧
  ∀ d b env' v F' H', Q' d b env' → Ex F F' → Ex H H' → Res K F0 H0 F' H' σ env' pv pd v d b → Q v H'
def ttW (K : PySem.W.Frag) (E : EX) (w : WT) : TT := fun σ H Q => ∃ (px : PX) (F0 H0 F : Hp) (env : Env) (pv : List V) (pd : List D) (Q' : Bool → Env → Prop), LinkX K F0 H0 px E pv pd ∧ Sta K F0 H0 F H σ env pv pd ∧ w px env Q' ∧
  ∀ b env' F' H', Q' b env' → Ex F F' → Ex H H' → Sta K F0 H0 F' H' σ env' pv pd → Q b H'
theorem DE.canon {X : Cx} {E : EX} {e : Expr} {w : WE} (h : DE X E e w) : PE X e (tW X.K E w) := by
  obtain ⟨t, p, s⟩ := h.ex
  refine ⟨fun pins sh σ H Q I q => p.run pins sh σ H Q I ?_⟩
  obtain ⟨px, F0, H0, F, env, pv, pd, Q', L, S, w1, k⟩ := q
  exact s px F0 H0 F H σ env pv pd L S Q' Q w1 k
theorem DT.canon {X : Cx} {E : EX} {e : Expr} {w : WT} (h : DT X E e w) : PT X e (ttW X.K E w) := by
  obtain ⟨t, p, s⟩ := h.ex
  refine ⟨fun pins sh σ H Q I q => p.run pins sh σ H Q I ?_⟩
  obtain ⟨px, F0, H0, F, env, pv, pd, Q', L, S, w1, k⟩ := q
  exact s px F0 H0 F H σ env pv pd L S Q' Q w1 k
theorem sim_tW {K : PySem.W.Frag} {E : EX} {w : WE} : Sim K E w (tW K E w) := fun px F0 H0 F H σ env pv pd L S Q' Q w1 k => ⟨px, F0, H0, F, env, pv, pd, Q', L, S, w1, k⟩
theorem sim_ttW {K : PySem.W.Frag} {E : EX} {w : WT} : SimT K E w (ttW K E w) := fun px F0 H0 F H σ env pv pd L S Q' Q w1 k => ⟨px, F0, H0, F, env, pv, pd, Q', L, S, w1, k⟩
/-- a comprehension's target -/
structure DC (X : Cx) (vs : List Nat) (e : Expr) (g : TG) (w : WG) : Prop where
  p : PG X e g
  s : SimG X.K w g
  k : Keep vs g
  m : MonoG g
structure DCs (X : Cx) (vs : List Nat) (e : List Expr) (g : TGs) (w : WGs) : Prop where
  p : PGs X e g
  s : SimGs X.K w g
  k : KeepS vs g
  m : MonoGs g
section
variable {K : PySem.W.Frag} {F0 H0 F F' H H' : Hp} {σ : L2.St} {env : Env} {pv : List V} {pd : List D}
theorem slots_frozen (hF : Ex F F') : ∀ {σ : L2.St} {env : Env} {A : List Addr}, Slots K F H σ env A → (∀ a ∈ A, F' a = H a) → Slots K F' H σ (envF env) []
  | _, _, _, .nil, _ => .nil
  | _, _, _, .skip r, hA => .skip (slots_frozen hF r hA)
  | _, _, _, .cons h r e, hA => .cons (h.frozen hF fun a ha => hA a (by rw [e]; exact List.mem_append_left _ ha)) (slots_frozen hF r fun a ha => hA a (by rw [e]; exact List.mem_append_right _ ha)) rfl
theorem slots_clean : ∀ {σ : L2.St} {env : Env} {A : List Addr}, Slots K F H σ env A → cleanE env = true → A = []
  | _, _, _, .nil, _ => rfl
  | _, _, _, .skip r, h => slots_clean r (by simpa [cleanE] using h)
  | _, _, _, .cons h0 r e, h => by
    simp only [cleanE, Bool.and_eq_true, Bool.not_eq_true'] at h
    rw [e, h0.clean h.1, slots_clean r h.2]; rfl
theorem slots_wset : ∀ {σ : L2.St} {env : Env} (i : Nat), Slots K F H σ env [] → Slots K F H (σ.set i none) (env.set i none) []
  | _, _, _, .nil => by simpa using Slots.nil
  | _, _, 0, .skip r => .skip r
  | _, _, 0, .cons (B := B) h r e => by
    have : B = [] := (List.append_eq_nil_iff.mp e.symm).2
    subst this
    exact .skip r
  | _, _, i + 1, .skip r => .skip (slots_wset i r)
  | _, _, i + 1, .cons (A := A) (B := B) h r e => by
    have e1 := (List.append_eq_nil_iff.mp e.symm).1
    have e2 := (List.append_eq_nil_iff.mp e.symm).2
    subst e1 e2
    exact .cons h (slots_wset i r) rfl
theorem slots_wipe (r : Slots K F H σ env []) : ∀ vs : List Nat, Slots K F H (wipe σ vs) (wipeE env vs) []
  | [] => r
  | v :: vs => slots_wset v (slots_wipe r vs)
/-- the pending values in another order -/
theorem Sta.unswap {vs : List V} {ds : List D} {x : V} {d : D} (hl : vs.length = ds.length) (S : Sta K F0 H0 F H σ env (x :: (vs ++ pv)) (d :: (ds ++ pd))) : Sta K F0 H0 F H σ env (vs ++ x :: pv) (ds ++ d :: pd) := by
  obtain ⟨A0, B, h1, h2, h3, h4⟩ := S.own
  cases h2 with
  | cons r rr e =>
    rename_i A1 B1
    subst e
    obtain ⟨d1, d2, A, B2, e1, e2, r1, r2⟩ := rr.split
    obtain ⟨rfl, rfl⟩ := List.append_inj e1 (by rw [← r1.length]; exact hl.symm)
    subst e2
    refine ⟨S.exF, S.exH, S.sub, S.new, A0, A ++ (A1 ++ B2), h1, r1.app (.cons r r2 rfl), ?_, fun a ha => h4 a ?_⟩
    · refine (List.Perm.nodup_iff (List.Perm.append_left _ ?_)).mp h3
      rw [← List.append_assoc, ← List.append_assoc]
      exact List.Perm.append_right _ List.perm_append_comm
    · simp only [List.mem_append] at ha ⊢
      rcases ha with ha | ha | ha | ha
      · exact .inl ha
      · exact .inr (.inr (.inl ha))
      · exact .inr (.inl ha)
      · exact .inr (.inr (.inr ha))
/-- the newest pending list grows by what an inner code made -/
theorem Sta.grown {L : Addr} {acc : List D} {vs : List V} {y : V} {d : D} {A0 B C : List Addr} (S : Sta K F0 H0 F H σ env (.ref L :: pv) (.lst true acc :: pd)) (h1 : Slots K F H σ env A0) (h2 : Reps K F H (.ref L :: pv) (.lst true acc :: pd) B) (h3 : (A0 ++ B).Nodup) (h4 : ∀ a ∈ A0 ++ B, F a = none ∧ H0 a = none)
    (hD : H L = some (.lst vs)) (r : Rep K F H y d C) (hn : C.Nodup) (hC : ∀ a ∈ C, F a = none ∧ H0 a = none) (dd : ∀ a ∈ C, a ∉ A0 ++ B) : vs.length = acc.length ∧ Sta K F0 H0 F (upd H L (.lst (vs ++ [y]))) σ env (.ref L :: pv) (.lst true (acc ++ [d]) :: pd) := by
  cases h2 with
  | cons r0 rr e =>
    rename_i A1 B1
    subst e
    cases r0 with
    | own hq rs =>
      rename_i vs' A'
      rw [hD] at hq; cases hq
      refine ⟨rs.length, ?_⟩
      have na : ∀ b ∈ A0 ++ B1 ++ A' ++ C, b ≠ L := fun b hb z => by
        subst z
        rw [List.nodup_append] at h3
        simp only [List.mem_append] at hb
        have h5 := List.nodup_append.mp h3.2.1
        rcases hb with ((hb | hb) | hb) | hb
        · exact h3.2.2 b hb b (by simp) rfl
        · exact h5.2.2 b (by simp) b hb rfl
        · exact (List.nodup_cons.mp h5.1).1 hb
        · exact dd b hb (by simp)
      have ha := h4 L (by simp)
      have hT := tup_upd (vs' := vs ++ [y]) hD
      have ex0 : ∀ {G : Hp}, G L = none → (∀ b o, G b = some o → H b = some o) → Ex G (upd H L (.lst (vs ++ [y]))) := fun {G} hn hg b o q => by
        rw [upd_ne (ne_of_none q hn)]; exact hg b o q
      have r1 := rs.mono (Same.refl F) hT fun b hb => upd_ne (na b (by simp [hb]))
      have r2 := r.mono (Same.refl F) hT fun b hb => upd_ne (na b (by simp [hb]))
      have rnew : Rep K F (upd H L (.lst (vs ++ [y]))) (.ref L) (.lst true (acc ++ [d])) (L :: (A' ++ C)) := .own upd_same (by
        have := r1.app (.cons r2 .nil rfl)
        rw [List.append_nil] at this
        exact this)
      refine ⟨S.exF, ex0 ha.2 S.exH, ex0 ha.1 S.sub, S.new, A0, (L :: (A' ++ C)) ++ B1, h1.mono (Same.refl _) hT fun b hb => upd_ne (na b (by simp [hb])), .cons rnew (rr.mono (Same.refl _) hT fun b hb => upd_ne (na b (by simp [hb]))) rfl, ?_, fun b hb => ?_⟩
      · have p : (A0 ++ (L :: A' ++ B1) ++ C).Perm (A0 ++ (L :: (A' ++ C) ++ B1)) := by
          rw [List.append_assoc]
          refine List.Perm.append_left _ ?_
          rw [show L :: A' ++ B1 ++ C = (L :: A') ++ (B1 ++ C) by simp [List.append_assoc], show L :: (A' ++ C) ++ B1 = (L :: A') ++ (C ++ B1) by simp [List.append_assoc]]
          exact List.Perm.append_left _ List.perm_append_comm
        refine (List.Perm.nodup_iff p).mp ?_
        rw [List.nodup_append]
        refine ⟨h3, hn, fun a ha b hb z => ?_⟩
        subst z
        exact dd a hb ha
      · simp only [List.mem_append, List.mem_cons, List.cons_append] at hb
        rcases hb with hb | hb | (hb | hb) | hb
        · exact h4 b (by simp [hb])
        · exact h4 b (by simp [hb])
        · exact h4 b (by simp [hb])
        · exact hC b hb
        · exact h4 b (by simp [hb])
end
theorem lc_run {K : PySem.W.Frag} {g : WG} {tt : WT} {te : WE} {vs : List Nat} {tg : TG} {t1 : TT} {t2 : TE} (hg : SimG K g tg) (hk : Keep vs tg) (hm : MonoG tg) (ht : SimT K EN tt t1) (he : Sim K EN te t2)
    {F0 H0 F1 H1 : Hp} {σ : L2.St} {env1 : Env} {pv pvx : List V} {pd pdx : List D} {ds : List D} {J : It} {Q1 : List D → Prop} {Q : VK} {D : Addr} (S1 : Sta K F0 H0 F1 H1 σ env1 (pvx ++ pv) (pdx ++ pd)) (J1 : ItD K J pvx pdx ds)
    (w1 : lcW g tt te (wipeE (envF env1) vs) (cleanE env1) ds [] Q1) (hD : H1 D = none)
    (kend : ∀ acc F2 H2, Q1 acc → Ex F1 F2 → Ex (upd H1 D (.lst [])) (upd H1 D (.lst [])) → Ex H1 H2 → Sta K F0 H0 F2 H2 σ env1 (.ref D :: (pvx ++ pv)) (.lst true acc :: (pdx ++ pd)) → Q (.ref D) H2) :
    ∃ W : Nat → Nat → Hp → Prop, (∃ m, W 0 m (upd H1 D (.lst []))) ∧ ∀ i m H, W i m H →
      (J.stop i H ∧ Q (.ref D) H) ∨ (J.go i H ∧ ∃ Nx : Hp → Prop, (∀ H', Nx H' → ∃ m', m' < m ∧ W (i + 1) m' H') ∧ ∀ x H', J.yld i H x H' → tg x (wipe σ vs) H' fun σ2 H2 => wipe σ2 vs = wipe σ vs ∧ t1 σ2 H2 fun b H3 =>
        if b = true then t2 σ2 H3 fun y H4 => ∃ acc, H4 D = some (.lst acc) ∧ acc.length < sizeLine ∧ Nx (upd H4 D (.lst (acc ++ [y]))) else Nx H3) := by
  let W : Nat → Nat → Hp → Prop := fun i m H' => m = ds.length - i ∧ i ≤ ds.length ∧ ∃ acc F', Ex F1 F' ∧ Ex H1 H' ∧ lcW g tt te (wipeE (envF env1) vs) (cleanE env1) (ds.drop i) acc Q1 ∧ Sta K F0 H0 F' H' σ env1 (.ref D :: (pvx ++ pv)) (.lst true acc :: (pdx ++ pd))
  refine ⟨W, ⟨ds.length, by simp, Nat.zero_le _, [], F1, Same.refl _, Ex.new hD, w1, S1.push (Ex.new hD) (.own upd_same .nil) (by simp) (by simpa using hD)⟩, ?_⟩
  rintro i m H2 ⟨rfl, hle, acc, F2, eF2, eH2, w2, S2⟩
  have S2' := (Sta.pop S2).2
  obtain ⟨A, rs⟩ := S2'.told J1.len
  by_cases hlt : i < ds.length
  · obtain ⟨go, yl⟩ := J1.go F2 H2 A i ds[i] S2.sub rs (List.getElem?_eq_getElem hlt)
    refine .inr ⟨go, fun H' => ∃ m, W (i + 1) m H' , fun H' ⟨m, q⟩ => ⟨ds.length - (i + 1), by omega, by obtain ⟨e, r⟩ := q; subst e; exact ⟨rfl, r⟩⟩, fun x H3 y => ?_⟩
    obtain ⟨e3, rx⟩ := yl x H3 y
    have S3 := S2.grow e3
    -- the turn's own frame: all slots frozen
    obtain ⟨A0, B0, s1, s2, s3, s4⟩ := S3.own
    let Fc : Hp := fun a => if a ∈ A0 then H3 a else F2 a
    have hF : Ex F2 Fc := fun a o q => by
      show (if a ∈ A0 then H3 a else F2 a) = some o
      split
      · exact S3.sub _ _ q
      · exact q
    have hA : ∀ a ∈ A0, Fc a = H3 a := fun a ha => if_pos ha
    have hN : ∀ a, a ∉ A0 → Fc a = F2 a := fun a ha => if_neg ha
    have hsub : Ex Fc H3 := fun a o q => by
      by_cases hm : a ∈ A0
      · rw [hA a hm] at q; exact q
      · rw [hN a hm] at q; exact S3.sub _ _ q
    have sl := slots_wipe (slots_frozen hF s1 hA) vs
    have SI : Sta K Fc H3 Fc H3 (wipe σ vs) (wipeE (envF env1) vs) [x] [ds[i]] :=
      ⟨Same.refl _, Same.refl _, hsub, fun a q => .inl q, [], [], sl, .cons (rx.mono hF (fun _ _ z => z) fun a ha => absurd ha List.not_mem_nil) .nil rfl, List.nodup_nil, fun a ha => absurd ha List.not_mem_nil⟩
    -- back out of it
    have out : ∀ (F4 H4 : Hp), Ex Fc F4 → Ex H3 H4 → Ex F4 H4 → (∀ a, F4 a ≠ none → Fc a ≠ none ∨ H3 a = none) →
        ∃ F5, Ex F2 F5 ∧ (cleanE env1 = true → F5 = F4) ∧ (∀ a, F4 a = none → F5 a = none) ∧ Sta K F0 H0 F5 H4 σ env1 (.ref D :: (pvx ++ pv)) (.lst true acc :: (pdx ++ pd)) ∧
          Slots K F5 H4 σ env1 A0 ∧ Reps K F5 H4 (.ref D :: (pvx ++ pv)) (.lst true acc :: (pdx ++ pd)) B0 ∧ ∀ a ∈ A0 ++ B0, F5 a = none ∧ H0 a = none := by
      intro F4 H4 e1 e2 e4 new
      let F5 : Hp := fun a => if a ∈ A0 then none else F4 a
      have h5 : ∀ a, a ∉ A0 → F5 a = F4 a := fun a ha => if_neg ha
      have h6 : ∀ a ∈ A0, F5 a = none := fun a ha => if_pos ha
      have e25 : Ex F2 F5 := fun a o q => by
        have ha : a ∉ A0 := fun z => by
          rw [(s4 a (List.mem_append_left _ z)).1] at q; cases q
        rw [h5 a ha]; exact e1 _ _ (hF _ _ q)
      have key : ∀ a ∈ A0 ++ B0, F5 a = none ∧ H0 a = none := fun a ha => by
        refine ⟨?_, (s4 a ha).2⟩
        by_cases hm : a ∈ A0
        · exact h6 a hm
        · rw [h5 a hm]
          cases z : F4 a with
          | none => rfl
          | some o =>
            rcases new a (by rw [z]; simp) with y | y
            · rw [hN a hm] at y; exact absurd (s4 a ha).1 y
            · have : ∃ o, H3 a = some o := by
                rcases List.mem_append.mp ha with h | h
                · exact s1.there a h
                · exact s2.there a h
              obtain ⟨xs, q⟩ := this
              rw [y] at q; cases q
      refine ⟨F5, e25, fun hc => ?_, fun a ha => ?_, ?_, s1.ex e25 e2, s2.ex e25 e2, key⟩
      · have := slots_clean s1 hc
        subst this
        funext a
        exact if_neg (by simp)
      · by_cases hm : a ∈ A0
        · exact h6 a hm
        · rw [h5 a hm]; exact ha
      · refine ⟨S3.exF.trans e25, S3.exH.trans e2, fun a o q => ?_, fun a q => ?_, A0, B0, s1.ex e25 e2, s2.ex e25 e2, s3, key⟩
        · by_cases hm : a ∈ A0
          · rw [h6 a hm] at q; cases q
          · rw [h5 a hm] at q; exact e4 _ _ q
        · by_cases hm : a ∈ A0
          · exact absurd (h6 a hm) q
          · rw [h5 a hm] at q
            rcases new a q with z | z
            · rw [hN a hm] at z; exact S3.new a z
            · exact .inr (S3.exH.none z)
    have wd : ds.drop i = ds[i] :: ds.drop (i + 1) := List.drop_eq_getElem_cons hlt
    rw [wd] at w2
    have goG := hg Fc H3 Fc H3 (wipe σ vs) _ [] [] x ds[i] SI _ (fun σ2 H4 => H4 = H3 ∧ ∃ env2, (tt px0 env2 fun b env3 => if b = true then te px0 env3 fun y by_ _ => (by_ = false ∨ dirty y = false) ∧ (cleanE env1 = true ∨ selfc y = true) ∧ acc.length ≤ 100000 ∧ lcW g tt te (wipeE (envF env1) vs) (cleanE env1) (ds.drop (i + 1)) (acc ++ [y]) Q1 else lcW g tt te (wipeE (envF env1) vs) (cleanE env1) (ds.drop (i + 1)) acc Q1) ∧ Sta K Fc H3 Fc H3 σ2 env2 [] []) w2 (fun env2 σ2 w3 S4 => ⟨rfl, env2, w3, S4⟩)
    refine hm _ _ _ _ _ ?_ (hk _ _ _ _ goG)
    rintro σ2 H4 ⟨⟨rfl, env2, w3, S4⟩, ew⟩
    refine ⟨by rw [ew]; apply List.ext_getElem?; intro j; by_cases hj : j ∈ vs
               · cases e1 : (wipe (wipe σ vs) vs)[j]? with
                 | none =>
                   rw [List.getElem?_eq_none_iff, wipe_length, wipe_length] at e1
                   rw [List.getElem?_eq_none (by rw [wipe_length]; exact e1)]
                 | some a =>
                   rw [wipe_none hj a e1]
                   cases e2 : (wipe σ vs)[j]? with
                   | none =>
                     have h1 := (List.getElem?_eq_some_iff.mp e1).1
                     rw [List.getElem?_eq_none_iff, wipe_length] at e2
                     rw [wipe_length, wipe_length] at h1
                     omega
                   | some b => rw [wipe_none hj b e2]
               · rw [wipe_out hj], ?_⟩
    refine ht px0 Fc H4 Fc H4 σ2 env2 [] [] link0 S4 _ _ w3 fun b env3 F5 H5 w4 eF5 eH5 S5 => ?_
    cases b with
    | false =>
      obtain ⟨F6, e26, _, _, S6, _⟩ := out F5 H5 S5.exF S5.exH S5.sub S5.new
      exact ⟨_, rfl, hlt, acc, F6, eF2.trans e26, (eH2.trans e3).trans eH5, w4, S6⟩
    | true =>
      refine he px0 Fc H4 F5 H5 σ2 env3 [] [] link0 S5 _ _ w4 fun d b env4 v F6 H6 w5 eF6 eH6 R6 => ?_
      obtain ⟨wb, wc, wl, w6⟩ := w5
      have S6 := R6.owned wb
      obtain ⟨A6, B6, q1, q2, q3, q4⟩ := S6.own
      cases q2 with
      | cons ry ry2 e =>
        rename_i C B7
        cases ry2
        rw [List.append_nil] at e
        subst e
        have hCn : B6.Nodup := (List.nodup_append.mp q3).2.1
        have hC : ∀ a ∈ B6, F6 a = none ∧ H4 a = none := fun a ha => q4 a (List.mem_append_right _ ha)
        obtain ⟨F7, e27, cl, non, S7, u1, u2, u4⟩ := out F6 H6 S6.exF S6.exH S6.sub S6.new
        have ry' : Rep K F7 H6 v d B6 := by
          rcases wc with hc | hc
          · rw [cl hc]; exact ry
          · exact ry.alone hc
        have hD6 : ∃ vs', H6 D = some (.lst vs') := by
          obtain ⟨Aa, Bb, u1, u2, u3, u4⟩ := S7.own
          cases u2 with
          | cons r0 _ _ =>
            cases r0 with
            | own hq _ => exact ⟨_, hq⟩
        obtain ⟨vs', hD6⟩ := hD6
        have disj : ∀ a ∈ B6, a ∉ A0 ++ B0 := fun a ha hm => by
          have hn := (hC a ha).2
          have : ∃ o, H4 a = some o := by
            rcases List.mem_append.mp hm with h | h
            · exact s1.there a h
            · exact s2.there a h
          obtain ⟨xs, q⟩ := this
          rw [hn] at q; cases q
        obtain ⟨hl, S8⟩ := S7.grown u1 u2 s3 u4 hD6 ry' hCn (fun a ha => ⟨non a (hC a ha).1, S3.exH.none (hC a ha).2⟩) disj
        refine ⟨vs', hD6, by rw [hl]; exact lt_line wl, _, rfl, hlt, acc ++ [d], F7, eF2.trans e27, fun b o q => ?_, w6, S8⟩
        have hb : b ≠ D := fun z => by
          subst z
          rw [hD] at q; cases q
        rw [upd_ne hb]
        exact S6.exH _ _ (e3 _ _ (eH2 _ _ q))
  · have e : i = ds.length := by omega
    subst e
    refine .inl ⟨J1.stop F2 H2 A S2.sub rs, ?_⟩
    rw [List.drop_length] at w2
    exact kend acc F2 H2 w2 eF2 (Same.refl _) eH2 S2
theorem sim_lc {K : PySem.W.Frag} {E : EX} {wi : WI} {g : WG} {tt : WT} {te : WE} {vs : List Nat} {ti : TI} {tg : TG} {t1 : TT} {t2 : TE} (hi : SimI K E wi ti) (hg : SimG K g tg) (hk : Keep vs tg) (hm : MonoG tg) (ht : SimT K EN tt t1) (he : Sim K EN te t2) :
    Sim K E (wLc wi g tt te vs) (tLc ti tg t1 t2 vs) := by
  intro px F0 H0 F H σ env pv pd L S Q' Q w k
  refine hi px F0 H0 F H σ env pv pd L S _ _ w fun ds env1 J F1 H1 pvx pdx w1 eF eH S1 J1 => fun D hD => ?_
  refine lc_run hg hk hm ht he S1 J1 w1 hD fun acc F2 H2 w2 eF2 _ eH2 S2 => ?_
  have S3 : Sta K F0 H0 F2 H2 σ env1 (.ref D :: pv) (.lst true acc :: pd) := by
    have : Sta K F0 H0 F2 H2 σ env1 (pvx ++ .ref D :: pv) (pdx ++ .lst true acc :: pd) := S2.unswap J1.len
    exact Sta.drops J1.len this
  exact k (.lst true acc) false env1 (.ref D) F2 H2 w2 (eF.trans eF2) (eH.trans eH2) S3
def wYes : WT := fun _ env Q => Q true env
theorem sim_yes {K : PySem.W.Frag} {E : EX} : SimT K E wYes tYes := fun px F0 H0 F H σ env pv pd L S Q' Q w k => k true env F H w (Same.refl _) (Same.refl _) S
section
variable {X : Cx} {E : EX} {vs : List Nat} {pos : Pos}
theorem c_name {i : Nat} {x : Str} (hN : X.N.Nodup) (hi : X.N[i]? = some x) (hx : Loc X.env.scope x) (hv : i ∈ vs) (hf : X.fn x = true ∨ X.env.scope.names.lookup x = some .local := by first | exact .inl rfl | exact .inr rfl | assumption) : DC X vs (.Name x pos) (gName i) (gtName i) :=
  ⟨pg_name hN hi hx hf, simG_name, keep_name hv, mono_name⟩
theorem cs_nil : DCs X vs [] gNil (fun ds env Q => ds = [] ∧ Q env) := ⟨pgs_nil, simGs_nil, keep_nil, mono_nil⟩
theorem cs_cons {e : Expr} {es : List Expr} {g : TG} {r : TGs} {w : WG} {u : WGs} (h : DC X vs e g w) (hr : DCs X vs es r u) (hs : (assignEach (e :: es) X.env).map (·.2) = assign e X.env :: (assignEach es X.env).map (·.2) := by rfl) : DCs X vs (e :: es) (gCons g r) (gtCons w u) :=
  ⟨pgs_cons h.p hr.p hs, simGs_cons h.s hr.s, keep_cons h.m hr.m h.k hr.k, mono_cons h.m hr.m⟩
theorem c_tup {es : List Expr} {k : Nat} {g : TGs} {u : WGs} {n : Nat} (hc : X.calm = true) (h : DCs X vs es g u) (hn : (assignEach es X.env).length = n := by rfl) (hst : (assignEach es X.env).findIdx? (·.1) = none := by rfl) : DC X vs (.Tuple es k pos) (gTup X.K n g) (gtTup n u) :=
  ⟨pg_tup hc h.p hn hst, simG_tup h.s, keep_tup h.k, mono_tup h.m⟩
variable {elt tg iter c : Expr} {scope : Scope} {own : List (Str × Nat)} {wi : WI} {g : TG} {wg : WG} {wc : WT} {we : WE}
theorem d_lc (hc : X.calm = true) (hN : X.N.Nodup) (hi : DI X E tg iter wi) (ok : BlkOk X.N X.env.scope scope own)
    (hg : ∀ (s : Shared) (H : Hp) (C : Addr) (cl : List (Str × Addr)) (fp : List Addr), DC (X.blk s H scope (compEnvC scope cl C X.env) fp) (own.map (·.2)) tg g wg)
    (he : ∀ (s : Shared) (H : Hp) (C : Addr) (cl : List (Str × Addr)) (fp : List Addr), DE (X.blk s H scope (compEnvC scope cl C X.env) fp) EN elt we) (hs : ∀ x, foldedSetIterable iter X.env x = pure x := by intro _; rfl) :
    DE X E (.ListComp elt [⟨tg, iter, [], 0⟩] scope pos) (wLc wi wg wYes we (own.map (·.2))) := by
  obtain ⟨ti, pi, si⟩ := hi.ex
  refine ⟨_, pe_lc (te := tW X.K EN we) hc hN pi ok (fun s H C cl fp => (hg s H C cl fp).p) (fun s H C cl fp => pts_nil) (fun s H C cl fp => (he s H C cl fp).canon) hs, ?_⟩
  have d := hg X.s_0 X.H_0 0 [] []
  exact sim_lc si d.s d.k d.m sim_yes sim_tW
theorem d_lcIf (hc : X.calm = true) (hN : X.N.Nodup) (hi : DI X E tg iter wi) (ok : BlkOk X.N X.env.scope scope own)
    (hg : ∀ (s : Shared) (H : Hp) (C : Addr) (cl : List (Str × Addr)) (fp : List Addr), DC (X.blk s H scope (compEnvC scope cl C X.env) fp) (own.map (·.2)) tg g wg)
    (ht : ∀ (s : Shared) (H : Hp) (C : Addr) (cl : List (Str × Addr)) (fp : List Addr), DT (X.blk s H scope (compEnvC scope cl C X.env) fp) EN c wc)
    (he : ∀ (s : Shared) (H : Hp) (C : Addr) (cl : List (Str × Addr)) (fp : List Addr), DE (X.blk s H scope (compEnvC scope cl C X.env) fp) EN elt we) (hs : ∀ x, foldedSetIterable iter X.env x = pure x := by intro _; rfl) :
    DE X E (.ListComp elt [⟨tg, iter, [c], 0⟩] scope pos) (wLc wi wg wc we (own.map (·.2))) := by
  obtain ⟨ti, pi, si⟩ := hi.ex
  refine ⟨_, pe_lc (te := tW X.K EN we) (tt := ttW X.K EN wc) hc hN pi ok (fun s H C cl fp => (hg s H C cl fp).p) (fun s H C cl fp => pts_one (ht s H C cl fp).canon) (fun s H C cl fp => (he s H C cl fp).canon) hs, ?_⟩
  have d := hg X.s_0 X.H_0 0 [] []
  exact sim_lc si d.s d.k d.m sim_ttW sim_tW
/-- name = [..] on one line -/
theorem s_setLc {i : Nat} {y : Str} {py spos : Pos} (hc : X.calm = true) (hN : X.N.Nodup) (hy : X.N[i]? = some y) (hyl : X.env.scope.names.lookup y = some .local)
    (hsw : swapsWith (.ListComp elt [⟨tg, iter, [], 0⟩] scope pos) (some (.Name y py)) spos.line X.env = pure true) (hi : DI X E tg iter wi) (ok : BlkOk X.N X.env.scope scope own)
    (hg : ∀ (s : Shared) (H : Hp) (C : Addr) (cl : List (Str × Addr)) (fp : List Addr), DC (X.blk s H scope (compEnvC scope cl C X.env) fp) (own.map (·.2)) tg g wg)
    (he : ∀ (s : Shared) (H : Hp) (C : Addr) (cl : List (Str × Addr)) (fp : List Addr), DE (X.blk s H scope (compEnvC scope cl C X.env) fp) EN elt we) (hs : ∀ x, foldedSetIterable iter X.env x = pure x := by intro _; rfl) :
    DS X E (.Assign [.Name y py] (.ListComp elt [⟨tg, iter, [], 0⟩] scope pos) spos) (wAsg (wLc wi wg wYes we (own.map (·.2))) (gtName i)) := by
  obtain ⟨ti, pi, si⟩ := hi.ex
  refine ⟨_, ps_setLc (te := tW X.K EN we) hc hN hy hyl hsw pi ok (fun s H C cl fp => (hg s H C cl fp).p) (fun s H C cl fp => pts_nil) (fun s H C cl fp => (he s H C cl fp).canon) hs, ?_⟩
  have d := hg X.s_0 X.H_0 0 [] []
  exact simS_asg (sim_lc si d.s d.k d.m sim_yes sim_tW) simG_name
theorem s_setLcIf {i : Nat} {y : Str} {py spos : Pos} (hc : X.calm = true) (hN : X.N.Nodup) (hy : X.N[i]? = some y) (hyl : X.env.scope.names.lookup y = some .local)
    (hsw : swapsWith (.ListComp elt [⟨tg, iter, [c], 0⟩] scope pos) (some (.Name y py)) spos.line X.env = pure true) (hi : DI X E tg iter wi) (ok : BlkOk X.N X.env.scope scope own)
    (hg : ∀ (s : Shared) (H : Hp) (C : Addr) (cl : List (Str × Addr)) (fp : List Addr), DC (X.blk s H scope (compEnvC scope cl C X.env) fp) (own.map (·.2)) tg g wg)
    (ht : ∀ (s : Shared) (H : Hp) (C : Addr) (cl : List (Str × Addr)) (fp : List Addr), DT (X.blk s H scope (compEnvC scope cl C X.env) fp) EN c wc)
    (he : ∀ (s : Shared) (H : Hp) (C : Addr) (cl : List (Str × Addr)) (fp : List Addr), DE (X.blk s H scope (compEnvC scope cl C X.env) fp) EN elt we) (hs : ∀ x, foldedSetIterable iter X.env x = pure x := by intro _; rfl) :
    DS X E (.Assign [.Name y py] (.ListComp elt [⟨tg, iter, [c], 0⟩] scope pos) spos) (wAsg (wLc wi wg wc we (own.map (·.2))) (gtName i)) := by
  obtain ⟨ti, pi, si⟩ := hi.ex
  refine ⟨_, ps_setLc (te := tW X.K EN we) (tt := ttW X.K EN wc) hc hN hy hyl hsw pi ok (fun s H C cl fp => (hg s H C cl fp).p) (fun s H C cl fp => pts_one (ht s H C cl fp).canon) (fun s H C cl fp => (he s H C cl fp).canon) hs, ?_⟩
  have d := hg X.s_0 X.H_0 0 [] []
  exact simS_asg (sim_lc si d.s d.k d.m sim_ttW sim_tW) simG_name
end
end Tm

set_option Elab.async false
set_option linter.all false
set_option maxRecDepth 100000
set_option maxHeartbeats 1000000
namespace Tm
open PySem PySem.Spec PyProof.Rows L2

/-! ### what else is walked -/
/-- lo, lo + c, .. -/
def rngC (lo c : Int) (n : Nat) : List D := (List.range n).map fun (i : Nat) => .int (lo + (i : Int) * c)
theorem rngC_len (lo c : Int) (n : Nat) : (rngC lo c n).length = n := by simp [rngC]
theorem rngC_get {lo c : Int} {n i : Nat} {d : D} (h : (rngC lo c n)[i]? = some d) : i < n ∧ d = .int (lo + (i : Int) * c) := by
  have hi : i < n := by rw [← rngC_len lo c n]; exact (List.getElem?_eq_some_iff.mp h).1
  simp only [rngC, List.getElem?_map, List.getElem?_range hi, Option.map_some, Option.some.injEq] at h
  exact ⟨hi, h.symm⟩
/-- how many turns range(i, j, c) has -/
def turnsC (i j c : Int) : Nat := (Builtin.Range.rangeSize i j c).toNat
theorem turnsC_pos {i j c : Int} (hc : 0 < c) : turnsC i j c = if i < j then ((j - i - 1) / c + 1).toNat else 0 := by
  unfold turnsC Builtin.Range.rangeSize
  rw [if_pos hc]
  split <;> rfl
theorem turnsC_down {i j : Int} : turnsC i j (-1) = (i - j).toNat := by
  unfold turnsC
  rw [PySem.W.rangeSize_downNat]
  omega
def CRg (i j c : Int) : Prop := (0 < c ∨ c = -1) ∧ c ≤ 1000000 ∧ -1000000000 ≤ i ∧ i ≤ 1000000000 ∧ -1000000000 ≤ j ∧ j ≤ 1000000000
theorem CRg.ok {i j c : Int} (h : CRg i j c) : RgC i j c (turnsC i j c) := by
  obtain ⟨h1 | h1, h2, h3, h4, h5, h6⟩ := h
  · have hs : Builtin.Range.rangeSize i j c = if i < j then (j - i - 1) / c + 1 else 0 := by
      unfold Builtin.Range.rangeSize
      rw [if_pos h1]
    have hnn : 0 ≤ Builtin.Range.rangeSize i j c ∧ Builtin.Range.rangeSize i j c ≤ 2000000001 := by
      rw [hs]
      split
      · rename_i hlt
        have q1 : 0 ≤ (j - i - 1) / c := Int.ediv_nonneg (by omega) (by omega)
        have q2 : (j - i - 1) / c ≤ j - i - 1 := Int.ediv_le_self _ (by omega)
        omega
      · omega
    refine ⟨by omega, by omega, ?_, ?_⟩
    · unfold Builtin.Range.small
      generalize hr : Builtin.Range.rangeSize i j c = r at hnn ⊢
      simp only [Builtin.Range.rangeFitsLong, Bool.and_eq_true, Bool.or_eq_true, decide_eq_true_eq, beq_iff_eq, gt_iff_lt, h1, if_true]
      omega
    · unfold turnsC
      omega
  · subst h1
    have := RgC.neg (i := i) (j := j) (by omega) (by omega) (by omega) (by omega)
    rw [turnsC_down]
    exact this
def its3 (w : WA) : WI := fun px env Q => w px env fun ds env1 => match ds with
  | [.int i, .int j, .int c] => CRg i j c ∧ Q (rngC i c (turnsC i j c)) env1
  | _ => False
theorem simI_3 {K : PySem.W.Frag} {E : EX} {w : WA} {t : TA} (h : SimA K E w t) : SimI K E (its3 w) (iRng3 t) := by
  intro px F0 H0 F H σ env pv pd L S Q' R w1 k
  refine h px F0 H0 F H σ env pv pd L S _ _ w1 fun ds env1 vs F1 H1 A w2 eF eH rs S1 => ?_
  unfold its3 at w1
  split at w2
  · rename_i i j c
    cases rs with
    | cons r1 r2 _ =>
      obtain ⟨u, x, B, C, e, r3, r4⟩ := reps2 r2
      subst e
      rw [rep_int r1, rep_int r3, rep_int r4]
      refine ⟨i, j, c, _, rfl, w2.1.ok, k _ env1 _ F1 H1 [] [] w2.2 eF eH S1 ⟨rfl, fun F H A n d hs rr hd => ?_, fun F H A hs rr => ?_⟩⟩
      · obtain ⟨hi, rfl⟩ := rngC_get hd
        refine ⟨hi, fun x H' y => ?_⟩
        obtain ⟨e, rfl⟩ := y
        subst e
        exact ⟨Same.refl _, .int _⟩
      · rw [rngC_len]; exact Nat.le_refl _
  · exact w2.elim
/-- enumerate -/
def enumD : Nat → List D → List D
  | _, [] => []
  | n, d :: ds => .tup [.int (n : Int), d] :: enumD (n + 1) ds
theorem enumD_len : ∀ (n : Nat) (ds : List D), (enumD n ds).length = ds.length
  | _, [] => rfl
  | n, d :: ds => by simp [enumD, enumD_len (n + 1) ds]
theorem enumD_get : ∀ (n : Nat) (ds : List D) (i : Nat), (enumD n ds)[i]? = (ds[i]?).map fun d => .tup [.int ((n + i : Nat) : Int), d]
  | n, [], i => by simp [enumD]
  | n, d :: ds, 0 => by simp [enumD]
  | n, d :: ds, i + 1 => by
    simp only [enumD, List.getElem?_cons_succ]
    rw [enumD_get (n + 1) ds i]
    congr 1
    funext d
    rw [show n + 1 + i = n + (i + 1) by omega]
def itsE (w : WA) : WI := fun px env Q => w px env fun ds env1 => match ds with
  | [d] => dirty d = false ∧ (match asL d with
    | some es => dirtys es = false ∧ Q (enumD 0 es) env1
    | none => False)
  | _ => False
theorem simI_E {K : PySem.W.Frag} {E : EX} {w : WA} {t : TA} (h : SimA K E w t) : SimI K E (itsE w) (iEnum K t) := by
  intro px F0 H0 F H σ env pv pd L S Q' R w1 k
  refine h px F0 H0 F H σ env pv pd L S _ _ w1 fun ds env1 vs F1 H1 A w2 eF eH rs S1 => ?_
  unfold itsE at w1
  split at w2
  · rename_i d
    obtain ⟨hd, w2⟩ := w2
    obtain ⟨v, rfl, r⟩ := reps1 rs
    have := r.clean hd
    subst this
    split at w2
    · rename_i es he
      obtain ⟨a, vs, B, rfl, hq, rs', _⟩ := rep_asL S1.sub r he
      refine ⟨a, vs, rfl, hq, k _ env1 _ F1 H1 [.ref a] [d] w2.2 eF eH (S1.clean r) ⟨rfl, fun F H A i e hs rr hi => ?_, fun F H A hs rr => ?_⟩⟩
      · cases rr with
        | cons r1 _ _ =>
          obtain ⟨a', vs', B', e1, hq', rs', _⟩ := rep_asL hs r1 he
          cases e1
          rw [enumD_get] at hi
          cases hx : es[i]? with
          | none => rw [hx] at hi; cases hi
          | some y =>
            rw [hx] at hi
            simp only [Option.map_some, Option.some.injEq, Nat.zero_add] at hi
            obtain ⟨x, C, hx', rx, _⟩ := rs'.get hx
            have cl := rx.clean (dirtys_false.mp w2.1 y (List.mem_of_getElem? hx))
            subst cl
            refine ⟨⟨vs', x, hq', hx'⟩, fun z H' yl => ?_⟩
            obtain ⟨T, x2, rfl, hT, rfl, f⟩ := yl
            have := f vs' hq'
            rw [hx'] at this; cases this
            refine ⟨Ex.new hT, ?_⟩
            rw [← hi]
            exact .tup upd_same (.cons (.int _) (.cons (rx.ex (Same.refl _) (Ex.new hT)) .nil rfl) rfl)
      · cases rr with
        | cons r1 _ _ =>
          obtain ⟨a', vs', B', e1, hq', rs', _⟩ := rep_asL hs r1 he
          cases e1
          exact ⟨vs', hq', by rw [enumD_len, rs'.length]; exact Nat.le_refl _⟩
    · exact w2.elim
  · exact w2.elim
/-- zip of two lists -/
def zipD : List D → List D → List D
  | d :: ds, e :: es => .tup [d, e] :: zipD ds es
  | _, _ => []
theorem zipD_get : ∀ (ds es : List D) (i : Nat) (z : D), (zipD ds es)[i]? = some z → ∃ d e, ds[i]? = some d ∧ es[i]? = some e ∧ z = .tup [d, e]
  | [], _, i, z, h => by simp [zipD] at h
  | d :: ds, [], i, z, h => by simp [zipD] at h
  | d :: ds, e :: es, 0, z, h => by simp [zipD] at h; exact ⟨d, e, rfl, rfl, h.symm⟩
  | d :: ds, e :: es, i + 1, z, h => by
    simp only [zipD, List.getElem?_cons_succ] at h ⊢
    exact zipD_get ds es i z h
theorem zipD_len : ∀ (ds es : List D), (zipD ds es).length = min ds.length es.length
  | [], _ => by simp [zipD]
  | d :: ds, [] => by simp [zipD]
  | d :: ds, e :: es => by simp [zipD, zipD_len ds es]
def itsZ (w : WA) : WI := fun px env Q => w px env fun ds env1 => match ds with
  | [d, e] => dirty d = false ∧ dirty e = false ∧ (match asL d, asL e with
    | some xs, some ys => dirtys xs = false ∧ dirtys ys = false ∧ Q (zipD xs ys) env1
    | _, _ => False)
  | _ => False
theorem simI_Z {K : PySem.W.Frag} {E : EX} {w : WA} {t : TA} (h : SimA K E w t) : SimI K E (itsZ w) (iZip K t) := by
  intro px F0 H0 F H σ env pv pd L S Q' R w1 k
  refine h px F0 H0 F H σ env pv pd L S _ _ w1 fun ds env1 vs F1 H1 A w2 eF eH rs S1 => ?_
  unfold itsZ at w1
  split at w2
  · rename_i d e
    obtain ⟨hd, he, w2⟩ := w2
    obtain ⟨v, u, B, C, rfl, r1, r2⟩ := reps2 rs
    have := r1.clean hd
    subst this
    have := r2.clean he
    subst this
    split at w2
    · rename_i xs ys hx hy
      obtain ⟨a, vs, B, rfl, hq, rs1, _⟩ := rep_asL S1.sub r1 hx
      obtain ⟨b, ws, C, rfl, hq2, rs2, _⟩ := rep_asL S1.sub r2 hy
      refine ⟨a, b, vs, ws, rfl, hq, hq2, k _ env1 _ F1 H1 [.ref a, .ref b] [d, e] w2.2.2 eF eH ((S1.clean r2).clean r1) ⟨rfl, fun F H A i z hs rr hi => ?_, fun F H A hs rr => ?_⟩⟩
      · obtain ⟨va, vb, B1, C1, ev, q1, q2⟩ := reps2 rr
        cases ev
        obtain ⟨a', vs', _, e1, hqa, rsa, _⟩ := rep_asL hs q1 hx
        cases e1
        obtain ⟨b', ws', _, e2, hqb, rsb, _⟩ := rep_asL hs q2 hy
        cases e2
        obtain ⟨dx, dy, g1, g2, rfl⟩ := zipD_get _ _ _ _ hi
        obtain ⟨x, Cx', hx', rx, _⟩ := rsa.get g1
        obtain ⟨y, Cy', hy', ry, _⟩ := rsb.get g2
        have c1 := rx.clean (dirtys_false.mp w2.1 dx (List.mem_of_getElem? g1))
        subst c1
        have c2 := ry.clean (dirtys_false.mp w2.2.1 dy (List.mem_of_getElem? g2))
        subst c2
        refine ⟨⟨vs', ws', x, y, hqa, hqb, hx', hy'⟩, fun z H' yl => ?_⟩
        obtain ⟨T, x2, y2, rfl, hT, rfl, f1, f2⟩ := yl
        have := f1 vs' hqa
        rw [hx'] at this; cases this
        have := f2 ws' hqb
        rw [hy'] at this; cases this
        exact ⟨Ex.new hT, .tup upd_same (.cons (rx.ex (Same.refl _) (Ex.new hT)) (.cons (ry.ex (Same.refl _) (Ex.new hT)) .nil rfl) rfl)⟩
      · obtain ⟨va, vb, B1, C1, ev, q1, q2⟩ := reps2 rr
        cases ev
        obtain ⟨a', vs', _, e1, hqa, rsa, _⟩ := rep_asL hs q1 hx
        cases e1
        obtain ⟨b', ws', _, e2, hqb, rsb, _⟩ := rep_asL hs q2 hy
        cases e2
        refine ⟨vs', ws', hqa, hqb, ?_⟩
        rw [zipD_len, rsa.length, rsb.length]
        omega
    · exact w2.elim
  · exact w2.elim
/-- reversed of a list -/
def itsR (w : WA) : WI := fun px env Q => w px env fun ds env1 => match ds with
  | [d] => dirty d = false ∧ (match asL d with
    | some es => dirtys es = false ∧ Q es.reverse env1
    | none => False)
  | _ => False
theorem simI_R {K : PySem.W.Frag} {E : EX} {w : WA} {t : TA} (h : SimA K E w t) : SimI K E (itsR w) (iRev K t) := by
  intro px F0 H0 F H σ env pv pd L S Q' R w1 k
  refine h px F0 H0 F H σ env pv pd L S _ _ w1 fun ds env1 vs F1 H1 A w2 eF eH rs S1 => ?_
  unfold itsR at w1
  split at w2
  · rename_i d
    obtain ⟨hd, w2⟩ := w2
    obtain ⟨v, rfl, r⟩ := reps1 rs
    have := r.clean hd
    subst this
    split at w2
    · rename_i es he
      obtain ⟨a, vs, B, rfl, hq, rs', _⟩ := rep_asL S1.sub r he
      have hlen := rs'.length
      refine ⟨a, vs, rfl, hq, k _ env1 _ F1 H1 [.ref a] [d] w2.2 eF eH (S1.clean r) ⟨rfl, fun F H A i e hs rr hi => ?_, fun F H A hs rr => ?_⟩⟩
      · cases rr with
        | cons r1 _ _ =>
          obtain ⟨a', vs', B', e1, hq', rs2, _⟩ := rep_asL hs r1 he
          cases e1
          have hi2 : i < es.length := by
            have := (List.getElem?_eq_some_iff.mp hi).1
            simpa using this
          rw [List.getElem?_reverse (by omega)] at hi
          obtain ⟨x, C, hx', rx, _⟩ := rs2.get hi
          have cl := rx.clean (dirtys_false.mp w2.1 e (List.mem_of_getElem? hi))
          subst cl
          rw [hlen]
          refine ⟨⟨hi2, vs', x, hq', hx'⟩, fun z H' yl => ?_⟩
          obtain ⟨e2, f⟩ := yl
          subst e2
          have := f vs' hq'
          rw [hx'] at this; cases this
          exact ⟨Same.refl _, rx⟩
      · show _ ≤ _
        rw [List.length_reverse, hlen]
        exact Nat.le_refl _
    · exact w2.elim
  · exact w2.elim
/-- a text, sign by sign -/
def signsD (x : Str) : List D := x.cps.toList.map fun c => .str ⟨#[c]⟩
def itsS (w : WE) : WI := fun px env Q => w px env fun d _ env1 => match d with
  | .str x => Q (signsD x) env1
  | _ => False
theorem simI_S {K : PySem.W.Frag} {E : EX} {w : WE} {t : TE} (h : Sim K E w t) : SimI K E (itsS w) (iStr t) := by
  intro px F0 H0 F H σ env pv pd L S Q' R w1 k
  refine h px F0 H0 F H σ env pv pd L S _ _ w1 fun d b env1 v F1 H1 w2 eF eH R1 => ?_
  obtain ⟨⟨A, r⟩, S1⟩ := R1.forget
  cases d with
  | str x =>
    refine ⟨x, rep_str r, k _ env1 _ F1 H1 [] [] w2 eF eH S1 ⟨rfl, fun F H A i e hs rr hi => ?_, fun F H A hs rr => ?_⟩⟩
    · simp only [signsD, List.getElem?_map] at hi
      cases hc : x.cps.toList[i]? with
      | none => rw [hc] at hi; cases hi
      | some c =>
        rw [hc] at hi
        simp only [Option.map_some, Option.some.injEq] at hi
        subst hi
        have hc' : x.cps[i]? = some c := by rw [← Array.getElem?_toList]; exact hc
        have hi2 : i < x.cps.size := (Array.getElem?_eq_some_iff.mp hc').1
        refine ⟨hi2, fun z H' yl => ?_⟩
        obtain ⟨e2, c', hc2, rfl⟩ := yl
        subst e2
        rw [hc'] at hc2; cases hc2
        exact ⟨Same.refl _, .str _⟩
    · show _ ≤ _
      simp [signsD]
  | _ => exact w2.elim
section
variable {X : Cx} {E : EX} {e e2 e3 : Expr} {elts : List Expr} {w : WE} {wa : WA} {p pos tpos : Pos} {kk : Nat} {tg : Expr}
theorem n_3 (hg : Gl X "range") (hm : X.mg "range" = none) (h : DA X E [e, e2, e3] wa) (hs : starEach [e, e2, e3] X.env = (false, eval e X.env) :: starEach [e2, e3] X.env := by rfl) (hpl : (backTo pos (starEach [e2, e3] X.env)).any (·.1) = false := by rfl) : DI X E tg (.Call (.Name "range" p) [e, e2, e3] [] pos) (its3 wa) := by
  obtain ⟨t, pp, s⟩ := h.ex
  exact ⟨_, pi_range3 hg hm pp hs hpl, simI_3 s⟩
theorem n_E (hg : Gl X "enumerate") (hm : X.mg "enumerate" = none) (h : DA X E [e] wa) (hs : starEach [e] X.env = [(false, eval e X.env)] := by rfl) : DI X E (.Tuple elts kk tpos) (.Call (.Name "enumerate" p) [e] [] pos) (itsE wa) := by
  obtain ⟨t, pp, s⟩ := h.ex
  exact ⟨_, pi_enum hg hm pp hs, simI_E s⟩
theorem n_Z (hg : Gl X "zip") (hm : X.mg "zip" = none) (h : DA X E [e, e2] wa) (hs : starEach [e, e2] X.env = (false, eval e X.env) :: starEach [e2] X.env := by rfl) (hpl : (backTo pos (starEach [e2] X.env)).any (·.1) = false := by rfl) : DI X E (.Tuple elts kk tpos) (.Call (.Name "zip" p) [e, e2] [] pos) (itsZ wa) := by
  obtain ⟨t, pp, s⟩ := h.ex
  exact ⟨_, pi_zip hg hm pp hs hpl, simI_Z s⟩
theorem n_R (hg : Gl X "reversed") (hm : X.mg "reversed" = none) (h : DA X E [e] wa) (hs : starEach [e] X.env = [(false, eval e X.env)] := by rfl) : DI X E tg (.Call (.Name "reversed" p) [e] [] pos) (itsR wa) := by
  obtain ⟨t, pp, s⟩ := h.ex
  exact ⟨_, pi_reversed hg hm pp hs, simI_R s⟩
theorem n_S (h : DE X E e w) : DI X E tg e (itsS w) := by
  obtain ⟨t, pp, s⟩ := h.ex
  exact ⟨_, pi_str pp, simI_S s⟩
end

/-! ### turned round -/
theorem rev_pick (x : Str) : ((Builtin.Str.strSliceIndices none none (-1) x.length).filterMap (x.cps[·]?)) = x.cps.toList.reverse := by
  unfold Builtin.Str.strSliceIndices sliceRange
  have hl : x.length = x.cps.toList.length := by simp [Str.length]
  simp only [show ¬ ((-1 : Int) > 0) by decide, if_false]
  have hc : (if (x.length : Int) - 1 > -1 then ((x.length : Int) - 1 - -1 - -1 - 1) / (- -1) else 0).toNat = x.length := by
    split <;> simp <;> omega
  rw [hc]
  apply List.ext_getElem?
  intro i
  rw [List.filterMap_map]
  have : ∀ n, (List.range n).filterMap ((fun a => x.cps[a]?) ∘ fun (k : Nat) => ((x.length : Int) - 1 + -1 * (k : Int)).toNat) = (List.range n).filterMap (fun k => x.cps.toList[x.length - 1 - k]?) := fun n => by
    congr 1
    funext k
    show x.cps[((x.length : Int) - 1 + -1 * (k : Int)).toNat]? = _
    rw [← Array.getElem?_toList]
    congr 1
    omega
  rw [this]
  have h2 : (List.range x.length).filterMap (fun k => x.cps.toList[x.length - 1 - k]?) = x.cps.toList.reverse := by
    apply List.ext_getElem?
    intro j
    have hall : ∀ m, m ≤ x.length → (List.range m).filterMap (fun k => x.cps.toList[x.length - 1 - k]?) = x.cps.toList.reverse.take m := by
      intro m
      induction m with
      | zero => intro _; simp
      | succ m ih =>
        intro hm
        rw [List.range_succ, List.filterMap_append, ih (by omega), List.take_add_one]
        congr 1
        rw [List.getElem?_reverse (by omega), ← hl]
        have : x.length - 1 - m < x.cps.toList.length := by omega
        have e2 : x.cps.toList[x.length - 1 - m]? = some (x.cps.toList[x.length - 1 - m]) := List.getElem?_eq_getElem this
        rw [e2]
        simp only [List.filterMap_cons, e2, List.filterMap_nil, Option.toList]
    rw [hall _ (Nat.le_refl _), hl, ← List.length_reverse, List.take_length]
  rw [h2]
def revS (x : Str) : Str := ⟨x.cps.toList.reverse.toArray⟩
def tRevS (te : TE) : TE := fun σ H Q => te σ H fun x H1 => ∃ z, x = .str z ∧ z.length ≤ sizeLine ∧ Q (.str (revS z)) H1
theorem pe_revS {X : Cx} {e : Expr} {te : TE} {k : Nat} {p1 p2 p3 pos : Pos} (he : PE X e te) : PE X (.Subscript e (.Slice none none (some (.UnaryOp .USub (.Constant (.int 1) k p1) p2)) p3) pos) (tRevS te) := by
  refine ⟨fun pins s σ H Q I h => ?_⟩
  refine Subscript_ (thn (he.run pins s σ H _ I h) fun v s1 ⟨x, H1, I1, r1, z, ex, hz, q⟩ => ?_)
  subst ex
  obtain ⟨t, rfl⟩ := r1
  have hst : PO X (some (.UnaryOp .USub (.Constant (.int 1) k p1) p2)) (tPart (tUn (rU fun i => .int (-i)) (tC (.int 1)))) := po_some (pe_un un_neg pe_int)
  refine wpAny_Slice (thn (po_none.run pins s1 σ H1 (fun o H2 => o = none ∧ H2 = H1) I1 ⟨rfl, rfl⟩) fun vl s2 ⟨l, H2, I2, pl, el, e2⟩ => ?_)
  subst el e2
  refine thn (po_none.run pins s2 σ H2 (fun o H3 => o = none ∧ H3 = H2) I2 ⟨rfl, rfl⟩) fun vu s3 ⟨u, H3, I3, pu, eu, e3⟩ => ?_
  subst eu e3
  refine thn (hst.run pins s3 σ H3 (fun o H4 => o = some (-1) ∧ H4 = H3) I3 ⟨1, rfl, -1, rfl, rfl, rfl⟩) fun vs s4 ⟨o, H4, I4, ps, eo, e4⟩ => ?_
  subst eo e4
  obtain ⟨l', rfl, hl'⟩ := IsPart.raw pl
  obtain ⟨u', rfl, hu'⟩ := IsPart.raw pu
  obtain ⟨s', rfl, hs'⟩ := IsPart.raw ps
  have el' : l' = none := by cases l' with | none => rfl | some p => cases hl'
  have eu' : u' = none := by cases u' with | none => rfl | some p => cases hu'
  subst el' eu'
  cases s' with
  | none => cases hs'
  | some p =>
    obtain ⟨n, tk⟩ := p
    have en : n = -1 := by
      have := hs'
      simp only [Option.map_some, Option.some.injEq] at this
      exact this
    subst en
    have I5 : Inv X pins σ H4 { s4 with heap := s4.heap.push { cls := .type "slice", data := .fields #[partValue none, partValue none, partValue (some (-1, tk))] } } := I4.kept (t' := s4.toks) fun b ob q => Heap.get?_push_of_some _ q
    show wpAny (model X.prog X.w) X.A (subscriptTail e (.Slice none none (some (.UnaryOp .USub (.Constant (.int 1) k p1) p2)) p3) (.str z t) (.ref s4.heap.objs.size)) (EP X pins σ Q) X.xe { s4 with heap := s4.heap.push { cls := .type "slice", data := .fields #[partValue none, partValue none, partValue (some (-1, tk))] } }
    refine tail_any (ops := [.ref s4.heap.objs.size, .str z t]) (typeIs_str _ _ _) F.slot_str_getitem.lookup ?_ (by with_unfolding_all rfl)
    refine wpAny_getItem_str_slice (l := none) (u := none) (st := some (-1, tk)) ⟨_, Heap.get?_push_size _ rfl, rfl, rfl⟩ rfl ?_
    show Made.post (Made.str ⟨((Builtin.Str.strSliceIndices none none (-1) z.length).filterMap (z.cps[·]?)).toArray⟩) (EP X pins σ Q) _
    rw [rev_pick]
    have hlen : (revS z).length ≤ sizeLine := by
      simp only [revS, Str.length, List.size_toArray, List.length_reverse, Array.length_toList]
      exact hz
    exact ⟨hlen, .str (revS z), H4, I5.tok _, ⟨_, rfl⟩, q⟩
/-- x[::-1], a text or a list -/
def gRev (d : D) (Q : D → Prop) : Prop := match d with
  | .str z => z.length ≤ 100000 ∧ Q (.str (revS z))
  | _ => False
def wRevS (w : WE) : WE := fun px env Q => w px env fun d _ env1 => match d with
  | .str z => z.length ≤ 100000 ∧ Q (.str (revS z)) false env1
  | _ => False
def wRevL (w : WE) : WE := fun px env Q => w px env fun d _ env1 => match asL d with
  | some ds => dirtys ds = false ∧ Q (.lst true ds.reverse) false env1
  | none => False
theorem d_revS {X : Cx} {E : EX} {e : Expr} {w : WE} {k : Nat} {p1 p2 p3 pos : Pos} (he : DE X E e w) : DE X E (.Subscript e (.Slice none none (some (.UnaryOp .USub (.Constant (.int 1) k p1) p2)) p3) pos) (wRevS w) := by
  obtain ⟨t, p, s⟩ := he.ex
  refine ⟨_, pe_revS p, fun px F0 H0 F H σ env pv pd L S Q' Q w k => ?_⟩
  refine s px F0 H0 F H σ env pv pd L S _ _ w fun d b env1 v F1 H1 w1 eF eH R => ?_
  obtain ⟨⟨A, r⟩, S1⟩ := R.forget
  cases d with
  | str z => exact ⟨z, rep_str r, le_line w1.1, k _ _ env1 _ F1 H1 w1.2 eF eH (S1.clean (.str _))⟩
  | _ => exact w1.elim
theorem reps_rev {K : PySem.W.Frag} {F H : Hp} {vs : List V} {ds : List D} (r : Reps K F H vs ds []) : Reps K F H vs.reverse ds.reverse [] := by
  refine .of_clean (by simp [r.length]) fun i v d h1 h2 => ?_
  have hi : i < ds.length := by
    have := (List.getElem?_eq_some_iff.mp h2).1
    simpa using this
  rw [List.getElem?_reverse hi] at h2
  rw [List.getElem?_reverse (by rw [r.length]; exact hi), r.length] at h1
  exact r.clean_get h1 h2
theorem d_revL {X : Cx} {E : EX} {e : Expr} {w : WE} {k : Nat} {p1 p2 p3 pos : Pos} (he : DE X E e w) : DE X E (.Subscript e (.Slice none none (some (.UnaryOp .USub (.Constant (.int 1) k p1) p2)) p3) pos) (wRevL w) := by
  obtain ⟨t, p, s⟩ := he.ex
  refine ⟨_, pe_revL p, fun px F0 H0 F H σ env pv pd L S Q' Q w k => ?_⟩
  refine s px F0 H0 F H σ env pv pd L S _ _ w fun d b env1 v F1 H1 w1 eF eH R => ?_
  obtain ⟨⟨A, r⟩, S1⟩ := R.forget
  split at w1
  · rename_i ds hd
    obtain ⟨a, vs, B, rfl, hq, rs, _⟩ := rep_asL S1.sub r hd
    have c := rs.clean w1.1
    subst c
    refine ⟨a, vs, rfl, hq, fun p hp => k _ _ env1 _ F1 _ w1.2 eF (eH.trans (Ex.new hp)) (S1.push (Ex.new hp) (.own upd_same ((reps_rev rs).ex (Same.refl _) (Ex.new hp))) (by simp) (by simpa using hp))⟩
  · exact w1.elim
end Tm

set_option Elab.async false
set_option linter.all false
set_option maxRecDepth 100000
set_option maxHeartbeats 1000000
namespace Tm
open PySem PySem.Spec PyProof.Rows L2

/-! ### never reached; an item taken out of what is dropped -/
theorem s_never {X : Cx} {E : EX} {s : Stmt} : DS X E s wNever := ⟨tNever, ps_never, simS_never⟩
def atM (o : Option D) (Q : D → Prop) : Prop := match o with
  | some d => Q d
  | none => False
theorem atM_some {d : D} {Q : D → Prop} : atM (some d) Q = Q d := rfl
def gIxM : G2
  | .lst true ds, .int i, Q => atM (atI ds i) Q
  | _, _, _ => False
theorem gIxM_lst {ds : List D} {i : Int} {Q : D → Prop} : gIxM (.lst true ds) (.int i) Q = atM (atI ds i) Q := rfl
def wIxM (wa wb : WE) : WE := fun px env Q => wa px env fun a b env1 => b = false ∧ wb px env1 fun k _ env2 => gIxM a k fun d => Q d false env2
section
variable {K : PySem.W.Frag} {F H : Hp}
theorem Reps.pick : ∀ {vs : List V} {ds : List D} {A : List Addr} {i : Nat} {d : D}, Reps K F H vs ds A → ds[i]? = some d → ∃ v B, vs[i]? = some v ∧ Rep K F H v d B ∧ B.Sublist A
  | _, _, _, 0, d, .cons h _ e, q => by
    simp at q; subst q
    exact ⟨_, _, rfl, h, by rw [e]; exact List.sublist_append_left _ _⟩
  | _, _, _, i + 1, d, .cons _ r e, q => by
    obtain ⟨v, B, h1, h2, h3⟩ := Reps.pick (i := i) (d := d) r (by simpa using q)
    exact ⟨v, B, by simpa using h1, h2, by rw [e]; exact h3.trans (List.sublist_append_right _ _)⟩
theorem reps_pickI {vs : List V} {ds : List D} {A : List Addr} {i : Int} {d : D} (r : Reps K F H vs ds A) (h : atI ds i = some d) : ∃ v B, atI vs i = some v ∧ Rep K F H v d B ∧ B.Sublist A := by
  unfold atI at h ⊢
  rw [r.length]
  cases e : ixN ds.length i with
  | none => rw [e] at h; cases h
  | some j =>
    rw [e] at h
    exact r.pick (show ds[j]? = some d from h)
end
theorem sim_ixM {K : PySem.W.Frag} {E : EX} {wa wb : WE} {ta tb : TE} (ha : Sim K E wa ta) (hb : Sim K E wb tb) : Sim K E (wIxM wa wb) (tOp (rIx K) ta tb) := by
  intro px F0 H0 F H σ env pv pd L S Q' Q w k
  refine ha px F0 H0 F H σ env pv pd L S _ _ w fun a ba env1 x F1 H1 w1 eF1 eH1 R1 => ?_
  obtain ⟨hb0, w1⟩ := w1
  subst hb0
  have S1 : Sta K F0 H0 F1 H1 σ env1 (x :: pv) (a :: pd) := R1
  refine hb px F0 H0 F1 H1 σ env1 _ _ (L.push (qv := [_]) (qd := [_]) rfl) S1 _ _ w1 fun b bb env2 y F2 H2 w2 eF2 eH2 R2 => ?_
  obtain ⟨⟨B, ry⟩, S2⟩ := R2.forget
  unfold gIxM at w2
  split at w2
  · rename_i ds i
    obtain ⟨A0, B0, h1, h2, h3, h4⟩ := S2.own
    cases h2 with
    | cons r rr e =>
      rename_i A1 B1
      subst e
      cases r with
      | own q rs =>
        rename_i a vs A2
        rw [rep_int ry]
        cases hd : atI ds i with
        | none => rw [hd] at w2; exact w2.elim
        | some d =>
          rw [hd] at w2
          obtain ⟨v, C, e2, r2, sub⟩ := reps_pickI rs hd
          refine .inl ⟨a, vs, _, v, rfl, rfl, .inl (.inl q), e2, ?_⟩
          refine k d false env2 v F2 H2 w2 (eF1.trans eF2) (eH1.trans eH2) ?_
          have sub2 : (A0 ++ (C ++ B1)).Sublist (A0 ++ ((a :: A2) ++ B1)) := List.Sublist.append (List.Sublist.refl _) (List.Sublist.append (sub.trans (List.sublist_cons_self _ _)) (List.Sublist.refl _))
          exact ⟨S2.exF, S2.exH, S2.sub, S2.new, A0, C ++ B1, h1, .cons r2 rr rfl, List.Nodup.sublist sub2 h3, fun z hz => h4 z (sub2.subset hz)⟩
  · exact w2.elim
theorem d_ixM {X : Cx} {E : EX} {a b : Expr} {wa wb : WE} {pos : Pos} (ha : DE X E a wa) (hb : DE X E b wb) (hs : PlainIx b := by exact fun _ _ => rfl) : DE X E (.Subscript a b pos) (wIxM wa wb) := by
  obtain ⟨ta, pa, sa⟩ := ha.ex
  obtain ⟨tb, pb, sb⟩ := hb.ex
  exact ⟨_, pe_ix ix_seq pa pb hs, sim_ixM sa sb⟩

/-! ### what is new, frozen at once -/
def wFzE (w : WE) : WE := fun px env Q => w px env fun d b env1 => (b = false ∨ dirty d = false) ∧ Q (fz d) false env1
theorem Sta.frzHead {K : PySem.W.Frag} {F0 H0 F H : Hp} {σ : L2.St} {env : Env} {pv : List V} {pd : List D} {v : V} {d : D} (S : Sta K F0 H0 F H σ env (v :: pv) (d :: pd)) : ∃ F', Ex F F' ∧ Sta K F0 H0 F' H σ env (v :: pv) (fz d :: pd) := by
  obtain ⟨A0, B, h1, h2, h3, h4⟩ := S.own
  cases h2 with
  | cons r rr e =>
    rename_i Ai B1
    subst e
    let F' : Hp := fun a => if a ∈ Ai then H a else F a
    have hF : Ex F F' := fun a o q => by
      show (if a ∈ Ai then H a else F a) = some o
      split
      · exact S.sub _ _ q
      · exact q
    have hA : ∀ a ∈ Ai, F' a = H a := fun a ha => if_pos ha
    refine ⟨F', hF, S.exF.trans hF, S.exH, fun a o q => ?_, fun a q => ?_, A0, [] ++ B1, h1.ex hF (Same.refl _), .cons (r.frozen hF hA) (rr.ex hF (Same.refl _)) rfl, ?_, fun a ha => ?_⟩
    · by_cases hm : a ∈ Ai
      · rw [hA a hm] at q; exact q
      · have : F' a = F a := if_neg hm
        rw [this] at q; exact S.sub _ _ q
    · by_cases hm : a ∈ Ai
      · exact .inr (h4 a (by simp [hm])).2
      · have : F' a = F a := if_neg hm
        rw [this] at q; exact S.new a q
    · rw [List.nil_append]
      exact List.Nodup.sublist (List.Sublist.append (List.Sublist.refl _) (List.sublist_append_right _ _)) h3
    · rw [List.nil_append] at ha
      have hm : a ∉ Ai := fun hm => by
        rw [List.nodup_append] at h3
        rcases List.mem_append.mp ha with ha | ha
        · exact h3.2.2 a ha a (List.mem_append_left _ hm) rfl
        · exact (List.nodup_append.mp h3.2.1).2.2 a hm a ha rfl
      have : F' a = F a := if_neg hm
      rw [this]
      exact h4 a (by
        simp only [List.mem_append] at ha ⊢
        rcases ha with ha | ha
        · exact .inl ha
        · exact .inr (.inr ha))
theorem sim_fzE {K : PySem.W.Frag} {E : EX} {w : WE} {t : TE} (h : Sim K E w t) : Sim K E (wFzE w) t := by
  intro px F0 H0 F H σ env pv pd L S Q' Q w1 k
  refine h px F0 H0 F H σ env pv pd L S _ _ w1 fun d b env1 v F1 H1 w2 eF eH R => ?_
  obtain ⟨F', e', S'⟩ := (R.owned w2.1).frzHead
  exact k _ false env1 v F' H1 w2.2 (eF.trans e') eH S'
theorem d_fzE {X : Cx} {E : EX} {e : Expr} {w : WE} (h : DE X E e w) : DE X E e (wFzE w) := by
  obtain ⟨t, p, s⟩ := h.ex
  exact ⟨t, p, sim_fzE s⟩

/-! ### tuples of whole numbers, compared -/
def gLtT : G2
  | .tup ds, .tup es, Q => ∃ ns ms : List Int, ds = ns.map D.int ∧ es = ms.map D.int ∧ Q (.bl (HT.lexLt ns ms))
  | _, _, _ => False
theorem gLtT_is {ds es : List D} {Q : D → Prop} : gLtT (.tup ds) (.tup es) Q = ∃ ns ms : List Int, ds = ns.map D.int ∧ es = ms.map D.int ∧ Q (.bl (HT.lexLt ns ms)) := rfl
theorem opd_ltT {K : PySem.W.Frag} : OpD K gLtT (rLtT K) := by
  intro F H x y dx dy A B Q' Q hs rx ry w k
  unfold gLtT at w
  split at w
  · obtain ⟨ns, ms, rfl, rfl, w⟩ := w
    obtain ⟨a, vs, rfl, h1, r1⟩ := rep_tup rx
    obtain ⟨b, us, rfl, h2, r2⟩ := rep_tup ry
    obtain ⟨rfl, rfl⟩ := r1.ints
    obtain ⟨rfl, rfl⟩ := r2.ints
    exact ⟨a, b, ns, ms, rfl, rfl, h1, h2, k.same w (.bl _)⟩
  · exact w.elim

/-! ### sum, max, min, any, all, sorted -/
def gSum : GC
  | [d], Q => ∃ ns : List Int, asL d = some (ns.map D.int) ∧ Q (.int ns.sum)
  | _, _ => False
def gMax : GC
  | [d], Q => ∃ ns : List Int, asL d = some (ns.map D.int) ∧ 0 < ns.length ∧ ∀ m, m ∈ ns → (∀ y, y ∈ ns → y ≤ m) → Q (.int m)
  | _, _ => False
def gMin : GC
  | [d], Q => ∃ ns : List Int, asL d = some (ns.map D.int) ∧ 0 < ns.length ∧ ∀ m, m ∈ ns → (∀ y, y ∈ ns → m ≤ y) → Q (.int m)
  | _, _ => False
def gAny : GC
  | [d], Q => ∃ bs : List Bool, asL d = some (bs.map D.bl) ∧ Q (.bl (bs.any id))
  | _, _ => False
def gAll : GC
  | [d], Q => ∃ bs : List Bool, asL d = some (bs.map D.bl) ∧ Q (.bl (bs.all id))
  | _, _ => False
def gSorted : GC
  | [d], Q => ∃ ns : List Int, asL d = some (ns.map D.int) ∧ ∀ ns' : List Int, ns'.Perm ns → ns'.Pairwise (· ≤ ·) → Q (.lst true (ns'.map D.int))
  | _, _ => False
section
variable {K : PySem.W.Frag} {F H : Hp}
theorem rep_asL1 {v : V} {d : D} {ds : List D} {A : List Addr} (hs : Ex F H) (r : Rep K F H v d A) (h : asL d = some ds) : ∃ a vs B, v = .ref a ∧ SqL K H a vs ∧ Reps K F H vs ds B := by
  cases d with
  | lst o es =>
    cases h
    obtain ⟨a, vs, B, e, h1, r1⟩ := rep_lst hs r
    exact ⟨a, vs, B, e, .inl (.inl h1), r1⟩
  | seq es =>
    cases h
    cases r with
    | seq h1 r2 => exact ⟨_, _, _, rfl, Same.seq hs h1, r2⟩
  | _ => cases h
theorem Reps.bools : ∀ {vs : List V} {bs : List Bool} {A : List Addr}, Reps K F H vs (bs.map D.bl) A → vs = bs.map V.bl
  | _, [], _, .nil => rfl
  | _, b :: bs, _, .cons h r e => by
    have e1 := Reps.bools r
    cases h
    rw [e1]; rfl
theorem cd_sum : CallD K gSum (rSum K) := by
  intro F H xs ds A Q' Q hs r w k
  unfold gSum at w
  split at w
  · obtain ⟨ns, e, w⟩ := w
    obtain ⟨v, rfl, r1⟩ := reps1 r
    obtain ⟨a, vs, B, rfl, h1, r2⟩ := rep_asL1 hs r1 e
    obtain ⟨rfl, rfl⟩ := r2.ints
    exact ⟨a, ns, rfl, h1, k.same w (.int _)⟩
  · exact w.elim
theorem cd_max : CallD K gMax (rMax K) := by
  intro F H xs ds A Q' Q hs r w k
  unfold gMax at w
  split at w
  · obtain ⟨ns, e, hn, w⟩ := w
    obtain ⟨v, rfl, r1⟩ := reps1 r
    obtain ⟨a, vs, B, rfl, h1, r2⟩ := rep_asL1 hs r1 e
    obtain ⟨rfl, rfl⟩ := r2.ints
    exact ⟨a, ns, rfl, h1, hn, fun m h2 h3 => k.same (w m h2 h3) (.int _)⟩
  · exact w.elim
theorem cd_min : CallD K gMin (rMin K) := by
  intro F H xs ds A Q' Q hs r w k
  unfold gMin at w
  split at w
  · obtain ⟨ns, e, hn, w⟩ := w
    obtain ⟨v, rfl, r1⟩ := reps1 r
    obtain ⟨a, vs, B, rfl, h1, r2⟩ := rep_asL1 hs r1 e
    obtain ⟨rfl, rfl⟩ := r2.ints
    exact ⟨a, ns, rfl, h1, hn, fun m h2 h3 => k.same (w m h2 h3) (.int _)⟩
  · exact w.elim
theorem cd_any : CallD K gAny (rAny K) := by
  intro F H xs ds A Q' Q hs r w k
  unfold gAny at w
  split at w
  · obtain ⟨bs, e, w⟩ := w
    obtain ⟨v, rfl, r1⟩ := reps1 r
    obtain ⟨a, vs, B, rfl, h1, r2⟩ := rep_asL1 hs r1 e
    have := r2.bools
    subst this
    exact ⟨a, bs, rfl, h1, k.same w (.bl _)⟩
  · exact w.elim
theorem cd_all : CallD K gAll (rAll K) := by
  intro F H xs ds A Q' Q hs r w k
  unfold gAll at w
  split at w
  · obtain ⟨bs, e, w⟩ := w
    obtain ⟨v, rfl, r1⟩ := reps1 r
    obtain ⟨a, vs, B, rfl, h1, r2⟩ := rep_asL1 hs r1 e
    have := r2.bools
    subst this
    exact ⟨a, bs, rfl, h1, k.same w (.bl _)⟩
  · exact w.elim
theorem cd_sorted : CallD K gSorted (rSortedI K) := by
  intro F H xs ds A Q' Q hs r w k
  unfold gSorted at w
  split at w
  · obtain ⟨ns, e, w⟩ := w
    obtain ⟨v, rfl, r1⟩ := reps1 r
    obtain ⟨a, vs, B, rfl, h1, r2⟩ := rep_asL1 hs r1 e
    obtain ⟨rfl, rfl⟩ := r2.ints
    exact ⟨a, ns, rfl, h1, fun ns' p h2 h3 hp => k.lst (w ns' h2 h3) (Reps.of_ints ns') p hp⟩
  · exact w.elim
end

/-! ### a comprehension over a list that a name owns -/
def wLcV (i : Nat) (g : WG) (tt : WT) (te : WE) (vs : List Nat) : WE := fun _ env Q => match env[i]? with
  | some (some d) => match asL d with
    | some ds => dirtys ds = false ∧ lcW g tt te (wipeE (envF (env.set i none)) vs) (cleanE (env.set i none)) ds [] fun acc => Q (.lst true acc) false env
    | none => False
  | _ => False
theorem sim_lcV {K : PySem.W.Frag} {E : EX} {i : Nat} {g : WG} {tt : WT} {te : WE} {vs : List Nat} {tg : TG} {t1 : TT} {t2 : TE} (hg : SimG K g tg) (hk : Keep vs tg) (hm : MonoG tg) (ht : SimT K EN tt t1) (he : Sim K EN te t2) :
    Sim K E (wLcV i g tt te vs) (tLc (iList K (tVar i)) tg t1 t2 vs) := by
  intro px F0 H0 F H σ env pv pd L S Q' Q w k
  unfold wLcV at w
  split at w
  · rename_i d e
    split at w
    · rename_i ds hd
      obtain ⟨w1, w2⟩ := w
      obtain ⟨A0, B, h1, h2, h3, h4⟩ := S.own
      obtain ⟨v, A1, Ai, A2, e2, e3, r, s, _⟩ := h1.at e
      subst e3
      have S1 : Sta K F0 H0 F H σ (env.set i none) ([v] ++ pv) ([d] ++ pd) := by
        refine ⟨S.exF, S.exH, S.sub, S.new, A1 ++ A2, Ai ++ B, s, .cons r h2 rfl, ?_, fun a ha => h4 a ?_⟩
        · refine (List.Perm.nodup_iff ?_).mp h3
          rw [List.append_assoc, List.append_assoc, List.append_assoc]
          refine List.Perm.append_left _ ?_
          rw [← List.append_assoc, ← List.append_assoc]
          exact List.Perm.append_right _ List.perm_append_comm
        · simp only [List.mem_append] at ha ⊢
          rcases ha with (ha | ha) | ha | ha
          · exact .inl (.inl (.inl ha))
          · exact .inl (.inr ha)
          · exact .inl (.inl (.inr ha))
          · exact .inr ha
      obtain ⟨a, vs', B', rfl, hq, rs, _⟩ := rep_asL S.sub r hd
      refine ⟨.ref a, e2, a, rfl, ⟨vs', hq⟩, fun D hD => ?_⟩
      refine lc_run (pv := pv) (pd := pd) (pvx := [.ref a]) (pdx := [d]) hg hk hm ht he S1 ⟨rfl, fun F H A i e hs rr he => ?_, fun F H A hs rr => ?_⟩ w2 hD fun acc F2 H2 w3 eF2 _ eH2 S2 => ?_
      · cases rr with
        | cons r1 _ _ =>
          obtain ⟨a', vs', B', e1, hq', rs', _⟩ := rep_asL hs r1 hd
          cases e1
          obtain ⟨x, C, hx, rx, _⟩ := rs'.get he
          refine ⟨⟨vs', x, hq', hx⟩, fun x' H' y => ?_⟩
          obtain ⟨e2, y⟩ := y
          subst e2
          have := y vs' hq'
          rw [hx] at this; cases this
          have cl := rx.clean (dirtys_false.mp w1 e (List.mem_of_getElem? he))
          subst cl
          exact ⟨Same.refl _, rx⟩
      · cases rr with
        | cons r1 _ _ =>
          obtain ⟨a', vs', B', e1, hq', rs', _⟩ := rep_asL hs r1 hd
          cases e1
          exact ⟨vs', hq', Nat.le_of_eq rs'.length⟩
      · refine k (.lst true acc) false env (.ref D) F2 H2 w3 eF2 eH2 ?_
        obtain ⟨C0, C1, g1, g2, g3, g4⟩ := S2.own
        cases g2 with
        | cons rD rr eC =>
          cases rr with
          | cons rv rp eC2 =>
            rename_i CD CR Cv Cp
            subst eC2
            subst eC
            have hi : i < (env.set i none).length := by
              rw [List.length_set]
              exact (List.getElem?_eq_some_iff.mp e).1
            obtain ⟨D1, D2, Di, eD, sl⟩ := g1.put hi rv
            have ev : σ.set i (some (.ref a)) = σ := by
              obtain ⟨hi, hv⟩ := List.getElem?_eq_some_iff.mp e2
              rw [← hv]; exact List.set_getElem_self hi
            have ee : (env.set i none).set i (some d) = env := by
              obtain ⟨hi, hv⟩ := List.getElem?_eq_some_iff.mp e
              rw [List.set_set, ← hv]; exact List.set_getElem_self hi
            rw [ev, ee] at sl
            subst eD
            have sub : ∀ z, z ∈ (D1 ++ Cv ++ D2) ++ (CD ++ Cp) → z ∈ (D1 ++ Di ++ D2) ++ (CD ++ (Cv ++ Cp)) := fun z hz => by
              simp only [List.mem_append] at hz ⊢
              rcases hz with ((hz | hz) | hz) | hz | hz
              · exact .inl (.inl (.inl hz))
              · exact .inr (.inr (.inl hz))
              · exact .inl (.inr hz)
              · exact .inr (.inl hz)
              · exact .inr (.inr (.inr hz))
            refine ⟨S2.exF, S2.exH, S2.sub, S2.new, D1 ++ Cv ++ D2, CD ++ Cp, sl, .cons rD rp rfl, ?_, fun z hz => g4 z (sub z hz)⟩
            have p1 : ((D1 ++ D2) ++ (CD ++ (Cv ++ Cp))).Nodup := by
              refine List.Nodup.sublist ?_ g3
              refine List.Sublist.append ?_ (List.Sublist.refl _)
              exact List.Sublist.append (List.sublist_append_left _ _) (List.Sublist.refl _)
            refine (List.Perm.nodup_iff ?_).mp p1
            exact List.perm_iff_count.mpr fun z => by simp only [List.count_append]; omega
    · exact w.elim
  · exact w.elim
section
variable {X : Cx} {E : EX} {tg elt c : Expr} {scope : Scope} {own : List (Str × Nat)} {pos : Pos} {g : TG} {wg : WG} {we : WE} {wc : WT} {x : Str} {xpos : Pos}
theorem d_lcV {i : Nat} (hc : X.calm = true) (hN : X.N.Nodup) (hx : X.N[i]? = some x) (hv : Vis X.env.scope x) (hxd : (x == ("__debug__" : Str)) = false) (hxc : (x == ("__classdict__" : Str)) = false) (ok : BlkOk X.N X.env.scope scope own)
    (hg : ∀ (s : Shared) (H : Hp) (C : Addr) (cl : List (Str × Addr)) (fp : List Addr), DC (X.blk s H scope (compEnvC scope cl C X.env) fp) (own.map (·.2)) tg g wg)
    (he : ∀ (s : Shared) (H : Hp) (C : Addr) (cl : List (Str × Addr)) (fp : List Addr), DE (X.blk s H scope (compEnvC scope cl C X.env) fp) EN elt we) (hs : ∀ y, foldedSetIterable (.Name x xpos) X.env y = pure y := by intro _; rfl) :
    DE X E (.ListComp elt [⟨tg, .Name x xpos, [], 0⟩] scope pos) (wLcV i wg wYes we (own.map (·.2))) := by
  refine ⟨_, pe_lc (te := tW X.K EN we) hc hN (pi_list (pe_var hx hv hxd hxc)) ok (fun s H C cl fp => (hg s H C cl fp).p) (fun s H C cl fp => pts_nil) (fun s H C cl fp => (he s H C cl fp).canon) hs, ?_⟩
  have d := hg X.s_0 X.H_0 0 [] []
  exact sim_lcV d.s d.k d.m sim_yes sim_tW
theorem d_lcVIf {i : Nat} (hc : X.calm = true) (hN : X.N.Nodup) (hx : X.N[i]? = some x) (hv : Vis X.env.scope x) (hxd : (x == ("__debug__" : Str)) = false) (hxc : (x == ("__classdict__" : Str)) = false) (ok : BlkOk X.N X.env.scope scope own)
    (hg : ∀ (s : Shared) (H : Hp) (C : Addr) (cl : List (Str × Addr)) (fp : List Addr), DC (X.blk s H scope (compEnvC scope cl C X.env) fp) (own.map (·.2)) tg g wg)
    (ht : ∀ (s : Shared) (H : Hp) (C : Addr) (cl : List (Str × Addr)) (fp : List Addr), DT (X.blk s H scope (compEnvC scope cl C X.env) fp) EN c wc)
    (he : ∀ (s : Shared) (H : Hp) (C : Addr) (cl : List (Str × Addr)) (fp : List Addr), DE (X.blk s H scope (compEnvC scope cl C X.env) fp) EN elt we) (hs : ∀ y, foldedSetIterable (.Name x xpos) X.env y = pure y := by intro _; rfl) :
    DE X E (.ListComp elt [⟨tg, .Name x xpos, [c], 0⟩] scope pos) (wLcV i wg wc we (own.map (·.2))) := by
  refine ⟨_, pe_lc (te := tW X.K EN we) (tt := ttW X.K EN wc) hc hN (pi_list (pe_var hx hv hxd hxc)) ok (fun s H C cl fp => (hg s H C cl fp).p) (fun s H C cl fp => pts_one (ht s H C cl fp).canon) (fun s H C cl fp => (he s H C cl fp).canon) hs, ?_⟩
  have d := hg X.s_0 X.H_0 0 [] []
  exact sim_lcV d.s d.k d.m sim_ttW sim_tW
theorem s_setLcV {j i : Nat} {y : Str} {py spos : Pos} (hc : X.calm = true) (hN : X.N.Nodup) (hy : X.N[j]? = some y) (hyl : X.env.scope.names.lookup y = some .local)
    (hsw : swapsWith (.ListComp elt [⟨tg, .Name x xpos, [], 0⟩] scope pos) (some (.Name y py)) spos.line X.env = pure true) (hx : X.N[i]? = some x) (hv : Vis X.env.scope x) (hxd : (x == ("__debug__" : Str)) = false) (hxc : (x == ("__classdict__" : Str)) = false) (ok : BlkOk X.N X.env.scope scope own)
    (hg : ∀ (s : Shared) (H : Hp) (C : Addr) (cl : List (Str × Addr)) (fp : List Addr), DC (X.blk s H scope (compEnvC scope cl C X.env) fp) (own.map (·.2)) tg g wg)
    (he : ∀ (s : Shared) (H : Hp) (C : Addr) (cl : List (Str × Addr)) (fp : List Addr), DE (X.blk s H scope (compEnvC scope cl C X.env) fp) EN elt we) (hs : ∀ y, foldedSetIterable (.Name x xpos) X.env y = pure y := by intro _; rfl) :
    DS X E (.Assign [.Name y py] (.ListComp elt [⟨tg, .Name x xpos, [], 0⟩] scope pos) spos) (wAsg (wLcV i wg wYes we (own.map (·.2))) (gtName j)) := by
  refine ⟨_, ps_setLc (te := tW X.K EN we) hc hN hy hyl hsw (pi_list (pe_var hx hv hxd hxc)) ok (fun s H C cl fp => (hg s H C cl fp).p) (fun s H C cl fp => pts_nil) (fun s H C cl fp => (he s H C cl fp).canon) hs, ?_⟩
  have d := hg X.s_0 X.H_0 0 [] []
  exact simS_asg (sim_lcV d.s d.k d.m sim_yes sim_tW) simG_name
theorem s_setLcVIf {j i : Nat} {y : Str} {py spos : Pos} (hc : X.calm = true) (hN : X.N.Nodup) (hy : X.N[j]? = some y) (hyl : X.env.scope.names.lookup y = some .local)
    (hsw : swapsWith (.ListComp elt [⟨tg, .Name x xpos, [c], 0⟩] scope pos) (some (.Name y py)) spos.line X.env = pure true) (hx : X.N[i]? = some x) (hv : Vis X.env.scope x) (hxd : (x == ("__debug__" : Str)) = false) (hxc : (x == ("__classdict__" : Str)) = false) (ok : BlkOk X.N X.env.scope scope own)
    (hg : ∀ (s : Shared) (H : Hp) (C : Addr) (cl : List (Str × Addr)) (fp : List Addr), DC (X.blk s H scope (compEnvC scope cl C X.env) fp) (own.map (·.2)) tg g wg)
    (ht : ∀ (s : Shared) (H : Hp) (C : Addr) (cl : List (Str × Addr)) (fp : List Addr), DT (X.blk s H scope (compEnvC scope cl C X.env) fp) EN c wc)
    (he : ∀ (s : Shared) (H : Hp) (C : Addr) (cl : List (Str × Addr)) (fp : List Addr), DE (X.blk s H scope (compEnvC scope cl C X.env) fp) EN elt we) (hs : ∀ y, foldedSetIterable (.Name x xpos) X.env y = pure y := by intro _; rfl) :
    DS X E (.Assign [.Name y py] (.ListComp elt [⟨tg, .Name x xpos, [c], 0⟩] scope pos) spos) (wAsg (wLcV i wg wc we (own.map (·.2))) (gtName j)) := by
  refine ⟨_, ps_setLc (te := tW X.K EN we) (tt := ttW X.K EN wc) hc hN hy hyl hsw (pi_list (pe_var hx hv hxd hxc)) ok (fun s H C cl fp => (hg s H C cl fp).p) (fun s H C cl fp => pts_one (ht s H C cl fp).canon) (fun s H C cl fp => (he s H C cl fp).canon) hs, ?_⟩
  have d := hg X.s_0 X.H_0 0 [] []
  exact simS_asg (sim_lcV d.s d.k d.m sim_ttW sim_tW) simG_name
end
end Tm

set_option Elab.async false
set_option linter.all false
set_option maxRecDepth 100000
set_option maxHeartbeats 1000000
namespace Tm
open PySem PySem.Spec PyProof.Rows L2

/-! ### == over data, plainly -/
mutual
/-- fit for ==, of at most this depth -/
def okd : D → Nat → Bool
  | .non, _ => true
  | .bl _, _ => true
  | .int _, _ => true
  | .str x, _ => PyData.strOk x
  | .tup ds, n => n != 0 && okds ds (n - 1)
  | .lst _ ds, n => n != 0 && okds ds (n - 1)
  | .seq ds, n => n != 0 && okds ds (n - 1)
  | .ref _, _ => false
  | .ty _, _ => false
  | .dct _ _ _, _ => false
  | .pin _ _, _ => false
  | .obj _ _ _ _, _ => false
def okds : List D → Nat → Bool
  | [], _ => true
  | d :: ds, n => okd d n && okds ds n
end
mutual
theorem okd_fit : ∀ (d : D) (n : Nat), okd d n = true → isPy d = true ∧ (py d).canLay0 = true ∧ (py d).depth ≤ n
  | .non, _, _ => ⟨rfl, rfl, Nat.zero_le _⟩
  | .bl _, _, _ => ⟨rfl, rfl, Nat.zero_le _⟩
  | .int _, _, _ => ⟨rfl, rfl, Nat.zero_le _⟩
  | .str x, _, h => ⟨rfl, h, Nat.zero_le _⟩
  | .tup ds, n, h => by
    simp only [okd, Bool.and_eq_true, bne_iff_ne] at h
    obtain ⟨h1, h2, h3⟩ := okds_fit ds _ h.2
    refine ⟨by simpa [isPy] using h1, by simpa [py, PyData.canLay0] using h2, ?_⟩
    simp only [py, PyData.depth]; omega
  | .lst _ ds, n, h => by
    simp only [okd, Bool.and_eq_true, bne_iff_ne] at h
    obtain ⟨h1, h2, h3⟩ := okds_fit ds _ h.2
    refine ⟨by simpa [isPy] using h1, by simpa [py, PyData.canLay0] using h2, ?_⟩
    simp only [py, PyData.depth]; omega
  | .seq ds, n, h => by
    simp only [okd, Bool.and_eq_true, bne_iff_ne] at h
    obtain ⟨h1, h2, h3⟩ := okds_fit ds _ h.2
    refine ⟨by simpa [isPy] using h1, by simpa [py, PyData.canLay0] using h2, ?_⟩
    simp only [py, PyData.depth]; omega
  | .ref _, _, h => by simp [okd] at h
  | .ty _, _, h => by simp [okd] at h
  | .dct _ _ _, _, h => by simp [okd] at h
  | .pin _ _, _, h => by simp [okd] at h
  | .obj _ _ _ _, _, h => by simp [okd] at h
theorem okds_fit : ∀ (ds : List D) (n : Nat), okds ds n = true → isPys ds = true ∧ PyData.canLayAll0 (pys ds) = true ∧ PyData.depthAll (pys ds) ≤ n
  | [], _, _ => ⟨rfl, rfl, Nat.zero_le _⟩
  | d :: ds, n, h => by
    simp only [okds, Bool.and_eq_true] at h
    obtain ⟨h1, h2, h3⟩ := okd_fit d n h.1
    obtain ⟨g1, g2, g3⟩ := okds_fit ds n h.2
    refine ⟨by simp [isPys, h1, g1], by simp [pys, PyData.canLayAll0, h2, g2], ?_⟩
    simp only [pys, PyData.depthAll]; omega
end
theorem shD_of {d : D} (n : Nat) (h : okd d n = true) (hn : n ≤ 64) : shD d = true := by
  obtain ⟨h1, h2, h3⟩ := okd_fit d n h
  unfold shD SeqAt.shaped
  rw [h1, h2, decide_eq_true (by omega)]; rfl
mutual
theorem okd_mono : ∀ (d : D) (n m : Nat), n ≤ m → okd d n = true → okd d m = true
  | .non, _, _, _, _ => rfl
  | .bl _, _, _, _, _ => rfl
  | .int _, _, _, _, _ => rfl
  | .str x, _, _, _, h => h
  | .tup ds, n, m, hm, h => by
    simp only [okd, Bool.and_eq_true, bne_iff_ne] at h ⊢
    exact ⟨by omega, okds_mono ds (n - 1) (m - 1) (by omega) h.2⟩
  | .lst _ ds, n, m, hm, h => by
    simp only [okd, Bool.and_eq_true, bne_iff_ne] at h ⊢
    exact ⟨by omega, okds_mono ds (n - 1) (m - 1) (by omega) h.2⟩
  | .seq ds, n, m, hm, h => by
    simp only [okd, Bool.and_eq_true, bne_iff_ne] at h ⊢
    exact ⟨by omega, okds_mono ds (n - 1) (m - 1) (by omega) h.2⟩
  | .ref _, _, _, _, h => by simp [okd] at h
  | .ty _, _, _, _, h => by simp [okd] at h
  | .dct _ _ _, _, _, _, h => by simp [okd] at h
  | .pin _ _, _, _, _, h => by simp [okd] at h
  | .obj _ _ _ _, _, _, _, h => by simp [okd] at h
theorem okds_mono : ∀ (ds : List D) (n m : Nat), n ≤ m → okds ds n = true → okds ds m = true
  | [], _, _, _, _ => rfl
  | d :: ds, n, m, hm, h => by
    simp only [okds, Bool.and_eq_true] at h ⊢
    exact ⟨okd_mono d n m hm h.1, okds_mono ds n m hm h.2⟩
end
theorem okds_all {n : Nat} : ∀ {ds : List D}, okds ds n = true ↔ ∀ d ∈ ds, okd d n = true
  | [] => by simp [okds]
  | d :: ds => by simp [okds, okds_all (ds := ds)]
theorem okds_ints (ns : List Int) (n : Nat) : okds (ns.map D.int) n = true := okds_all.mpr fun d hd => by
  obtain ⟨i, _, rfl⟩ := List.mem_map.mp hd; rfl
mutual
/-- data, whoever owns it -/
def can : D → D
  | .tup ds => .tup (cans ds)
  | .lst _ ds => .lst false (cans ds)
  | .seq ds => .lst false (cans ds)
  | .non => .non
  | .bl b => .bl b
  | .int i => .int i
  | .str x => .str x
  | .ref a => .ref a
  | .ty n => .ty n
  | .dct o kd ds => .dct o kd ds
  | .pin a ds => .pin a ds
  | .obj o c ns ds => .obj o c ns ds
def cans : List D → List D
  | [] => []
  | d :: ds => can d :: cans ds
end
theorem cans_map : ∀ (ds : List D), cans ds = ds.map can
  | [] => rfl
  | d :: ds => by simp [cans, cans_map ds]
theorem cans_ints (ns : List Int) : cans (ns.map D.int) = ns.map D.int := by
  rw [cans_map, List.map_map]; rfl
theorem cans_app (a b : List D) : cans (a ++ b) = cans a ++ cans b := by simp [cans_map]
mutual
/-- no True, no False in it -/
def noB : D → Bool
  | .tup ds => noBs ds
  | .lst _ ds => noBs ds
  | .seq ds => noBs ds
  | .non => true
  | .int _ => true
  | .str _ => true
  | .bl _ => false
  | .ref _ => false
  | .ty _ => false
  | .dct _ _ _ => false
  | .pin _ _ => false
  | .obj _ _ _ _ => false
def noBs : List D → Bool
  | [] => true
  | d :: ds => noB d && noBs ds
end
theorem noBs_all : ∀ {ds : List D}, noBs ds = true ↔ ∀ d ∈ ds, noB d = true
  | [] => by simp [noBs]
  | d :: ds => by simp [noBs, noBs_all (ds := ds)]
theorem noBs_ints (ns : List Int) : noBs (ns.map D.int) = true := noBs_all.mpr fun d hd => by
  obtain ⟨i, _, rfl⟩ := List.mem_map.mp hd; rfl
mutual
theorem eqD_iff : ∀ (a b : D), noB a = true → noB b = true → (PyData.eqv (py a) (py b) = true ↔ can a = can b)
  | .non, b, ha, hb => by cases b <;> simp [py, PyData.eqv, can, noB] at ha hb ⊢
  | .int i, b, ha, hb => by cases b <;> simp [py, PyData.eqv, can, noB] at ha hb ⊢
  | .str i, b, ha, hb => by cases b <;> simp [py, PyData.eqv, can, noB] at ha hb ⊢
  | .tup ds, b, ha, hb => by
    have ih := eqDs_iff ds
    cases b <;> simp [py, PyData.eqv, can, noB] at ha hb ⊢
    exact ih _ ha hb
  | .lst o ds, b, ha, hb => by
    have ih := eqDs_iff ds
    cases b <;> simp [py, PyData.eqv, can, noB] at ha hb ⊢
    · exact ih _ ha hb
    · exact ih _ ha hb
  | .seq ds, b, ha, hb => by
    have ih := eqDs_iff ds
    cases b <;> simp [py, PyData.eqv, can, noB] at ha hb ⊢
    · exact ih _ ha hb
    · exact ih _ ha hb
  | .bl _, _, ha, _ => by simp [noB] at ha
  | .ref _, _, ha, _ => by simp [noB] at ha
  | .ty _, _, ha, _ => by simp [noB] at ha
  | .dct _ _ _, _, ha, _ => by simp [noB] at ha
  | .pin _ _, _, ha, _ => by simp [noB] at ha
  | .obj _ _ _ _, _, ha, _ => by simp [noB] at ha
theorem eqDs_iff : ∀ (a b : List D), noBs a = true → noBs b = true → (PyData.eqvAll (pys a) (pys b) = true ↔ cans a = cans b)
  | [], b, ha, hb => by cases b <;> simp [pys, PyData.eqvAll, cans]
  | d :: ds, b, ha, hb => by
    cases b with
    | nil => simp [pys, PyData.eqvAll, cans]
    | cons e es =>
      simp only [noBs, Bool.and_eq_true] at ha hb
      simp only [pys, PyData.eqvAll, cans, Bool.and_eq_true, List.cons.injEq]
      rw [eqD_iff d e ha.1 hb.1, eqDs_iff ds es ha.2 hb.2]
end
theorem eqD_true {a b : D} (ha : noB a = true) (hb : noB b = true) (h : can a = can b) : eqD a b = true := (eqD_iff a b ha hb).mpr h
theorem eqD_false {a b : D} (ha : noB a = true) (hb : noB b = true) (h : can a ≠ can b) : eqD a b = false := by
  cases e : eqD a b with
  | false => rfl
  | true => exact absurd ((eqD_iff a b ha hb).mp e) h
theorem eqD_dec {a b : D} {p : Prop} [Decidable p] (ha : noB a = true) (hb : noB b = true) (h : can a = can b ↔ p) : eqD a b = decide p := by
  by_cases hp : p
  · rw [decide_eq_true hp]; exact eqD_true ha hb (h.mpr hp)
  · rw [decide_eq_false hp]; exact eqD_false ha hb fun z => hp (h.mp z)
theorem ints_inj {ns ms : List Int} : ns.map D.int = ms.map D.int ↔ ns = ms :=
  ⟨fun h => List.map_inj_right (fun a b e => by cases e; rfl) |>.mp h, fun h => by rw [h]⟩
/-- == of two data fit for it -/
theorem eqK_of {a b : D} {Q : Bool → Prop} (hs : scEq a b = none) (ha : okd a 64 = true) (hb : okd b 64 = true) (q : Q (eqD a b)) : eqK (scEq a b) a b Q := by
  rw [hs, eqK_none]
  exact ⟨shD_of 64 ha (Nat.le_refl _), shD_of 64 hb (Nat.le_refl _), q⟩
end Tm

set_option Elab.async false
set_option linter.all false
set_option maxRecDepth 100000
set_option maxHeartbeats 1000000
namespace Tm
open PySem PySem.Spec PyProof.Rows L2

/-! ### plain lemmas -/
theorem cutD_to {xs : List D} {n : Nat} : cutD xs none (some (n : Int)) = xs.take n := by
  unfold cutD
  rw [HT.sIx_none, HT.sIx_nat, List.drop_zero, Nat.sub_zero]
  by_cases h : n ≤ xs.length
  · rw [Nat.min_eq_left h]
  · rw [Nat.min_eq_right (by omega), List.take_of_length_le (Nat.le_refl _), List.take_of_length_le (by omega)]
theorem cutD_from {xs : List D} {n : Nat} : cutD xs (some (n : Int)) none = xs.drop n := by
  unfold cutD
  rw [HT.sIx_none, HT.sIx_nat]
  by_cases h : n ≤ xs.length
  · rw [Nat.min_eq_left h, List.take_of_length_le (by simp)]
  · rw [Nat.min_eq_right (by omega), List.drop_of_length_le (Nat.le_refl _), List.drop_of_length_le (by omega), List.take_nil]
theorem cutD_mid {xs : List D} {n m : Nat} : cutD xs (some (n : Int)) (some (m : Int)) = (xs.drop n).take (m - n) := by
  unfold cutD
  rw [HT.sIx_nat, HT.sIx_nat]
  by_cases h : n ≤ xs.length
  · rw [Nat.min_eq_left h]
    by_cases h2 : m ≤ xs.length
    · rw [Nat.min_eq_left h2]
    · rw [Nat.min_eq_right (by omega), List.take_of_length_le (by simp), List.take_of_length_le (by simp; omega)]
  · rw [Nat.min_eq_right (by omega : xs.length ≤ n), List.drop_of_length_le (Nat.le_refl _), List.drop_of_length_le (by omega)]
    simp
theorem cutD_one {xs : List D} : cutD xs (some 1) none = xs.drop 1 := cutD_from (n := 1)
theorem atI_get {α : Type} {ds : List α} {k : Int} {j : Nat} {d : α} (e : k = (j : Int)) (h : ds[j]? = some d) : atI ds k = some d := by
  rw [e]; exact atI_nat h
theorem atI_lt {α : Type} {ds : List α} {k : Int} (h0 : 0 ≤ k) (h : k < ds.length) : atI ds k = some (ds[k.toNat]'(by omega)) := by
  have e : k = ((k.toNat : Nat) : Int) := by omega
  exact atI_get e (List.getElem?_eq_getElem (by omega))
theorem atI_last' {α : Type} {ds : List α} {d : α} (h : ds.getLast? = some d) : atI ds (-1) = some d := by
  have hl : ds ≠ [] := by intro z; rw [z] at h; cases h
  have hn : 0 < ds.length := List.length_pos_iff.mpr hl
  unfold atI
  have e : ixN ds.length (-1) = some (ds.length - 1) := by
    unfold ixN
    rw [if_neg (by omega), if_pos (by omega)]
    congr 1
    omega
  rw [e]
  rw [List.getLast?_eq_getElem?] at h
  exact h
theorem dirtys_mapI {α : Type} {f : α → D} (hf : ∀ a, dirty (f a) = false) (xs : List α) : dirtys (xs.map f) = false := dirtys_false.mpr fun d hd => by
  obtain ⟨a, _, rfl⟩ := List.mem_map.mp hd
  exact hf a
theorem fzs_mapI {α : Type} {f : α → D} (hf : ∀ a, fz (f a) = f a) (xs : List α) : fzs (xs.map f) = xs.map f := by
  rw [fzs_map, List.map_map]
  exact List.map_congr_left fun a _ => hf a
theorem cans_mapI {α : Type} {f : α → D} (hf : ∀ a, can (f a) = f a) (xs : List α) : cans (xs.map f) = xs.map f := by
  rw [cans_map, List.map_map]
  exact List.map_congr_left fun a _ => hf a
theorem noBs_mapI {α : Type} {f : α → D} (hf : ∀ a, noB (f a) = true) (xs : List α) : noBs (xs.map f) = true := noBs_all.mpr fun d hd => by
  obtain ⟨a, _, rfl⟩ := List.mem_map.mp hd
  exact hf a
theorem okds_mapI {α : Type} {f : α → D} {n : Nat} (xs : List α) (hf : ∀ a ∈ xs, okd (f a) n = true) : okds (xs.map f) n = true := okds_all.mpr fun d hd => by
  obtain ⟨a, ha, rfl⟩ := List.mem_map.mp hd
  exact hf a ha
theorem map_inj' {α : Type} {f : α → D} (hf : ∀ a b, f a = f b → a = b) {xs ys : List α} : xs.map f = ys.map f ↔ xs = ys :=
  ⟨fun h => (List.map_inj_right hf).mp h, fun h => by rw [h]⟩
theorem map_get {α : Type} {f : α → D} {xs : List α} {i : Nat} {d : D} (h : (xs.map f)[i]? = some d) : ∃ a, xs[i]? = some a ∧ d = f a := by
  rw [List.getElem?_map] at h
  cases e : xs[i]? with
  | none => rw [e] at h; cases h
  | some a => rw [e] at h; cases h; exact ⟨a, rfl, rfl⟩
theorem enum_get {α : Type} {f : α → D} {xs : List α} {i : Nat} {d : D} (h : (enumD 0 (xs.map f))[i]? = some d) : ∃ a, xs[i]? = some a ∧ d = .tup [.int (i : Int), f a] := by
  rw [enumD_get] at h
  cases e : (xs.map f)[i]? with
  | none => rw [e] at h; cases h
  | some x =>
    obtain ⟨a, ha, rfl⟩ := map_get e
    rw [e] at h; cases h
    exact ⟨a, ha, by rw [Nat.zero_add]⟩
theorem map_at {α : Type} {f : α → D} {xs : List α} {k : Int} {j : Nat} {a : α} (e : k = (j : Int)) (h : xs[j]? = some a) : atI (xs.map f) k = some (f a) := atI_get e (by rw [List.getElem?_map, h]; rfl)
theorem signs_get {w : Str} {i : Nat} {d : D} (h : (signsD w)[i]? = some d) : ∃ c, w.cps.toList[i]? = some c ∧ d = .str ⟨#[c]⟩ := by
  unfold signsD at h
  rw [List.getElem?_map] at h
  cases e : w.cps.toList[i]? with
  | none => rw [e] at h; cases h
  | some a => rw [e] at h; cases h; exact ⟨a, rfl, rfl⟩
theorem signs_len {w : Str} : (signsD w).length = w.cps.toList.length := by simp [signsD]
theorem inStr_one {c : Nat} {z : Str} : inStr ⟨#[c]⟩ z = decide (c ∈ z.cps.toList) := rfl
theorem str_len {w : Str} : w.cps.toList.length = w.length := by
  show w.cps.toList.length = w.cps.size
  simp
theorem str_app {v w : Str} : (v ++ w).cps.toList = v.cps.toList ++ w.cps.toList := Array.toList_append
/-- a comprehension's turns over data of one kind -/
theorem lcW_map {g : WG} {tt : WT} {te : WE} {env : Env} {cl : Bool} {α : Type} {Q : List D → Prop} (f : α → D) (keep : α → Bool) (h : α → D) : ∀ (xs : List α) (acc : List D), acc.length + xs.length ≤ 100000 →
    (∀ a ∈ xs, ∀ (Y : D → Prop) (N : Prop), (keep a = true → Y (h a)) → (keep a = false → N) → g (f a) env fun env2 => tt px0 env2 fun b env3 => if b = true then te px0 env3 fun y by_ _ => (by_ = false ∨ dirty y = false) ∧ (cl = true ∨ selfc y = true) ∧ Y y else N) →
    Q (acc ++ (xs.filter keep).map h) → lcW g tt te env cl (xs.map f) acc Q
  | [], acc, _, _, q => by simpa [lcW] using q
  | a :: xs, acc, hl, st, q => by
    have hl' : acc.length + (xs.length + 1) ≤ 100000 := hl
    refine st a List.mem_cons_self (fun y => acc.length ≤ 100000 ∧ lcW g tt te env cl (xs.map f) (acc ++ [y]) Q) (lcW g tt te env cl (xs.map f) acc Q) (fun k => ⟨by omega, ?_⟩) (fun k => ?_)
    · refine lcW_map f keep h xs _ (by simp; omega) (fun b hb => st b (List.mem_cons_of_mem _ hb)) ?_
      rw [List.filter_cons, if_pos k] at q
      simpa using q
    · refine lcW_map f keep h xs _ (by omega) (fun b hb => st b (List.mem_cons_of_mem _ hb)) ?_
      rw [List.filter_cons, if_neg (by simp [k])] at q
      exact q
theorem filter_yes {α : Type} {xs : List α} : xs.filter (fun _ => true) = xs := List.filter_eq_self.mpr fun _ _ => rfl

theorem eqD_ilst {o p : Bool} (k k' : List Int) : eqD (.lst o (k.map .int)) (.lst p (k'.map .int)) = decide (k = k') :=
  eqD_dec (noBs_ints k) (noBs_ints k') (by show D.lst false _ = D.lst false _ ↔ _; rw [D.lst.injEq, cans_ints, cans_ints, ints_inj]; simp)
theorem shD_ilst {o : Bool} (k : List Int) : shD (.lst o (k.map .int)) = true := shD_of 64 (by simp only [okd, okds_ints]; rfl) (by decide)
theorem shD_nil {o : Bool} : shD (.lst o []) = true := rfl
theorem eqD_nil {o p : Bool} {ds : List D} : eqD (.lst o ds) (.lst p []) = decide (ds = []) := by
  cases ds with
  | nil => rfl
  | cons d ds => rfl
theorem shD_slst {o : Bool} {α : Type} {f : α → Str} (xs : List α) (h : ∀ x ∈ xs, PyData.strOk (f x) = true) : shD (.lst o (xs.map fun x => .str (f x))) = true := shD_of 64 (by
  simp only [okd]
  rw [okds_mapI]
  · rfl
  · exact h) (by decide)

theorem envF_cons {x : Option D} {r : Env} : envF (x :: r) = x.map fz :: envF r := by cases x <;> rfl
theorem envF_nil : envF [] = [] := rfl

theorem ixN_lt {n a : Nat} (h : a < n) : ixN n (a : Int) = some a := by
  unfold ixN
  rw [if_pos (by omega), if_pos (by omega), Int.toNat_natCast]
theorem set_map {α : Type} {f : α → D} {xs : List α} {j : Nat} {a : α} {d : D} (h : d = f a) : (xs.map f).set j d = (xs.set j a).map f := by rw [List.map_set, h]

theorem selfcs_mapI {α : Type} {f : α → D} (hf : ∀ a, selfc (f a) = true) (xs : List α) : selfcs (xs.map f) = true := selfcs_true.mpr fun d hd => by
  obtain ⟨a, _, rfl⟩ := List.mem_map.mp hd
  exact hf a

end Tm

set_option Elab.async false
set_option linter.all false
set_option maxRecDepth 100000
set_option maxHeartbeats 1000000
namespace Tm
open PySem PySem.Spec PyProof.Rows L2

/-! ### enumerate(text) -/
/-- the i-th sign in a new pair -/
def ItS (x : Str) : It :=
  ⟨fun i _ => i < x.cps.size, fun i H v H' => ∃ T c, v = .ref T ∧ H T = none ∧ H' = upd H T (.tup [.int (i : Nat), .str ⟨#[c]⟩]) ∧ x.cps[i]? = some c, fun i _ => x.cps.size ≤ i⟩
theorem turn_enumS {P : Program} {w : World} {K : PySem.W.Frag} {elts : List Expr} {kk : Nat} {tpos : Pos} (x : Str) (t : Tok) (e it : Addr) :
    Turn P w K (.Tuple elts kk tpos) (ItS x) [e, it] e (fun i h => (∃ old, IsEnum h e it ((i : Nat) : Int) old) ∧ h.IsStrIter it (strIterType x) x t i ∧ e ≠ it ∧ i ≤ x.cps.size) where
  mem := by simp
  obj := fun i h st b hb => by
    obtain ⟨⟨old, he⟩, ⟨o, ho, hc, hd⟩, _⟩ := st
    have e' : b = e ∨ b = it := by simpa using hb
    rcases e' with z | z
    · rw [z]; exact ⟨_, he, fun v q => nomatch q⟩
    · rw [z]; exact ⟨o, ho, fun v q => by rw [hd] at q; cases q⟩
  keep := fun i h h' st k => let ⟨⟨old, he⟩, ⟨o, ho, r⟩, hne⟩ := st; ⟨⟨old, k e (by simp) _ he⟩, ⟨o, k it (by simp) o ho, r⟩, hne⟩
  item := by
    intro X hP hw hK hc i pins s σ H E I hf st hg
    subst hP hw hK
    obtain ⟨⟨old, he⟩, hit, hne, hle⟩ := st
    have hg : i < x.cps.size := hg
    have hel : e < s.heap.objs.size := Heap.lt_size he
    have hil : it < s.heap.objs.size := by obtain ⟨_, q, _⟩ := hit; exact Heap.lt_size q
    have key : wpAny (model X.prog X.w) X.A (pyNext (.ref e)) (fun r s1 => ∃ c u h' tk, x.cps[i]? = some c ∧ r = some (.ref s.heap.objs.size) ∧ s1 = { s with heap := h', toks := tk + 1 } ∧ IsEnumOut h' e it ((i : Int) + 1) (.str ⟨#[c]⟩ u) s.heap.objs.size ∧ h'.IsStrIter it (strIterType x) x t (i + 1) ∧
        h'.get? s.heap.objs.size = some { cls := .type "tuple", data := .seq #[.int i tk, .str ⟨#[c]⟩ u] } ∧ (∀ b o, b ≠ e → b ≠ it → s.heap.get? b = some o → h'.get? b = some o)) E s := by
      cases ha : x.cps.all (· < 128)
      · have ety : strIterType x = "str_iterator" := by simp [strIterType, ha]
        rw [ety] at hit ⊢
        refine wpAny_pyNext_enum_itemD (Draws.strWide (A := X.A.in1) (I.ok.hd hc) it x t) he hit hg hne (by simpa using hne) fun v h' tk hv ho st' hT hsz hk => ?_
        obtain ⟨c, u, hcx, rfl⟩ := hv
        exact ⟨c, u, h', tk, hcx, rfl, rfl, ho, st', hT, hk⟩
      · have ety : strIterType x = "str_ascii_iterator" := by simp [strIterType, ha]
        rw [ety] at hit ⊢
        refine wpAny_pyNext_enum_itemD (Draws.strAscii (A := X.A.in1) (I.ok.hd hc) it x t) he hit hg hne (by simpa using hne) fun v h' tk hv ho st' hT hsz hk => ?_
        obtain ⟨c, u, hcx, rfl⟩ := hv
        exact ⟨c, u, h', tk, hcx, rfl, rfl, ho, st', hT, hk⟩
    refine thn key fun r s1 ⟨c, u, h', tk, hcx, er, es, ho, hit', hT, hk⟩ => ?_
    subst er es
    refine ⟨_, rfl, wpAny_letOwnedTupleGo_enum (s := { s with heap := h', toks := tk + 1 }) ho fun h'' he' sb => ?_⟩
    have hT2 : h''.get? s.heap.objs.size = some { cls := .type "tuple", data := .seq #[.int i tk, .str ⟨#[c]⟩ u] } := (sb.2 _ (Nat.ne_of_gt hel)).trans hT
    have new : ObjOk X.prog X.w (upd H s.heap.objs.size (.tup [.int (i : Nat), .str ⟨#[c]⟩])) h'' s.heap.objs.size (.tup [.int (i : Nat), .str ⟨#[c]⟩]) :=
      ⟨by show 2 ≤ sizeLine; decide, [.int i tk, .str ⟨#[c]⟩ u], .cons ⟨_, rfl⟩ (.cons ⟨_, rfl⟩ .nil), ⟨_, hT2, rfl, _, rfl⟩⟩
    have I1 : Inv X pins σ (upd H s.heap.objs.size (.tup [.int (i : Nat), .str ⟨#[c]⟩])) { s with heap := h'', toks := tk + 1 } :=
      I.turnedNew (ch := [e, it]) (fun b ob hb q => (sb.2 b (fun z => hb (by simp [z]))).trans (hk b ob (fun z => hb (by simp [z])) (fun z => hb (by simp [z])) q)) hf (Nat.le_refl _) new
    refine ⟨.ref s.heap.objs.size, _, I1, rfl, ⟨_, c, rfl, I.hok.fresh (Nat.le_refl _), rfl, hcx⟩, ⟨⟨.str ⟨#[c]⟩ u, ?_⟩, ?_, hne, hg⟩, fun b hb => ?_⟩
    · have e1 : ((i + 1 : Nat) : Int) = (i : Int) + 1 := by omega
      rw [e1]; exact he'
    · obtain ⟨o, ho2, r⟩ := hit'
      exact ⟨o, (sb.2 it (Ne.symm hne)).trans ho2, r⟩
    · have hb' : b < s.heap.objs.size := by
        have e' : b = e ∨ b = it := by simpa using hb
        rcases e' with z | z
        · rw [z]; exact hel
        · rw [z]; exact hil
      rw [upd_ne (Nat.ne_of_lt hb')]
      exact (hf b hb).1
  done := by
    intro X hP hw hK hc i pins s σ H E I hf st hg
    subst hP hw hK
    obtain ⟨⟨old, he⟩, hit, hne, hle⟩ := st
    obtain ⟨f0, f1, f2, f3, f4, f5⟩ := hf it (by simp)
    have hg : x.cps.size ≤ i := hg
    have e0 : i = x.cps.size := Nat.le_antisymm hle hg
    subst e0
    cases ha : x.cps.all (· < 128)
    · have ety : strIterType x = "str_iterator" := by simp [strIterType, ha]
      rw [ety] at hit
      exact wpAny_pyNext_enum_endD (Draws.strWide (A := X.A.in1) (I.ok.hd hc) it x t) he hit fun h' eb => ⟨rfl, I.turned (t' := s.toks) (fun b o hb q => eb b o hb q) f0 f1 f3 f4 f5⟩
    · have ety : strIterType x = "str_ascii_iterator" := by simp [strIterType, ha]
      rw [ety] at hit
      exact wpAny_pyNext_enum_endD (Draws.strAscii (A := X.A.in1) (I.ok.hd hc) it x t) he hit fun h' eb => ⟨rfl, I.turned (t' := s.toks) (fun b o hb q => eb b o hb q) f0 f1 f3 f4 f5⟩
  self := fun A i s Q E st h => let ⟨⟨_, he⟩, _⟩ := st; wpAny_pyIter_enum he h
def iEnumS (ta : TA) : TI := fun σ H R => ta σ H fun vs H1 => ∃ x, vs = [.str x] ∧ R (ItS x) H1
theorem pi_enumS {X : Cx} {e : Expr} {ta : TA} {p pos tpos : Pos} {elts : List Expr} {kk : Nat} (hg : Gl X "enumerate") (hm : X.mg "enumerate" = none) (ha : PA X [e] ta) (hs : starEach [e] X.env = [(false, eval e X.env)] := by rfl) :
    PI X (.Tuple elts kk tpos) (.Call (.Name "enumerate" p) [e] [] pos) (iEnumS ta) := by
  refine ⟨fun pins s σ H R I h => ?_⟩
  refine Call_ (ld_blt I hg hm PyProof.Rows.boot_enumerate (PyProof.Rows.callWith_type1 (thn (ha.run pos pins s σ H _ I h) fun us s1 ⟨vs, H1, I1, r1, q1⟩ => ?_) hs rfl))
  obtain ⟨x, ex, q⟩ := q1
  subst ex
  cases r1 with
  | cons r rr =>
    cases rr
    obtain ⟨t, rfl⟩ := r
    refine call_enumerate_str fun h' he hit hsz hk => wpAny_pyIter_enum he ?_
    have I2 : Inv X pins σ H1 { s1 with heap := h' } := I1.kept (t' := s1.toks) hk
    refine ⟨s1.heap.objs.size + 1, [s1.heap.objs.size + 1, s1.heap.objs.size], _, _, H1, rfl, I2, turn_enumS x t (s1.heap.objs.size + 1) s1.heap.objs.size, ⟨⟨.none, he⟩, hit, Nat.succ_ne_self _, Nat.zero_le _⟩, fun b hb => ?_, q⟩
    have e' : b = s1.heap.objs.size + 1 ∨ b = s1.heap.objs.size := by simpa using hb
    have hle : s1.heap.objs.size ≤ b := by
      rcases e' with z | z
      · rw [z]; exact Nat.le_add_right _ _
      · rw [z]; exact Nat.le_refl _
    exact I1.fpOk hle (I1.hok.fresh hle)
def itsES (w : WA) : WI := fun px env Q => w px env fun ds env1 => match ds with
  | [.str x] => Q (enumD 0 (signsD x)) env1
  | _ => False
theorem simI_ES {K : PySem.W.Frag} {E : EX} {w : WA} {t : TA} (h : SimA K E w t) : SimI K E (itsES w) (iEnumS t) := by
  intro px F0 H0 F H σ env pv pd L S Q' R w1 k
  refine h px F0 H0 F H σ env pv pd L S _ _ w1 fun ds env1 vs F1 H1 A w2 eF eH rs S1 => ?_
  unfold itsES at w1
  split at w2
  · rename_i x
    obtain ⟨v, rfl, r⟩ := reps1 rs
    rw [rep_str r]
    have hsz : (enumD 0 (signsD x)).length = x.cps.size := by rw [enumD_len]; simp [signsD]
    refine ⟨x, rfl, k _ env1 _ F1 H1 [] [] w2 eF eH S1 ⟨rfl, fun F H A i e hs rr hi => ?_, fun F H A hs rr => ?_⟩⟩
    · rw [enumD_get] at hi
      cases hx : (signsD x)[i]? with
      | none => rw [hx] at hi; cases hi
      | some y =>
        rw [hx] at hi
        simp only [Option.map_some, Option.some.injEq, Nat.zero_add] at hi
        obtain ⟨c, hc, rfl⟩ := signs_get hx
        have hlt : i < x.cps.size := by
          have := (List.getElem?_eq_some_iff.mp hc).1
          simpa using this
        refine ⟨hlt, fun z H' yl => ?_⟩
        obtain ⟨T, c2, rfl, hT, rfl, f⟩ := yl
        have ec : c = c2 := by
          rw [Array.getElem?_toList] at hc
          rw [hc] at f; cases f; rfl
        subst ec
        refine ⟨Ex.new hT, ?_⟩
        rw [← hi]
        exact .tup upd_same (.cons (.int _) (.cons (.str _) .nil rfl) rfl)
    · show x.cps.size ≤ _
      rw [hsz]; exact Nat.le_refl _
  · exact w2.elim
theorem n_ES {X : Cx} {E : EX} {elts : List Expr} {kk : Nat} {tpos : Pos} {e : Expr} {wa : WA} {p pos : Pos} (hg : Gl X "enumerate") (hm : X.mg "enumerate" = none) (h : DA X E [e] wa) (hs : starEach [e] X.env = [(false, eval e X.env)] := by rfl) : DI X E (.Tuple elts kk tpos) (.Call (.Name "enumerate" p) [e] [] pos) (itsES wa) := by
  obtain ⟨t, p, s⟩ := h.ex
  exact ⟨_, pi_enumS hg hm p hs, simI_ES s⟩

/-! ### a text's own methods -/
def isStr : D → Bool
  | .str _ => true
  | _ => false
def wM1 (g : G2) (wa wb : WE) : WE := fun px env Q => wa px env fun a _ env1 => isStr a = true ∧ wb px env1 fun b _ env2 => g a b fun d => Q d false env2
def wM0 (g : G1) (wa : WE) : WE := fun px env Q => wa px env fun a _ env1 => isStr a = true ∧ g a fun d => Q d false env1
def M1D (K : PySem.W.Frag) (g : G2) (r : V → List V → Hp → VK → Prop) : Prop := ∀ (F H : Hp) (x y : V) (dx dy : D) (A B : List Addr) (Q' : D → Prop) (Q : VK), Ex F H → Rep K F H x dx A → Rep K F H y dy B → g dx dy Q' → Ends1 K F H Q' Q → r x [y] H Q
def M0D (K : PySem.W.Frag) (g : G1) (r : V → List V → Hp → VK → Prop) : Prop := ∀ (F H : Hp) (x : V) (dx : D) (A : List Addr) (Q' : D → Prop) (Q : VK), Ex F H → Rep K F H x dx A → g dx Q' → Ends1 K F H Q' Q → r x [] H Q
theorem sim_m1 {K : PySem.W.Frag} {E : EX} {g : G2} {r : V → List V → Hp → VK → Prop} {wa wb : WE} {ta tb : TE} (h : M1D K g r) (ha : Sim K E wa ta) (hb : Sim K E wb tb) : Sim K E (wM1 g wa wb) (tM1 r ta tb) := by
  intro px F0 H0 F H σ env pv pd L S Q' Q w k
  refine ha px F0 H0 F H σ env pv pd L S _ _ w fun a ba env1 x F1 H1 w1 eF1 eH1 R1 => ?_
  obtain ⟨⟨A, rx⟩, S1⟩ := R1.forget
  obtain ⟨ws, w1⟩ := w1
  refine ⟨?_, hb px F0 H0 F1 H1 σ env1 pv pd L S1 _ _ w1 fun b bb env2 y F2 H2 w2 eF2 eH2 R2 => ?_⟩
  · cases a with
    | str z => exact ⟨z, rep_str rx⟩
    | _ => cases ws
  obtain ⟨⟨B, ry⟩, S2⟩ := R2.forget
  refine h F2 H2 x y a b A B _ _ S2.sub (rx.ex eF2 eH2) ry w2 fun d v H' C q e r hn hC => ?_
  exact k d false env2 v F2 H' q (eF1.trans eF2) ((eH1.trans eH2).trans e) (S2.push e r hn hC)
def gJoin : G2
  | .str a, d, Q => ∃ ys : List Str, asL d = some (ys.map D.str) ∧ (ys.map (·.length)).sum + ys.length * a.length ≤ 16777216 ∧ Q (.str (Txt.join a ys))
  | _, _, _ => False
theorem gJoin_str {a : Str} {d : D} {Q : D → Prop} : gJoin (.str a) d Q = ∃ ys : List Str, asL d = some (ys.map D.str) ∧ (ys.map (·.length)).sum + ys.length * a.length ≤ 16777216 ∧ Q (.str (Txt.join a ys)) := rfl
theorem Reps.strs {K : PySem.W.Frag} {F H : Hp} : ∀ {vs : List V} {ys : List Str} {A : List Addr}, Reps K F H vs (ys.map D.str) A → vs = ys.map V.str
  | _, [], _, .nil => rfl
  | _, y :: ys, _, .cons h r e => by
    have e1 := Reps.strs r
    cases h
    rw [e1]; rfl
theorem m1d_join {K : PySem.W.Frag} : M1D K gJoin (fun x xs H Q => ∃ a p, ∃ ys : List Str, x = .str a ∧ xs = [.ref p] ∧ (SqL K H p (ys.map V.str) ∨ SqT K H p (ys.map V.str)) ∧ (ys.map (·.length)).sum + ys.length * a.length ≤ 16777216 ∧ Q (.str (Txt.join a ys)) H) := by
  intro F H x y dx dy A B Q' Q hs rx ry w k
  cases dx with
  | str a =>
    obtain ⟨ys, e, hl, w⟩ := w
    rw [rep_str rx]
    obtain ⟨p, vs, C, rfl, hq, rs⟩ := rep_asL1 hs ry e
    have := rs.strs
    subst this
    exact ⟨a, p, ys, rfl, rfl, .inl hq, hl, k.same w (.str _)⟩
  | _ => exact w.elim
theorem d_join {X : Cx} {E : EX} {o e : Expr} {wo we : WE} {apos pos : Pos} (ho : DE X E o wo) (he : DE X E e we) (hs : starEach [e] X.env = [(false, eval e X.env)] := by rfl) (hbase : attributeBase o "join" X.env (eval o X.env) = eval o X.env := by rfl) (hline : (apos.endLine == pos.line) = true := by rfl) :
    DE X E (.Call (.Attribute o "join" apos) [e] [] pos) (wM1 gJoin wo we) := by
  obtain ⟨to, po, so⟩ := ho.ex
  obtain ⟨te, pe, se⟩ := he.ex
  exact ⟨_, pe_join po pe hs hbase hline, sim_m1 m1d_join so se⟩
end Tm

set_option Elab.async false
set_option linter.all false
set_option maxRecDepth 100000
set_option maxHeartbeats 1000000
/-! errors: raise, try .. except, what leaves a def -/
namespace Tm
open PySem PySem.Spec PyProof.Rows L2
abbrev exOf (W : WX) : EX := fun σ cls d H => W cls d σ H
/-- a class of errors -/
structure ErrC (K : PySem.W.Frag) (mg : Str → Option Value) (n : Str) (C : Addr) : Prop where
  m : mg n = some (.ref C)
  n : PySem.W.nsIn K mainGlobals n = some (some (.ref C))
  x : PySem.W.excIn K C [.type "ValueError", .type "Exception", .type "BaseException", .type "object"] "ValueError.__new__" = true
  k : PySem.W.keepIn K (.ref C) = true
  s : PySem.W.subIn K (.ref C) (.type "BaseException") = some true
  t : PySem.W.typeIn K (.ref C) = some (.type "type")
  d : PySem.W.hasDictIn K C = true
theorem passF {X : Cx} : ∀ σ, PassesAt (L2.CX X.prog X.w) X σ fun _ _ _ => False := fun _ _ _ _ _ _ _ h => by
  obtain ⟨_, _, _, _, _, _, _, _, _, _, _, _, z⟩ := h
  exact z.elim
theorem boot_ve : bootBuiltins "ValueError" = some (.type "ValueError") := by decide +kernel
def wRaise (n : Str) : WS := fun _ px env => px n env
section
variable {X : Cx} {W : WX}
theorem s_raise {n m : Str} {C : Addr} {j : Nat} {p p2 pos pos' : Pos} (hc : X.calm = true) (tk : Takes X W) (T : ErrC X.K X.mg n C) (hg : Gl X n) (hdb : (n == ("__debug__" : Str)) = false := by decide) :
    DS X (exOf W) (.Raise (some (.Call (.Name n p) [.Constant (.str m) j p2] [] pos)) none pos') (wRaise n) := by
  refine ⟨_, ps_raise hc tk (pmk_own PySem.F.excBase_ValueError T.x T.m T.k (raises_own T.s T.t) hg hdb), ?_⟩
  intro px F0 H0 F H σ env pv pd L S P D w k
  exact L n _ σ env F H [] [] T.n w rfl S
end
/-- the canonical reading of statements -/
def tS (K : PySem.W.Frag) (E : EX) (w : WS) : TS := fun D σ H => ∃ (px : PX) (F0 H0 F : Hp) (env : Env) (pv : List V) (pd : List Tm.D) (P : PEnds), LinkX K F0 H0 px E pv pd ∧ Sta K F0 H0 F H σ env pv pd ∧ w P px env ∧ LinkD K F0 H0 pv pd P D
theorem DSs.canon {X : Cx} {E : EX} {s : List Stmt} {w : WS} (h : DSs X E s w) : PSs X s (tS X.K E w) := by
  obtain ⟨t, p, sm⟩ := h.ex
  refine ⟨fun pins sh σ H D I q => p.run pins sh σ H D I ?_⟩
  obtain ⟨px, F0, H0, F, env, pv, pd, P, L, S, w1, k⟩ := q
  exact sm px F0 H0 F H σ env pv pd L S P D w1 k
theorem Slots.wipe {K : PySem.W.Frag} {F H : Hp} : ∀ {σ : L2.St} {env : Env} {A : List Addr} (i : Nat), Slots K F H σ env A → ∃ B, Slots K F H (σ.set i none) (env.set i none) B ∧ B.Sublist A
  | _, _, _, _, .nil => ⟨[], .nil, List.Sublist.refl _⟩
  | _, _, _, 0, .skip r => ⟨_, .skip r, List.Sublist.refl _⟩
  | _, _, _, 0, .cons h r e => ⟨_, .skip r, by rw [e]; exact List.sublist_append_right _ _⟩
  | _, _, _, i + 1, .skip r => by
    obtain ⟨B, q, s⟩ := Slots.wipe i r
    exact ⟨B, .skip q, s⟩
  | _, _, _, i + 1, .cons (A := A) h r e => by
    obtain ⟨B, q, s⟩ := Slots.wipe i r
    exact ⟨A ++ B, .cons h q rfl, by rw [e]; exact List.Sublist.append (List.Sublist.refl _) s⟩
theorem Sta.wipe {K : PySem.W.Frag} {F0 H0 F H : Hp} {σ : L2.St} {env : Env} {pv : List V} {pd : List D} (i : Nat) (S : Sta K F0 H0 F H σ env pv pd) : Sta K F0 H0 F H (σ.set i none) (env.set i none) pv pd := by
  obtain ⟨A, B, h1, h2, h3, h4⟩ := S.own
  obtain ⟨C, q, s⟩ := h1.wipe i
  have sub := List.Sublist.append s (List.Sublist.refl B)
  exact ⟨S.exF, S.exH, S.sub, S.new, C, B, q, h2, h3.sublist sub, fun a ha => h4 a (sub.subset ha)⟩
def PEnds.gone (P : PEnds) (i : Nat) : PEnds := { nx := fun env => P.nx (env.set i none), rt := P.rt, bk := fun env => P.bk (env.set i none), ct := fun env => P.ct (env.set i none) }
section
variable {P : PEnds} {i : Nat} {env : Env} {d : D}
theorem gone_nx : (P.gone i).nx env = P.nx (env.set i none) := rfl
theorem gone_rt : (P.gone i).rt = P.rt := rfl
theorem gone_bk : (P.gone i).bk env = P.bk (env.set i none) := rfl
theorem gone_ct : (P.gone i).ct env = P.ct (env.set i none) := rfl
end
/-- try: wb, except .. as slot i: ws; sub: the clause's class takes it -/
def wTry (ns : List Str) (sub : Str → Bool) (i : Nat) (wb : WS) (ws : Addr → Str → WS) : WS := fun P px env =>
  wb P (fun n env' => n ∈ ns ∧ if sub n = true then ∀ a, ws a n (P.gone i) px0 (env'.set i (some (.ref a))) else px n env') env
section
variable {X : Cx} {x y : Str} {c : Value} {i : Nat} {body suite : List Stmt} {b₀ : Stmt} {np pos pos' : Pos} {Wout : WX} {ns : List Str} {sub : Str → Bool} {wb : WS} {ws : Addr → Str → WS}
def tHd (K : PySem.W.Frag) (ns : List Str) (ws : Addr → Str → WS) (a : Addr) (cls : Value) (d : Option Addr) : TS := fun D σ H => d = none ∧ ∃ n, n ∈ ns ∧ PySem.W.nsIn K mainGlobals n = some (some cls) ∧ tS K (fun _ _ _ _ => False) (ws a n) D σ H
theorem s_try (hs : X.stack = X.env :: X.outer) (hf : X.env.frame = some X.env.locals) (hN : X.N.Nodup) (hi : X.N[i]? = some y) (hln : X.env.kindOf y = some .local) (hc : Names X x c) (tk : Takes X Wout)
    (hex : ∀ n C, n ∈ ns → PySem.W.nsIn X.K mainGlobals n = some (some C) → PySem.W.exmOne X.K C c = some (sub n))
    (hb : ∀ (W : WX) (pn : List (Addr × Obj)) (xe : Value → Shared → Prop), Takes (X.tr pn xe) W → PassesOwn (model X.prog X.w) X.A X.env xe → DSs (X.tr pn xe) (exOf W) body wb)
    (hsu : ∀ (a : Addr) (oe : Obj) (n : Str) (C : Value) (pn : List (Addr × Obj)), n ∈ ns → PySem.W.nsIn X.K mainGlobals n = some (some C) → Zc C none oe → (∃ vs, oe.data = .fields vs) → DSs (X.suite a ((a, oe) :: pn)) (fun _ _ _ _ => False) (b₀ :: suite) (ws a n)) :
    DS X (exOf Wout) (.Try body [.ExceptHandler (some (.Name x np)) (some y) (b₀ :: suite) pos'] [] [] pos) (wTry ns sub i wb ws) := by
  have hb' : ∀ (W : WX) (pn : List (Addr × Obj)) (xe : Value → Shared → Prop), Takes (X.tr pn xe) W → PassesOwn (model X.prog X.w) X.A X.env xe → PSs (X.tr pn xe) body ((fun W => tS X.K (exOf W) wb) W) := fun W pn xe t po => (hb W pn xe t po).canon
  have hsu' : ∀ (a : Addr) (oe : Obj) (cls : Value) (d : Option Addr) (pn : List (Addr × Obj)), Zc cls d oe → (∃ vs, oe.data = .fields vs) → PSs (X.suite a ((a, oe) :: pn)) (b₀ :: suite) (tHd X.K ns ws a cls d) := fun a oe cls d pn hz hv => by
    refine ⟨fun pins sh σ H D I q => ?_⟩
    obtain ⟨rfl, n, hn, hC, q⟩ := q
    exact (hsu a oe n cls pn hn hC hz hv).canon.run pins sh σ H D I q
  refine ⟨_, ps_try_as hs hf hN hi hln hc tk hb' hsu', ?_⟩
  intro px F0 H0 F H σ env pv pd L S P D w k
  refine ⟨_, F0, H0, F, env, pv, pd, P, fun n C σ' env' F' H' pvx pdx hn h hl S' => ?_, S, w, k⟩
  have S2 := Sta.drops hl S'
  obtain ⟨hm, h⟩ := h
  refine ⟨sub n, hex n C hm hn, fun e a ha => ?_, fun e => ?_⟩
  · rw [if_pos e] at h
    refine ⟨rfl, n, hm, hn, px0, F0, H0, F', _, pv, pd, P.gone i, link0, (S2.clean (.ref a)).store, h a, ⟨fun σ6 env6 F6 H6 q S6 => k.nx _ _ _ _ q (S6.wipe i), k.rt, fun σ6 env6 F6 H6 q S6 => k.bk _ _ _ _ q (S6.wipe i), fun σ6 env6 F6 H6 q S6 => k.ct _ _ _ _ q (S6.wipe i)⟩⟩
  · rw [if_neg (by rw [e]; simp)] at h
    exact L n C σ' env' F' H' pvx pdx hn h hl S'
end
/-! ### isinstance in an except suite -/
def wIsE (i : Nat) (a : Addr) (b : Bool) : WE := fun _ env Q => match env[i]? with
  | some (some (.ref a')) => a' = a ∧ Q (.bl b) false env
  | _ => False
def rIsET (K : PySem.W.Frag) (D a : Addr) : List V → Hp → VK → Prop := fun xs H Q => ∃ (tp : Addr) (cs : List V) (us : List Value) (b : Bool), xs = [.ref a, .ref tp] ∧ H tp = some (.tup cs) ∧ Paired ClsV cs us ∧ PySem.W.kitAny K (.ref D) us = some b ∧ Q (.bl b) H
theorem call_isET {X : Cx} {a D : Addr} {oe : Obj} {pn : List (Addr × Obj)} (C : ExcC X.K D) (hz : Zc (.ref D) none oe) (hf : ∃ vs, oe.data = .fields vs) : CallR (X.suite a ((a, oe) :: pn)) (.builtin "isinstance") (rIsET X.K D a) := by
  intro pins s σ H xs us Q I r h
  obtain ⟨tp, cs, ws, b, rfl, hT, k, e, q⟩ := h
  cases r with
  | cons rx rr =>
    cases rr with
    | cons rt rr =>
      cases rr
      cases rx
      cases rt
      obtain ⟨hget, _⟩ := I.pin (a, oe) (List.mem_append.mpr (.inl List.mem_cons_self))
      obtain ⟨vs, hv⟩ := hf
      have J : PySem.W.InstAt s.heap a oe D none := by
        obtain ⟨oc, od, oda, osl⟩ := oe
        obtain ⟨h1, h2⟩ := hz
        dsimp only at h1 h2 hv
        subst h1 h2 hv
        exact ⟨hget, rfl, rfl, trivial⟩
      obtain ⟨_, its, rv, o, h1, h2, n, h3⟩ := (show ObjOk X.prog X.w H s.heap tp (.tup cs) from I.hok tp _ hT)
      have e3 := ClsV.all k rv
      subst e3
      obtain ⟨oc, od, dt, sl⟩ := o
      simp only at h2 h3
      subst h2 h3
      exact PySem.W.kia_tup (PySem.W.handS_kitx_exc C.hg C.hk C.hs C.hd C.ha C.hn C.ht C.hm) I.kIn J h1 e (fun z => nomatch z) fun tk => ⟨.bl b, H, I.kept (t' := tk) fun _ _ z => z, rfl, q⟩
/-- a class named: an own one, or a built-in one -/
inductive NmC (X : Cx) : Expr → Value → Prop where
  | own {x : Str} {C : Addr} {p : Pos} (hg : Gl X x) (hm : X.mg x = some (.ref C)) (hd : (x == ("__debug__" : Str)) = false := by decide) : NmC X (.Name x p) (.ref C)
  | ty {x : Str} {n : String} {p : Pos} (hg : Gl X x) (hm : X.mg x = none) (hv : bootBuiltins x = some (.type n)) (hn : x ≠ "__name__" := by decide) (hd : (x == ("__debug__" : Str)) = false := by decide) : NmC X (.Name x p) (.type n)
def vOf : Value → V
  | .ref C => .ref C
  | .type n => .ty n
  | _ => .non
theorem NmC.pe {X : Cx} {e : Expr} {u : Value} (h : NmC X e u) : PE X e (tC (vOf u)) := by
  cases h with
  | own hg hm hd => exact pe_glob (v := .ref _) hg hm rfl hd
  | ty hg hm hv hn hd => exact pe_bltn (v := .ty _) hg hm hv rfl hn hd
theorem NmC.cls {X : Cx} {e : Expr} {u : Value} (h : NmC X e u) : ClsV (vOf u) u := by
  cases h with
  | own => exact .own _
  | ty => exact .ty _
inductive NmCs (X : Cx) : List Expr → List Value → Prop where
  | nil : NmCs X [] []
  | cons {e : Expr} {u : Value} {es : List Expr} {us : List Value} (h : NmC X e u) (r : NmCs X es us) (hs : starEach (e :: es) X.env = (false, eval e X.env) :: starEach es X.env := by rfl) : NmCs X (e :: es) (u :: us)
def tCs : List Value → TA
  | [] => tNil
  | u :: us => tCons (tC (vOf u)) (tCs us)
theorem NmCs.pa {X : Cx} {es : List Expr} {us : List Value} (h : NmCs X es us) : PA X es (tCs us) := by
  induction h with
  | nil => exact pa_nil
  | cons h r hs ih => exact pa_cons h.pe ih hs
theorem NmCs.cls {X : Cx} {es : List Expr} {us : List Value} (h : NmCs X es us) : Paired ClsV (us.map vOf) us := by
  induction h with
  | nil => exact .nil
  | cons h r hs ih => exact .cons h.cls ih
theorem tCs_is : ∀ (us : List Value) (σ : L2.St) (H : Hp) (Q : List V → Hp → Prop), Q (us.map vOf) H → tCs us σ H Q
  | [], σ, H, Q, h => h
  | u :: us, σ, H, Q, h => tCs_is us σ H _ h
theorem kitAnyC {K : PySem.W.Frag} {t c : Value} {cs : List Value} {b r : Bool} (h : PySem.W.kitOne K t c = some b) (hr : PySem.W.kitAny K t cs = some r) : PySem.W.kitAny K t (c :: cs) = some (b || r) := by
  unfold PySem.W.kitAny
  rw [h]
  cases b with
  | true => rfl
  | false => exact hr
theorem kitAny0 {K : PySem.W.Frag} {t : Value} : PySem.W.kitAny K t [] = some false := rfl
section
variable {X : Cx} {E : EX} {a D : Addr} {oe : Obj} {pn : List (Addr × Obj)} {i : Nat} {y : Str} {p q pos tpos : Pos} {c : Expr} {cs : List Expr} {u : Value} {us : List Value} {b : Bool} {kk : Nat}
theorem d_isE (C : ExcC X.K D) (hz : Zc (.ref D) none oe) (hf : ∃ vs, oe.data = .fields vs) (hk : PySem.W.kitOne X.K (.ref D) u = some b) (hc : NmC (X.suite a ((a, oe) :: pn)) c u) (hg : Gl X "isinstance") (hm : X.mg "isinstance" = none)
    (hN : X.N[i]? = some y := by rfl) (hv : Vis X.env.scope y := by first | exact Or.inl rfl | exact Or.inr (Or.inl rfl) | exact Or.inr (Or.inr rfl)) (hd : (y == ("__debug__" : Str)) = false := by decide) (hcd : (y == ("__classdict__" : Str)) = false := by decide)
    (hs1 : starEach [.Name y q, c] X.env = (false, eval (.Name y q) X.env) :: starEach [c] X.env := by rfl) (hs2 : starEach [c] X.env = (false, eval c X.env) :: starEach [] X.env := by rfl) (hpl : (backTo pos (starEach [c] X.env)).any (·.1) = false := by rfl) :
    DE (X.suite a ((a, oe) :: pn)) E (.Call (.Name "isinstance" p) [.Name y q, c] [] pos) (wIsE i a b) := by
  refine ⟨_, pe_callB (X := X.suite a ((a, oe) :: pn)) (call_isE C hz hf) hg hm PyProof.Rows.boot_isinstance (pa_cons (pe_var (i := i) hN hv hd hcd) (pa_cons hc.pe pa_nil hs2) hs1) (by decide) (by decide) hs1 hpl, ?_⟩
  intro px F0 H0 F H σ env pv pd L S Q' Q w k
  unfold wIsE at w
  split at w
  · rename_i a' e
    obtain ⟨rfl, w⟩ := w
    obtain ⟨v, A, e2, r⟩ := S.slot e
    cases r
    refine ⟨_, e2, vOf u, u, b, rfl, fun z hz => hc.cls.eq hz, hk, k (.bl b) false env (.bl b) F H w (Same.refl _) (Same.refl _) (S.clean (.bl b))⟩
  · exact w.elim
theorem d_isET (C : ExcC X.K D) (hz : Zc (.ref D) none oe) (hf : ∃ vs, oe.data = .fields vs) (hk : PySem.W.kitAny X.K (.ref D) us = some b) (hc : NmCs (X.suite a ((a, oe) :: pn)) cs us) (hg : Gl X "isinstance") (hm : X.mg "isinstance" = none) (hl : us.length ≤ 1000 := by simp)
    (hN : X.N[i]? = some y := by rfl) (hv : Vis X.env.scope y := by first | exact Or.inl rfl | exact Or.inr (Or.inl rfl) | exact Or.inr (Or.inr rfl)) (hd : (y == ("__debug__" : Str)) = false := by decide) (hcd : (y == ("__classdict__" : Str)) = false := by decide)
    (hs1 : starEach [.Name y q, .Tuple cs kk tpos] X.env = (false, eval (.Name y q) X.env) :: starEach [.Tuple cs kk tpos] X.env := by rfl) (hs2 : starEach [.Tuple cs kk tpos] X.env = (false, eval (.Tuple cs kk tpos) X.env) :: starEach [] X.env := by rfl) (hpl : (backTo pos (starEach [.Tuple cs kk tpos] X.env)).any (·.1) = false := by rfl) :
    DE (X.suite a ((a, oe) :: pn)) E (.Call (.Name "isinstance" p) [.Name y q, .Tuple cs kk tpos] [] pos) (wIsE i a b) := by
  refine ⟨_, pe_callB (X := X.suite a ((a, oe) :: pn)) (call_isET C hz hf) hg hm PyProof.Rows.boot_isinstance (pa_cons (pe_var (i := i) hN hv hd hcd) (pa_cons (pe_tup hc.pa) pa_nil hs2) hs1) (by decide) (by decide) hs1 hpl, ?_⟩
  intro px F0 H0 F H σ env pv pd L S Q' Q w k
  unfold wIsE at w
  split at w
  · rename_i a' e
    obtain ⟨rfl, w⟩ := w
    obtain ⟨v, A, e2, r⟩ := S.slot e
    cases r
    refine ⟨_, e2, ?_⟩
    refine tCs_is us σ H _ ⟨by rw [List.length_map]; exact le_line (by omega), fun p hp => ?_⟩
    refine ⟨p, us.map vOf, us, b, rfl, upd_same, hc.cls, hk, k (.bl b) false env (.bl b) F _ w (Same.refl _) (Ex.new hp) ((S.grow (Ex.new hp)).clean (.bl b))⟩
  · exact w.elim
end
/-! ### defs -/
section
variable {P : Program} {w : World} {K : PySem.W.Frag} {mg : Str → Option Value} {base : Heap}
/-- THE RULE for a def that errors may leave -/
theorem okX {x qual : Str} {st : Stmt} {f : Addr} {fd : FuncData} {N ps : List Str} {k : Nat} {spec : SpecT} (F : Fun K x qual st f fd) (S : FnScope N ps (defScope st)) (len : ∀ ds px Q, spec ds px Q → ds.length = ps.length) {ws : WS}
    (body : ∀ (cdv : Value) (A : Around) (outer : List PySem.Env) (s : Shared) (H : Hp) (E : XK), Room k (A.deeper (envOfC qual (defScope st) s.heap.objs.size f cdv)) →
      Takes (cxOf (L2.CX P w) P w K mg base N qual (defScope st) f cdv A outer s H E) (fun cls d _ H => E cls d H) →
      PassesOwn (model P w) (cxOf (L2.CX P w) P w K mg base N qual (defScope st) f cdv A outer s H E).A (cxOf (L2.CX P w) P w K mg base N qual (defScope st) f cdv A outer s H E).env (cxOf (L2.CX P w) P w K mg base N qual (defScope st) f cdv A outer s H E).xe →
      DSs (cxOf (L2.CX P w) P w K mg base N qual (defScope st) f cdv A outer s H E) (exOf fun cls d _ H => E cls d H) (defBody st) ws)
    (pure : ∀ ds px Qd, spec ds px Qd → ws (PEnds.top Qd) px (start0 N.length ds)) : FnOk P w K mg base (L2.CX P w) (k + 1) f fd ps (spD K spec) := by
  refine F.okX S (spD_len len) fun cdv A outer s H vs Q E hr h => ?_
  obtain ⟨t, p, sim⟩ := (body cdv A outer s H E hr (takes_of rfl rfl rfl rfl) (passes_of rfl)).ex
  exact ⟨t, p, body_ok sim h pure⟩
/-- .. for a def that lets nothing out but tries -/
theorem okT {x qual : Str} {st : Stmt} {f : Addr} {fd : FuncData} {N ps : List Str} {k : Nat} {spec : SpecT} (F : Fun K x qual st f fd) (S : FnScope N ps (defScope st)) (len : ∀ ds px Q, spec ds px Q → ds.length = ps.length) {ws : WS}
    (body : ∀ (cdv : Value) (A : Around) (outer : List PySem.Env) (s : Shared) (H : Hp) (E : XK), Room k (A.deeper (envOfC qual (defScope st) s.heap.objs.size f cdv)) → DSs (cxOf CX0 P w K mg base N qual (defScope st) f cdv A outer s H E).nox (exOf fun _ _ _ _ => False) (defBody st) ws)
    (pure : ∀ ds px Qd, spec ds px Qd → ws (PEnds.top Qd) px0 (start0 N.length ds)) : FnOk P w K mg base CX0 (k + 1) f fd ps (spD K spec) := by
  refine F.ok S (spD_len len) fun cdv A outer s H vs Q E hr h => ?_
  obtain ⟨t, p, sim⟩ := (body cdv A outer s H E hr).ex
  exact ⟨t, p, body_ok0 sim h pure⟩
end
end Tm

set_option Elab.async false
set_option linter.all false
set_option maxRecDepth 100000
set_option maxHeartbeats 1000000
/-! sorted lists of pairs of whole numbers -/
namespace Tm
open PySem PySem.Spec PyProof.Rows L2
def pD (p : Int × Int) : D := .tup [.int p.1, .int p.2]
def lexLe (a b : Int × Int) : Prop := a.1 < b.1 ∨ (a.1 = b.1 ∧ a.2 ≤ b.2)
def gSortP : GC
  | [.lst _ ds], Q => ∃ ps : List (Int × Int), ds = ps.map pD ∧ ∀ ps' : List (Int × Int), ps'.Perm ps → ps'.Pairwise lexLe → Q (.lst true (ps'.map pD))
  | _, _ => False
theorem rep_pD {K : PySem.W.Frag} {F H : Hp} {v : V} {p : Int × Int} {A : List Addr} (r : Rep K F H v (pD p) A) : A = [] ∧ ∃ t, v = .ref t ∧ H t = some (.tup [.int p.1, .int p.2]) := by
  have e := r.clean rfl
  subst e
  unfold pD at r
  cases r with
  | tup h rs =>
    cases rs with
    | cons r1 rs e1 =>
      cases rs with
      | cons r2 rs e2 =>
        cases rs
        rw [rep_int r1, rep_int r2] at h
        exact ⟨rfl, _, rfl, h⟩
theorem reps_pD {K : PySem.W.Frag} {F H : Hp} : ∀ {vs : List V} {ps : List (Int × Int)} {A : List Addr}, Reps K F H vs (ps.map pD) A → A = [] ∧ vs.length = ps.length ∧ ∀ (i : Nat) v p, vs[i]? = some v → ps[i]? = some p → ∃ t, v = .ref t ∧ H t = some (.tup [.int p.1, .int p.2])
  | _, [], _, .nil => ⟨rfl, rfl, fun i v p h => by simp at h⟩
  | _, p :: ps, _, .cons h r e => by
    obtain ⟨e1, x⟩ := rep_pD h
    obtain ⟨e2, l, y⟩ := reps_pD r
    refine ⟨by rw [e, e1, e2]; rfl, by simp [l], fun i v q h1 h2 => ?_⟩
    cases i with
    | zero => simp at h1 h2; subst h1 h2; exact x
    | succ i => exact y i v q (by simpa using h1) (by simpa using h2)
open Classical in
noncomputable def pairAt (H : Hp) (v : V) : Int × Int := if h : ∃ p : Int × Int, ∃ t, v = .ref t ∧ H t = some (.tup [.int p.1, .int p.2]) then h.choose else (0, 0)
theorem pairAt_is {H : Hp} {v : V} {p : Int × Int} {t : Addr} (e : v = .ref t) (h : H t = some (.tup [.int p.1, .int p.2])) : pairAt H v = p := by
  unfold pairAt
  have hx : ∃ p : Int × Int, ∃ t, v = .ref t ∧ H t = some (.tup [.int p.1, .int p.2]) := ⟨p, t, e, h⟩
  rw [dif_pos hx]
  obtain ⟨t', e', h'⟩ := hx.choose_spec
  subst e
  cases e'
  rw [h] at h'
  simp only [Option.some.injEq, HO.tup.injEq, List.cons.injEq, V.int.injEq, and_true] at h'
  exact Prod.ext h'.1.symm h'.2.symm
theorem cd_sortP {K : PySem.W.Frag} : CallD K gSortP (rSortedPO K) := by
  intro F H xs ds A Q' Q hs r w k
  unfold gSortP at w
  split at w
  · rename_i o ds
    obtain ⟨ps, rfl, w⟩ := w
    obtain ⟨v, rfl, r1⟩ := reps1 r
    obtain ⟨a, vs, B, rfl, h1, r2⟩ := rep_asL1 hs r1 rfl
    obtain ⟨rfl, hl, hv⟩ := reps_pD r2
    have hk : vs.map (pairAt H) = ps := by
      refine List.ext_getElem? fun i => ?_
      rw [List.getElem?_map]
      by_cases c : i < vs.length
      · rw [List.getElem?_eq_getElem c, List.getElem?_eq_getElem (by omega)]
        obtain ⟨t, e, h⟩ := hv i _ _ (List.getElem?_eq_getElem c) (List.getElem?_eq_getElem (by omega))
        exact congrArg some (pairAt_is e h)
      · rw [List.getElem?_eq_none (by omega), List.getElem?_eq_none (by omega)]; rfl
    have at_ : ∀ x ∈ vs, ∃ t, x = .ref t ∧ H t = some (.tup [.int (pairAt H x).1, .int (pairAt H x).2]) := fun x hx => by
      obtain ⟨i, hi, rfl⟩ := List.getElem_of_mem hx
      obtain ⟨t, e, h⟩ := hv i _ _ (List.getElem?_eq_getElem hi) (List.getElem?_eq_getElem (by omega : i < ps.length))
      exact ⟨t, e, by rw [pairAt_is e h]; exact h⟩
    refine ⟨a, vs, pairAt H, rfl, h1, at_, fun ys p hsd hst hp => ?_⟩
    have perm := hst.perm
    refine k.lst (w (ys.map (pairAt H)) ?_ ?_) ?_ p hp
    · rw [← hk]; exact perm.map _
    · refine List.pairwise_map.mpr (List.Pairwise.imp ?_ hsd)
      intro x y hxy
      have := SrtO.lexB_no.mp hxy
      unfold lexLe
      omega
    · refine Reps.of_clean (by simp) fun i v d e1 e2 => ?_
      rw [List.getElem?_map, List.getElem?_map, e1] at e2
      cases e2
      obtain ⟨t, e, h⟩ := at_ v (perm.mem_iff.mp (List.mem_of_getElem? e1))
      rw [e]
      rw [e] at h
      exact .tup h (.cons (.int _) (.cons (.int _) .nil rfl) rfl)
  · exact w.elim
end Tm

set_option Elab.async false
set_option linter.all false
set_option maxRecDepth 100000
set_option maxHeartbeats 1000000
/-! dicts: keys whole numbers and texts, or tuples of these; one owner, clean values -/
namespace Tm
open PySem PySem.Spec PyProof.Rows L2

/-! ### tables in plain words -/
def keyOf : D → Option L2.Key
  | .int i => some (.inl i)
  | .str x => some (.inr x)
  | _ => none
def keysOf : List D → Option (List L2.Key)
  | [] => some []
  | d :: ds => match keyOf d, keysOf ds with
    | some k, some ks => some (k :: ks)
    | _, _ => none
section
variable {κ : Type} [DecidableEq κ]
def lookD : List κ → List D → κ → Option D
  | k :: ks, d :: ds, j => if k = j then some d else lookD ks ds j
  | _, _, _ => none
def putKs (ks : List κ) (k : κ) : List κ := if k ∈ ks then ks else ks ++ [k]
def repDs : List κ → List D → κ → D → List D
  | k :: ks, e :: ds, j, d => (if k = j then d else e) :: repDs ks ds j d
  | _, ds, _, _ => ds
def putDs (ks : List κ) (ds : List D) (k : κ) (d : D) : List D := if k ∈ ks then repDs ks ds k d else ds ++ [d]
theorem repDs_len : ∀ (ks : List κ) (ds : List D) (k : κ) (d : D), (repDs ks ds k d).length = ds.length
  | [], ds, k, d => by simp [repDs]
  | _ :: _, [], k, d => by simp [repDs]
  | _ :: ks, _ :: ds, k, d => by simp [repDs, repDs_len ks ds k d]
theorem putKs_len (ks : List κ) (ds : List D) (k : κ) (d : D) (h : ks.length = ds.length) : (putKs ks k).length = (putDs ks ds k d).length := by
  unfold putKs putDs
  split
  · rw [repDs_len]; exact h
  · simp [h]
theorem putKs_le (ks : List κ) (k : κ) : (putKs ks k).length ≤ ks.length + 1 := by
  unfold putKs
  split
  · omega
  · simp
theorem lookD_none : ∀ {ks : List κ} {ds : List D} {k : κ}, k ∉ ks → lookD ks ds k = none
  | [], ds, k, _ => by cases ds <;> rfl
  | _ :: _, [], k, _ => rfl
  | j :: ks, d :: ds, k, h => by
    rw [lookD, if_neg (fun e => h (by simp [e]))]
    exact lookD_none fun z => h (List.mem_cons_of_mem _ z)
theorem lookD_some : ∀ {ks : List κ} {ds : List D} {k : κ}, ks.length = ds.length → k ∈ ks → ∃ d, lookD ks ds k = some d ∧ d ∈ ds
  | [], ds, k, _, h => by simp at h
  | _ :: _, [], k, h, _ => by simp at h
  | j :: ks, d :: ds, k, hl, h => by
    rw [lookD]
    by_cases c : j = k
    · exact ⟨d, if_pos c, List.mem_cons_self⟩
    · rw [if_neg c]
      obtain ⟨e, h1, h2⟩ := lookD_some (ks := ks) (ds := ds) (k := k) (by simpa using hl) (by
        rcases List.mem_cons.mp h with h | h
        · exact absurd h.symm c
        · exact h)
      exact ⟨e, h1, List.mem_cons_of_mem _ h2⟩
theorem lookD_iff {ks : List κ} {ds : List D} {k : κ} (hl : ks.length = ds.length) : (lookD ks ds k).isSome = decide (k ∈ ks) := by
  by_cases h : k ∈ ks
  · obtain ⟨d, e, _⟩ := lookD_some hl h
    rw [e, decide_eq_true h]; rfl
  · rw [lookD_none h, decide_eq_false h]; rfl
theorem lookD_rep : ∀ (ks : List κ) (ds : List D) (k j : κ) (d : D), lookD ks (repDs ks ds k d) j = if j = k then (lookD ks ds j).map fun _ => d else lookD ks ds j
  | [], ds, k, j, d => by
    have : lookD ([] : List κ) (repDs [] ds k d) j = none := by cases repDs [] ds k d <;> rfl
    rw [this]
    have e2 : lookD ([] : List κ) ds j = none := by cases ds <;> rfl
    rw [e2]; simp
  | _ :: _, [], k, j, d => by simp [repDs, lookD]
  | i :: ks, e :: ds, k, j, d => by
    rw [repDs, lookD, lookD, lookD_rep ks ds k j d]
    by_cases c : i = j
    · rw [if_pos c, if_pos c]
      by_cases c2 : j = k
      · rw [if_pos c2, if_pos (c.trans c2)]; rfl
      · rw [if_neg c2, if_neg (fun z => c2 (c.symm.trans z))]
    · rw [if_neg c, if_neg c]
theorem lookD_snoc : ∀ (ks : List κ) (ds : List D) (k j : κ) (d : D), ks.length = ds.length → k ∉ ks → lookD (ks ++ [k]) (ds ++ [d]) j = if j = k then some d else lookD ks ds j
  | [], [], k, j, d, _, _ => by
    show lookD [k] [d] j = _
    rw [lookD]
    by_cases c : k = j
    · rw [if_pos c, if_pos c.symm]
    · rw [if_neg c, if_neg (fun z => c z.symm)]
  | [], _ :: _, k, j, d, h, _ => by simp at h
  | _ :: _, [], k, j, d, h, _ => by simp at h
  | i :: ks, e :: ds, k, j, d, h, hn => by
    rw [List.cons_append, List.cons_append, lookD, lookD_snoc ks ds k j d (by simpa using h) (fun z => hn (List.mem_cons_of_mem _ z)), lookD]
    have ne : i ≠ k := fun z => hn (by rw [z]; exact List.mem_cons_self)
    by_cases c : i = j
    · rw [if_pos c, if_pos c, if_neg (fun z => ne (c.trans z))]
    · rw [if_neg c, if_neg c]
theorem lookD_put {ks : List κ} {ds : List D} {k : κ} {d : D} (h : ks.length = ds.length) (j : κ) : lookD (putKs ks k) (putDs ks ds k d) j = if j = k then some d else lookD ks ds j := by
  unfold putKs putDs
  by_cases c : k ∈ ks
  · rw [if_pos c, if_pos c, lookD_rep]
    by_cases e : j = k
    · rw [if_pos e, if_pos e]
      obtain ⟨x, hx, _⟩ := lookD_some h c
      rw [e, hx]; rfl
    · rw [if_neg e, if_neg e]
  · rw [if_neg c, if_neg c, lookD_snoc _ _ _ _ _ h c]
theorem repDs_dirty : ∀ (ks : List κ) (ds : List D) (k : κ) (d : D), dirtys ds = false → dirty d = false → dirtys (repDs ks ds k d) = false
  | [], ds, k, d, h, _ => by simpa [repDs] using h
  | _ :: _, [], k, d, h, _ => by simp [repDs, dirtys]
  | i :: ks, e :: ds, k, d, h, hd => by
    simp only [dirtys, Bool.or_eq_false_iff] at h
    rw [repDs, dirtys, repDs_dirty ks ds k d h.2 hd]
    split
    · rw [hd]; rfl
    · rw [h.1]; rfl
theorem putDs_dirty {ks : List κ} {ds : List D} {k : κ} {d : D} (h : dirtys ds = false) (hd : dirty d = false) : dirtys (putDs ks ds k d) = false := by
  unfold putDs
  split
  · exact repDs_dirty _ _ _ _ h hd
  · rw [dirtys_app, h]; simp [dirtys, hd]
end
/-- what stands at a key, where it may be a key of such a dict -/
def getK (kd : DKeys) (ds : List D) (y : D) : Option (Option D) := match kd, y with
  | .k ks, .int i => some (lookD ks ds (.inl i))
  | .k ks, .str x => some (lookD ks ds (.inr x))
  | .t ks, .tup es => (keysOf es).map fun k => lookD ks ds k
  | _, _ => none
theorem getK_int {ks : List L2.Key} {ds : List D} {i : Int} : getK (.k ks) ds (.int i) = some (lookD ks ds (.inl i)) := rfl
theorem getK_str {ks : List L2.Key} {ds : List D} {x : Str} : getK (.k ks) ds (.str x) = some (lookD ks ds (.inr x)) := rfl
theorem getK_tup {ks : List (List L2.Key)} {ds : List D} {es : List D} : getK (.t ks) ds (.tup es) = (keysOf es).map fun k => lookD ks ds k := rfl
def putK2 (kd : DKeys) (ds : List D) (y d : D) (Q : DKeys → List D → Prop) : Prop := match kd, y with
  | .k ks, .int i => Q (.k (putKs ks (.inl i))) (putDs ks ds (.inl i) d)
  | .k ks, .str x => Q (.k (putKs ks (.inr x))) (putDs ks ds (.inr x) d)
  | .t ks, .tup es => match keysOf es with
    | some k => Q (.t (putKs ks k)) (putDs ks ds k d)
    | none => False
  | _, _ => False
theorem putK2_int {ks : List L2.Key} {ds : List D} {i : Int} {d : D} {Q : DKeys → List D → Prop} : putK2 (.k ks) ds (.int i) d Q = Q (.k (putKs ks (.inl i))) (putDs ks ds (.inl i) d) := rfl
theorem putK2_str {ks : List L2.Key} {ds : List D} {i : Str} {d : D} {Q : DKeys → List D → Prop} : putK2 (.k ks) ds (.str i) d Q = Q (.k (putKs ks (.inr i))) (putDs ks ds (.inr i) d) := rfl
def tPut (o : Option (List L2.Key)) (ks : List (List L2.Key)) (ds : List D) (d : D) (Q : DKeys → List D → Prop) : Prop := match o with
  | some k => Q (.t (putKs ks k)) (putDs ks ds k d)
  | none => False
theorem putK2_tup {ks : List (List L2.Key)} {ds : List D} {es : List D} {d : D} {Q : DKeys → List D → Prop} : putK2 (.t ks) ds (.tup es) d Q = tPut (keysOf es) ks ds d Q := rfl
theorem tPut_some {k : List L2.Key} {ks : List (List L2.Key)} {ds : List D} {d : D} {Q : DKeys → List D → Prop} : tPut (some k) ks ds d Q = Q (.t (putKs ks k)) (putDs ks ds k d) := rfl

/-! ### what stands in the heap -/
section
variable {K : PySem.W.Frag} {F H : Hp}
theorem rep_dct {v : V} {o : Bool} {kd : DKeys} {ds : List D} {A : List Addr} (hs : Ex F H) (r : Rep K F H v (.dct o kd ds) A) : ∃ a vs B, v = .ref a ∧ H a = some (kd.ho vs) ∧ kd.len = vs.length ∧ Reps K F H vs ds B := by
  cases r with
  | dF h1 h2 h3 => exact ⟨_, _, [], rfl, hs _ _ h1, h2, h3⟩
  | dO h1 h2 h3 => exact ⟨_, _, _, rfl, h1, h2, h3⟩
theorem look_none {κ : Type} [DecidableEq κ] : ∀ {ks : List κ} {vs : List V} {ds : List D} {A : List Addr} {k : κ}, Reps K F H vs ds A → lookD ks ds k = none → valV (ks.zip vs) k = none
  | [], vs, ds, A, k, r, h => by simp [valV]
  | j :: ks, _, _, _, k, .nil, h => by simp [valV]
  | j :: ks, v :: vs, d :: ds, _, k, .cons h r e, q => by
    rw [lookD] at q
    split at q
    · cases q
    · rename_i c
      rw [List.zip_cons_cons, valV_neg (p := (j, v)) c]
      exact look_none r q
theorem look_some {κ : Type} [DecidableEq κ] : ∀ {ks : List κ} {vs : List V} {ds : List D} {A : List Addr} {k : κ} {d : D}, Reps K F H vs ds A → lookD ks ds k = some d → ∃ v B, valV (ks.zip vs) k = some v ∧ Rep K F H v d B
  | [], vs, ds, A, k, d, r, h => by cases ds <;> simp [lookD] at h
  | j :: ks, _, _, _, k, d, .nil, h => by simp [lookD] at h
  | j :: ks, v :: vs, d0 :: ds, _, k, d, .cons h r e, q => by
    rw [lookD] at q
    split at q
    · rename_i c
      cases q
      exact ⟨v, _, by rw [List.zip_cons_cons, valV_pos (p := (j, v)) c], h⟩
    · rename_i c
      rw [List.zip_cons_cons, valV_neg (p := (j, v)) c]
      exact look_some r q
theorem rep_keys : ∀ {vs : List V} {es : List D} {A : List Addr} {k : List L2.Key}, Reps K F H vs es A → keysOf es = some k → vs = k.map kV
  | _, _, _, k, .nil, h => by
    simp only [keysOf, Option.some.injEq] at h
    subst h; rfl
  | _, _, _, k, .cons (d := d) h r e, q => by
    rw [keysOf] at q
    split at q
    · rename_i k1 ks1 h1 h2
      cases q
      rw [List.map_cons, rep_keys r h2]
      cases d with
      | int i => cases h1; rw [rep_int h]; rfl
      | str x => cases h1; rw [rep_str h]; rfl
      | _ => cases h1
    · cases q
/-- d[y], read -/
theorem get_of {a : Addr} {vs : List V} {kd : DKeys} {ds : List D} {B A : List Addr} {y : V} {dy : D} {o : Option D} (h : H a = some (kd.ho vs)) (r : Reps K F H vs ds B) (ry : Rep K F H y dy A) (g : getK kd ds dy = some o) :
    ∃ ov, DGet H a y ov ∧ ((o = none ∧ ov = none) ∨ ∃ d v C, o = some d ∧ ov = some v ∧ Rep K F H v d C) := by
  have fin : ∀ {κ : Type} [DecidableEq κ] (ks : List κ) (k : κ), o = lookD ks ds k → ((o = none ∧ valV (ks.zip vs) k = none) ∨ ∃ d v C, o = some d ∧ valV (ks.zip vs) k = some v ∧ Rep K F H v d C) := fun ks k e => by
    cases q : lookD ks ds k with
    | none => exact .inl ⟨e.trans q, look_none r q⟩
    | some d =>
      obtain ⟨v, C, h1, h2⟩ := look_some r q
      exact .inr ⟨d, v, C, e.trans q, h1, h2⟩
  unfold getK at g
  split at g
  · rename_i ks i
    cases g
    rw [rep_int ry]
    exact ⟨_, DGet.k (k := .inl i) h, fin _ _ rfl⟩
  · rename_i ks x
    cases g
    rw [rep_str ry]
    exact ⟨_, DGet.k (k := .inr x) h, fin _ _ rfl⟩
  · rename_i ks es
    cases hk : keysOf es with
    | none => rw [hk] at g; cases g
    | some k =>
      rw [hk] at g
      cases g
      cases ry with
      | tup hb rb =>
        have := rep_keys rb hk
        subst this
        exact ⟨_, DGet.t h hb, fin _ _ rfl⟩
  · cases g
end

/-! ### reading -/
def gDGet : G2
  | .dct _ kd ds, y, Q => match getK kd ds y with
    | some o => atK o Q
    | none => False
  | _, _, _ => False
def gKget (o : Option (Option D)) (Q : D → Prop) : Prop := match o with
  | some o => atK o Q
  | none => False
theorem gKget_some {o : Option D} {Q : D → Prop} : gKget (some o) Q = atK o Q := rfl
theorem gDGet_is {b : Bool} {kd : DKeys} {ds : List D} {y : D} {Q : D → Prop} : gDGet (.dct b kd ds) y Q = gKget (getK kd ds y) Q := rfl
def rDGet : R2 := fun x y H Q => ∃ a v, x = .ref a ∧ DGet H a y (some v) ∧ Q v H
theorem opd_dget {K : PySem.W.Frag} : OpD K gDGet rDGet := by
  intro F H x y dx dy A B Q' Q hs rx ry w k
  unfold gDGet at w
  split at w
  · rename_i o kd ds y'
    split at w
    · rename_i o2 g
      obtain ⟨d, rfl, hd, q⟩ := atK_is w
      obtain ⟨a, vs, C, rfl, h1, h2, h3⟩ := rep_dct hs rx
      obtain ⟨ov, hg, hv⟩ := get_of h1 h3 ry g
      rcases hv with ⟨e, _⟩ | ⟨d', v, C', e, rfl, r⟩
      · cases e
      · cases e
        have := r.clean hd
        subst this
        exact ⟨a, v, rfl, hg, k.same q r⟩
    · exact w.elim
  · exact w.elim
def hasK (kd : DKeys) (ds : List D) (y : D) : Option Bool := match kd, y with
  | .k _, .non => some false
  | kd, y => (getK kd ds y).map Option.isSome
theorem hasK_int {ks : List L2.Key} {ds : List D} {i : Int} : hasK (.k ks) ds (.int i) = some (lookD ks ds (.inl i)).isSome := rfl
theorem hasK_str {ks : List L2.Key} {ds : List D} {x : Str} : hasK (.k ks) ds (.str x) = some (lookD ks ds (.inr x)).isSome := rfl
theorem hasK_non {ks : List L2.Key} {ds : List D} : hasK (.k ks) ds .non = some false := rfl
theorem hasK_tup {ks : List (List L2.Key)} {ds : List D} {es : List D} : hasK (.t ks) ds (.tup es) = ((keysOf es).map fun k => lookD ks ds k).map Option.isSome := rfl
def bK (o : Option Bool) (Q : Bool → Prop) : Prop := match o with
  | some b => Q b
  | none => False
theorem bK_some {b : Bool} {Q : Bool → Prop} : bK (some b) Q = Q b := rfl
theorem bK_is {o : Option Bool} {Q : Bool → Prop} (h : bK o Q) : ∃ b, o = some b ∧ Q b := by
  cases o with
  | some b => exact ⟨b, rfl, h⟩
  | none => exact h.elim
def gDIn : G2
  | y, .dct _ kd ds, Q => bK (hasK kd ds y) fun b => Q (.bl b)
  | _, _, _ => False
def gDNotIn : G2
  | y, .dct _ kd ds, Q => bK (hasK kd ds y) fun b => Q (.bl (!b))
  | _, _, _ => False
theorem gDIn_is {b : Bool} {kd : DKeys} {ds : List D} {y : D} {Q : D → Prop} : gDIn y (.dct b kd ds) Q = bK (hasK kd ds y) fun b => Q (.bl b) := by cases y <;> rfl
theorem gDNotIn_is {b : Bool} {kd : DKeys} {ds : List D} {y : D} {Q : D → Prop} : gDNotIn y (.dct b kd ds) Q = bK (hasK kd ds y) fun b => Q (.bl (!b)) := by cases y <;> rfl
def rDIn : R2 := fun y x H Q => (∃ a o, x = .ref a ∧ DGet H a y o ∧ Q (.bl o.isSome) H) ∨ ∃ a kvs, x = .ref a ∧ y = .non ∧ Rd H a (.dK kvs) ∧ Q (.bl false) H
def rDNotIn : R2 := fun y x H Q => (∃ a o, x = .ref a ∧ DGet H a y o ∧ Q (.bl (!o.isSome)) H) ∨ ∃ a kvs, x = .ref a ∧ y = .non ∧ Rd H a (.dK kvs) ∧ Q (.bl true) H
theorem op_din {X : Cx} (hu : X.A.units + 64 < cLine) : OpR X (compareOp .In) rDIn := by
  intro pins s σ H y x v u Q I ry rx q
  rcases q with ⟨a, ov, ex, g, q2⟩ | ⟨a, kvs, ex, ey, g, q2⟩
  · subst ex
    obtain rfl : u = Value.ref a := rx
    exact d_in (by omega) I g ry fun s3 I3 => ⟨.bl ov.isSome, H, I3, rfl, q2⟩
  · subst ex ey
    obtain rfl : u = Value.ref a := rx
    obtain rfl : v = Value.none := ry
    exact d_inNone I g fun s3 I3 => ⟨.bl false, H, I3, rfl, q2⟩
theorem op_dnotin {X : Cx} (hu : X.A.units + 64 < cLine) : OpR X (compareOp .NotIn) rDNotIn := by
  intro pins s σ H y x v u Q I ry rx q
  rcases q with ⟨a, ov, ex, g, q2⟩ | ⟨a, kvs, ex, ey, g, q2⟩
  · subst ex
    obtain rfl : u = Value.ref a := rx
    exact d_notIn (by omega) I g ry fun s3 I3 => ⟨.bl (!ov.isSome), H, I3, rfl, q2⟩
  · subst ex ey
    obtain rfl : u = Value.ref a := rx
    obtain rfl : v = Value.none := ry
    exact d_notInNone I g fun s3 I3 => ⟨.bl true, H, I3, rfl, q2⟩
theorem has_of {K : PySem.W.Frag} {F H : Hp} {a : Addr} {vs : List V} {kd : DKeys} {ds : List D} {B A : List Addr} {y : V} {dy : D} {b : Bool} (h : H a = some (kd.ho vs)) (r : Reps K F H vs ds B) (ry : Rep K F H y dy A) (g : hasK kd ds dy = some b) :
    (∃ o, DGet H a y o ∧ o.isSome = b) ∨ ((∃ kvs, y = .non ∧ Rd H a (.dK kvs)) ∧ b = false) := by
  unfold hasK at g
  split at g
  · rename_i ks
    cases g
    cases ry
    exact .inr ⟨⟨_, rfl, .inl h⟩, rfl⟩
  · cases hg : getK kd ds dy with
    | none => rw [hg] at g; cases g
    | some o =>
      rw [hg] at g
      cases g
      obtain ⟨ov, h1, h2⟩ := get_of h r ry hg
      refine .inl ⟨ov, h1, ?_⟩
      rcases h2 with ⟨rfl, rfl⟩ | ⟨d, v, C, rfl, rfl, _⟩ <;> rfl
theorem opd_din {K : PySem.W.Frag} : OpD K gDIn rDIn := by
  intro F H x y dx dy A B Q' Q hs rx ry w k
  unfold gDIn at w
  split at w
  · obtain ⟨b, g, q⟩ := bK_is w
    obtain ⟨a, vs, C, rfl, h1, h2, h3⟩ := rep_dct hs ry
    rcases has_of h1 h3 rx g with ⟨o, hg, rfl⟩ | ⟨⟨kvs, rfl, hr⟩, rfl⟩
    · exact .inl ⟨a, o, rfl, hg, k.same q (.bl _)⟩
    · exact .inr ⟨a, kvs, rfl, rfl, hr, k.same q (.bl _)⟩
  · exact w.elim
theorem opd_dnotin {K : PySem.W.Frag} : OpD K gDNotIn rDNotIn := by
  intro F H x y dx dy A B Q' Q hs rx ry w k
  unfold gDNotIn at w
  split at w
  · obtain ⟨b, g, q⟩ := bK_is w
    obtain ⟨a, vs, C, rfl, h1, h2, h3⟩ := rep_dct hs ry
    rcases has_of h1 h3 rx g with ⟨o, hg, rfl⟩ | ⟨⟨kvs, rfl, hr⟩, rfl⟩
    · exact .inl ⟨a, o, rfl, hg, k.same q (.bl _)⟩
    · exact .inr ⟨a, kvs, rfl, rfl, hr, k.same q (.bl _)⟩
  · exact w.elim
theorem d_dget {X : Cx} {E : EX} {a b : Expr} {wa wb : WE} {pos : Pos} (hu : X.A.units + 64 < cLine) (ha : DE X E a wa) (hb : DE X E b wb) (hs : NoSl b := by exact fun _ _ => rfl) : DE X E (.Subscript a b pos) (wOp gDGet wa wb) := by
  obtain ⟨ta, pa, sa⟩ := ha.ex
  obtain ⟨tb, pb, sb⟩ := hb.ex
  exact ⟨_, pe_dget (by omega) pa pb hs, sim_op (r := rDGet) opd_dget sa sb⟩
/-- d.get(k), d.get(k, x) -/
def isDct : D → Bool
  | .dct _ _ _ => true
  | _ => false
def gGetN (z : D) : G2
  | .dct _ kd ds, y, Q => gKget ((getK kd ds y).map fun o => some (o.getD z)) Q
  | _, _, _ => False
theorem gGetN_is {z : D} {b : Bool} {kd : DKeys} {ds : List D} {y : D} {Q : D → Prop} : gGetN z (.dct b kd ds) y Q = gKget ((getK kd ds y).map fun o => some (o.getD z)) Q := rfl
def wDGet1 (wa wb : WE) : WE := fun px env Q => wa px env fun a _ env1 => isDct a = true ∧ wb px env1 fun b _ env2 => gGetN .non a b fun d => Q d false env2
def wDGet2 (wa wb wc : WE) : WE := fun px env Q => wa px env fun a _ env1 => isDct a = true ∧ wb px env1 fun b _ env2 => wc px env2 fun c _ env3 => gGetN c a b fun d => Q d false env3
theorem isD_of {H : Hp} {a : Addr} {kd : DKeys} {vs : List V} (h : H a = some (kd.ho vs)) : IsD H a := by
  cases kd with
  | k ks => exact .inl ⟨_, .inl h⟩
  | t ks => exact .inr ⟨_, .inl h⟩
theorem getN_of {K : PySem.W.Frag} {F H : Hp} {a : Addr} {vs : List V} {kd : DKeys} {ds : List D} {B A C : List Addr} {y z : V} {dy dz : D} {Q : D → Prop} {bb : Bool} (h : H a = some (kd.ho vs)) (r : Reps K F H vs ds B) (ry : Rep K F H y dy A) (rz : Rep K F H z dz C)
    (w : gGetN dz (.dct bb kd ds) dy Q) : ∃ o d, DGet H a y o ∧ Q d ∧ Rep K F H (o.getD z) d [] := by
  rw [gGetN_is] at w
  cases hg : getK kd ds dy with
  | none => rw [hg] at w; exact w.elim
  | some o =>
    rw [hg] at w
    obtain ⟨d, e, hd, q⟩ := atK_is (o := some (o.getD dz)) w
    obtain ⟨ov, h1, h2⟩ := get_of h r ry hg
    refine ⟨ov, d, h1, q, ?_⟩
    rcases h2 with ⟨rfl, rfl⟩ | ⟨d', v, C', rfl, rfl, r'⟩
    · cases e
      have := rz.clean hd
      subst this
      exact rz
    · cases e
      have := r'.clean hd
      subst this
      exact r'
theorem sim_dget1 {K : PySem.W.Frag} {E : EX} {wa wb : WE} {ta tb : TE} (ha : Sim K E wa ta) (hb : Sim K E wb tb) : Sim K E (wDGet1 wa wb) (tDGet1 ta tb) := by
  intro px F0 H0 F H σ env pv pd L S Q' Q w k
  refine ha px F0 H0 F H σ env pv pd L S _ _ w fun a ba env1 x F1 H1 w1 eF1 eH1 R1 => ?_
  obtain ⟨⟨A, rx⟩, S1⟩ := R1.forget
  obtain ⟨hi, w1⟩ := w1
  cases a with
  | dct o kd ds =>
    obtain ⟨a, vs, C, rfl, h1, h2, h3⟩ := rep_dct S1.sub rx
    refine ⟨a, rfl, isD_of h1, hb px F0 H0 F1 H1 σ env1 pv pd L S1 _ _ w1 fun b bb env2 y F2 H2 w2 eF2 eH2 R2 => ?_⟩
    obtain ⟨⟨B, ry⟩, S2⟩ := R2.forget
    obtain ⟨ov, d, hg, q, r⟩ := getN_of (z := .non) (eH2 _ _ h1) (h3.ex eF2 eH2) ry .non w2
    exact ⟨ov, hg, k d false env2 _ F2 H2 q (eF1.trans eF2) (eH1.trans eH2) (S2.clean r)⟩
  | _ => cases hi
theorem sim_dget2 {K : PySem.W.Frag} {E : EX} {wa wb wc : WE} {ta tb tc : TE} (ha : Sim K E wa ta) (hb : Sim K E wb tb) (hc : Sim K E wc tc) : Sim K E (wDGet2 wa wb wc) (tDGet2 ta tb tc) := by
  intro px F0 H0 F H σ env pv pd L S Q' Q w k
  refine ha px F0 H0 F H σ env pv pd L S _ _ w fun a ba env1 x F1 H1 w1 eF1 eH1 R1 => ?_
  obtain ⟨⟨A, rx⟩, S1⟩ := R1.forget
  obtain ⟨hi, w1⟩ := w1
  cases a with
  | dct o kd ds =>
    obtain ⟨a, vs, C, rfl, h1, h2, h3⟩ := rep_dct S1.sub rx
    refine ⟨a, rfl, isD_of h1, hb px F0 H0 F1 H1 σ env1 pv pd L S1 _ _ w1 fun b bb env2 y F2 H2 w2 eF2 eH2 R2 => ?_⟩
    obtain ⟨⟨B, ry⟩, S2⟩ := R2.forget
    refine hc px F0 H0 F2 H2 σ env2 pv pd L S2 _ _ w2 fun c bc env3 z F3 H3 w3 eF3 eH3 R3 => ?_
    obtain ⟨⟨C3, rz⟩, S3⟩ := R3.forget
    obtain ⟨ov, d, hg, q, r⟩ := getN_of (eH3 _ _ (eH2 _ _ h1)) ((h3.ex eF2 eH2).ex eF3 eH3) (ry.ex eF3 eH3) rz w3
    exact ⟨ov, hg, k d false env3 _ F3 H3 q ((eF1.trans eF2).trans eF3) ((eH1.trans eH2).trans eH3) (S3.clean r)⟩
  | _ => cases hi
theorem d_get1 {X : Cx} {E : EX} {a b : Expr} {wa wb : WE} {apos cpos : Pos} (hu : X.A.units + 64 < cLine) (ha : DE X E a wa) (hb : DE X E b wb) (m : M1 X a "get" apos b cpos := by exact ⟨rfl, rfl, rfl, rfl⟩) : DE X E (.Call (.Attribute a "get" apos) [b] [] cpos) (wDGet1 wa wb) := by
  obtain ⟨ta, pa, sa⟩ := ha.ex
  obtain ⟨tb, pb, sb⟩ := hb.ex
  exact ⟨_, pe_dget1 (by omega) pa pb m, sim_dget1 sa sb⟩
theorem d_get2 {X : Cx} {E : EX} {a b c : Expr} {wa wb wc : WE} {apos cpos : Pos} (hu : X.A.units + 64 < cLine) (ha : DE X E a wa) (hb : DE X E b wb) (hc : DE X E c wc) (m : M2 X a "get" apos b c cpos := by exact ⟨rfl, rfl, rfl, rfl⟩) : DE X E (.Call (.Attribute a "get" apos) [b, c] [] cpos) (wDGet2 wa wb wc) := by
  obtain ⟨ta, pa, sa⟩ := ha.ex
  obtain ⟨tb, pb, sb⟩ := hb.ex
  obtain ⟨tc, pc, sc⟩ := hc.ex
  exact ⟨_, pe_dget2 (by omega) pa pb pc m, sim_dget2 sa sb sc⟩
/-- len(d) -/
def gLenD : GC
  | [.dct _ kd _], Q => Q (.int kd.len)
  | _, _ => False
def rLenD : List V → Hp → VK → Prop := fun xs H Q => (∃ a kvs, xs = [V.ref a] ∧ H a = some (.dK kvs) ∧ Q (.int kvs.length) H) ∨ (∃ (p : Addr) (kvs : List (List L2.Key × V)), xs = [.ref p] ∧ H p = some (.dT kvs) ∧ Q (.int ((kvs.length : Nat) : Int)) H)
theorem call_lenKT {X : Cx} : CallR X (.builtin "len") rLenD := by
  intro pins s σ H xs us Q I r h
  rcases h with h | h
  · exact call_lenD pins s σ H xs us Q I r h
  · exact call_len_dT pins s σ H xs us Q I r h
theorem cd_lenD {K : PySem.W.Frag} : CallD K gLenD rLenD := by
  intro F H xs ds A Q' Q hs r w k
  unfold gLenD at w
  split at w
  · obtain ⟨v, rfl, r1⟩ := reps1 r
    obtain ⟨a, vs, C, rfl, h1, h2, h3⟩ := rep_dct hs r1
    rename_i o kd es
    cases kd with
    | k ks => exact .inl ⟨a, _, rfl, h1, by
        have : ((ks.zip vs).length : Int) = (ks.length : Int) := by rw [List.length_zip]; have : ks.length = vs.length := h2; omega
        rw [this]; exact k.same w (.int _)⟩
    | t ks => exact .inr ⟨a, _, rfl, h1, by
        have : ((ks.zip vs).length : Int) = (ks.length : Int) := by rw [List.length_zip]; have : ks.length = vs.length := h2; omega
        rw [this]; exact k.same w (.int _)⟩
  · exact w.elim

/-! ### made, changed -/
section
variable {K : PySem.W.Frag} {F0 H0 F F' H H' : Hp} {σ : L2.St} {env : Env} {pv : List V} {pd : List D}
theorem tup_updD {a : Addr} {kd : DKeys} {vs : List V} {o : HO} (h : H a = some (kd.ho vs)) : ∀ b xs, H b = some (.tup xs) → upd H a o b = some (.tup xs) := fun b xs q => by
  have ne : b ≠ a := fun z => by
    subst z
    rw [h] at q
    cases kd <;> cases q
  rw [upd_ne ne]; exact q
/-- the dict in slot i, changed to clean values -/
theorem Sta.mutD {i : Nat} {kd : DKeys} {ds : List D} (S : Sta K F0 H0 F H σ env pv pd) (h : env[i]? = some (some (.dct true kd ds))) : ∃ a vs A', σ[i]? = some (some (.ref a)) ∧ H a = some (kd.ho vs) ∧ kd.len = vs.length ∧ Reps K F H vs ds A' ∧
    ∀ kd' vs' ds', kd'.len = vs'.length → Reps K F H vs' ds' [] → Sta K F0 H0 F (upd H a (kd'.ho vs')) σ (env.set i (some (.dct true kd' ds'))) pv pd := by
  obtain ⟨A0, B, h1, h2, h3, h4⟩ := S.own
  obtain ⟨v, A1, Ai, A2, e2, e3, r, s, back⟩ := h1.at h
  subst e3
  cases r with
  | dO hq hl rs =>
    rename_i a vs A'
    refine ⟨a, vs, A', e2, hq, hl, rs, fun kd' vs' ds' hl' r' => ?_⟩
    have na : ∀ b ∈ A1 ++ A2 ++ B, b ≠ a := fun b hb z => by
      subst z
      rw [List.nodup_append] at h3
      have h5 := List.nodup_append.mp h3.1
      have h6 := List.nodup_append.mp h5.1
      simp only [List.mem_append] at hb
      rcases hb with (hb | hb) | hb
      · exact h6.2.2 b hb b List.mem_cons_self rfl
      · exact h5.2.2 b (by simp) b hb rfl
      · exact h3.2.2 b (by simp) b hb rfl
    have ha := h4 a (by simp)
    have hT := tup_updD (o := kd'.ho vs') hq
    have ex0 : ∀ {G : Hp}, G a = none → (∀ b o, G b = some o → H b = some o) → Ex G (upd H a (kd'.ho vs')) := fun {G} hn hg b o q => by
      rw [upd_ne (ne_of_none q hn)]; exact hg b o q
    have ev : (σ.set i (some (V.ref a))) = σ := by
      obtain ⟨hi, hv⟩ := List.getElem?_eq_some_iff.mp e2
      rw [← hv]; exact List.set_getElem_self hi
    have rnew : Rep K F (upd H a (kd'.ho vs')) (.ref a) (.dct true kd' ds') [a] := .dO upd_same hl' (r'.mono (Same.refl _) hT fun b hb => absurd hb List.not_mem_nil)
    have sl := back (F' := F) (H' := upd H a (kd'.ho vs')) (Same.refl _) hT (fun b hb => upd_ne (na b (List.mem_append_left _ hb))) rnew
    rw [ev] at sl
    refine ⟨S.exF, ex0 ha.2 S.exH, ex0 ha.1 S.sub, S.new, A1 ++ [a] ++ A2, B, sl, h2.mono (Same.refl _) hT fun b hb => upd_ne (na b (List.mem_append_right _ hb)), ?_, fun b hb => h4 b ?_⟩
    · refine List.Nodup.sublist ?_ h3
      refine List.Sublist.append (List.Sublist.append (List.Sublist.append (List.Sublist.refl _) ?_) (List.Sublist.refl _)) (List.Sublist.refl _)
      exact List.Sublist.cons₂ _ (List.nil_sublist _)
    · simp only [List.mem_append, List.mem_cons, List.mem_nil_iff, or_false] at hb ⊢
      rcases hb with ((hb | hb) | hb) | hb
      · exact .inl (.inl (.inl hb))
      · exact .inl (.inl (.inr (.inl hb)))
      · exact .inl (.inr hb)
      · exact .inr hb
/-- the newest value is a dict, changed to clean values -/
theorem Sta.mutDP {x : V} {kd : DKeys} {ds : List D} (S : Sta K F0 H0 F H σ env (x :: pv) (.dct true kd ds :: pd)) : ∃ a vs A', x = .ref a ∧ H a = some (kd.ho vs) ∧ kd.len = vs.length ∧ Reps K F H vs ds A' ∧
    ∀ kd' vs' ds', kd'.len = vs'.length → Reps K F H vs' ds' [] → Sta K F0 H0 F (upd H a (kd'.ho vs')) σ env (.ref a :: pv) (.dct true kd' ds' :: pd) := by
  obtain ⟨A0, B, h1, h2, h3, h4⟩ := S.own
  cases h2 with
  | cons r rr e =>
    subst e
    cases r with
    | dO hq hl rs =>
      rename_i B1 a vs A'
      refine ⟨a, vs, A', rfl, hq, hl, rs, fun kd' vs' ds' hl' r' => ?_⟩
      have h3' := List.nodup_append.mp h3
      have na : ∀ b ∈ A0 ++ B1, b ≠ a := fun b hb z => by
        subst z
        rcases List.mem_append.mp hb with hb | hb
        · exact h3'.2.2 b hb b (by simp) rfl
        · have h5 := h3'.2.1
          rw [List.cons_append] at h5
          exact (List.nodup_cons.mp h5).1 (List.mem_append_right _ hb)
      have ha := h4 a (by simp)
      have hT := tup_updD (o := kd'.ho vs') hq
      have ex0 : ∀ {G : Hp}, G a = none → (∀ b o, G b = some o → H b = some o) → Ex G (upd H a (kd'.ho vs')) := fun {G} hn hg b o q => by
        rw [upd_ne (ne_of_none q hn)]; exact hg b o q
      have rnew : Rep K F (upd H a (kd'.ho vs')) (.ref a) (.dct true kd' ds') [a] := .dO upd_same hl' (r'.mono (Same.refl _) hT fun b hb => absurd hb List.not_mem_nil)
      refine ⟨S.exF, ex0 ha.2 S.exH, ex0 ha.1 S.sub, S.new, A0, a :: B1, h1.mono (Same.refl _) hT fun b hb => upd_ne (na b (List.mem_append_left _ hb)), .cons rnew (rr.mono (Same.refl _) hT fun b hb => upd_ne (na b (List.mem_append_right _ hb))) rfl, ?_, fun b hb => h4 b ?_⟩
      · refine List.Nodup.sublist ?_ h3
        refine List.Sublist.append (List.Sublist.refl _) ?_
        rw [List.cons_append]
        exact List.Sublist.cons₂ _ (List.sublist_append_right _ _)
      · simp only [List.mem_append, List.mem_cons] at hb ⊢
        rcases hb with hb | hb | hb
        · exact .inl hb
        · exact .inr (.inl (.inl hb))
        · exact .inr (.inr hb)
theorem reps_put {κ : Type} [DecidableEq κ] (f : List (κ × V) → HO) {ks : List κ} {vs : List V} {ds : List D} {k : κ} {v : V} {d : D} (hl : ks.length = vs.length) (r : Reps K F H vs ds []) (h : Rep K F H v d []) :
    ∃ vs', putK (ks.zip vs) k v = (putKs ks k).zip vs' ∧ (putKs ks k).length = vs'.length ∧ Reps K F H vs' (putDs ks ds k d) [] := by
  have hany : ∀ {ks : List κ} {vs : List V}, ks.length = vs.length → ((ks.zip vs).any fun kv => decide (kv.1 = k)) = decide (k ∈ ks) := by
    intro ks
    induction ks with
    | nil => intro vs _; simp
    | cons j ks ih =>
      intro vs hl
      cases vs with
      | nil => simp at hl
      | cons w vs =>
        rw [List.zip_cons_cons, List.any_cons, ih (by simpa using hl)]
        by_cases c : j = k
        · simp [c]
        · have : ¬ k = j := fun z => c z.symm
          simp [c, this]
  unfold putK putKs putDs
  rw [hany hl]
  by_cases c : k ∈ ks
  · simp only [c, decide_true, if_true]
    have go : ∀ {ks : List κ} {vs : List V} {ds : List D}, ks.length = vs.length → Reps K F H vs ds [] → ∃ vs', (ks.zip vs).map (fun kv => if kv.1 = k then (kv.1, v) else kv) = ks.zip vs' ∧ ks.length = vs'.length ∧ Reps K F H vs' (repDs ks ds k d) [] := by
      intro ks
      induction ks with
      | nil => intro vs ds hl r; exact ⟨vs, by simp, hl, by simpa [repDs] using r⟩
      | cons j ks ih =>
        intro vs ds hl r
        cases r with
        | nil => simp at hl
        | cons r1 rs e =>
          rename_i v1 vs1 d1 ds1 A1 B1
          have e2 := List.nil_eq_append_iff.mp e
          rw [e2.1] at r1
          rw [e2.2] at rs
          obtain ⟨vs', h1, h2, h3⟩ := ih (by simpa using hl) rs
          by_cases c : j = k
          · refine ⟨v :: vs', ?_, by simp [h2], ?_⟩
            · rw [List.zip_cons_cons, List.map_cons, h1, List.zip_cons_cons]
              simp [c]
            · rw [repDs, if_pos c]; exact .cons h h3 rfl
          · refine ⟨v1 :: vs', ?_, by simp [h2], ?_⟩
            · rw [List.zip_cons_cons, List.map_cons, h1, List.zip_cons_cons]
              simp [c]
            · rw [repDs, if_neg c]; exact .cons r1 h3 rfl
    exact go hl r
  · simp only [c, decide_false, Bool.false_eq_true, if_false]
    refine ⟨vs ++ [v], ?_, by simp [hl], ?_⟩
    · rw [List.zip_append hl]; rfl
    · exact r.app (.cons h .nil rfl)
end
/-- {} -/
def wDNew (kd : DKeys) : WE := fun _ env Q => Q (.dct true kd []) false env
theorem sim_dnewK {K : PySem.W.Frag} {E : EX} : Sim K E (wDNew (.k [])) tDNewK := by
  intro px F0 H0 F H σ env pv pd L S Q' Q w k p hp
  exact k _ false env _ F _ w (Same.refl _) (Ex.new hp) (S.push (Ex.new hp) (.dO (vs := []) upd_same rfl .nil) (by simp) (by simpa using hp))
theorem sim_dnewT {K : PySem.W.Frag} {E : EX} : Sim K E (wDNew (.t [])) tDNewT := by
  intro px F0 H0 F H σ env pv pd L S Q' Q w k p hp
  exact k _ false env _ F _ w (Same.refl _) (Ex.new hp) (S.push (Ex.new hp) (.dO (vs := []) upd_same rfl .nil) (by simp) (by simpa using hp))
/-- {k: v} -/
def kDisp (a b : D) (Q : D → Prop) : Prop := match keyOf a with
  | some k => Q (.dct true (.k [k]) [b])
  | none => False
theorem kDisp_int {i : Int} {b : D} {Q : D → Prop} : kDisp (.int i) b Q = Q (.dct true (.k [.inl i]) [b]) := rfl
theorem kDisp_str {i : Str} {b : D} {Q : D → Prop} : kDisp (.str i) b Q = Q (.dct true (.k [.inr i]) [b]) := rfl
def wDisp1 (wa wb : WE) : WE := fun px env Q => wa px env fun a _ env1 => wb px env1 fun b _ env2 => dirty b = false ∧ kDisp a b fun d => Q d false env2
theorem sim_disp1 {K : PySem.W.Frag} {E : EX} {wa wb : WE} {ta tb : TE} (ha : Sim K E wa ta) (hb : Sim K E wb tb) : Sim K E (wDisp1 wa wb) (tDisp [(ta, tb)]) := by
  intro px F0 H0 F H σ env pv pd L S Q' Q w k p hp
  have S0 : Sta K F0 H0 F (upd H p (.dK [])) σ env (.ref p :: pv) (.dct true (.k []) [] :: pd) := S.push (Ex.new hp) (.dO (vs := []) upd_same rfl .nil) (by simp) (by simpa using hp)
  have L0 : LinkX K F0 H0 px E (.ref p :: pv) (.dct true (.k []) [] :: pd) := L.push (qv := [.ref p]) (qd := [.dct true (.k []) []]) rfl
  refine ha px F0 H0 F _ σ env _ _ L0 S0 _ _ w fun a ba env1 x F1 H1 w1 eF1 eH1 R1 => ?_
  obtain ⟨⟨A, rx⟩, S1⟩ := R1.forget
  refine hb px F0 H0 F1 H1 σ env1 _ _ L0 S1 _ _ w1 fun b bb env2 y F2 H2 w2 eF2 eH2 R2 => ?_
  obtain ⟨hd, w2⟩ := w2
  obtain ⟨⟨B, ry⟩, S2⟩ := R2.forget
  have := ry.clean hd
  subst this
  obtain ⟨a', vs, A', e, hq, hl, rs, back⟩ := S2.mutDP
  cases e
  cases rs
  refine ⟨hq, ?_⟩
  unfold kDisp at w2
  split at w2
  · rename_i kk hk
    have ex : x = kV kk := by
      cases a with
      | int i => cases hk; rw [rep_int rx]; rfl
      | str i => cases hk; rw [rep_str rx]; rfl
      | _ => cases hk
    refine ⟨[(kk, y)], by rw [ex]; rfl, by simp, ?_⟩
    have em : mergeK [] [(kk, y)] = [kk].zip [y] := rfl
    rw [em]
    refine k _ false env2 _ F2 _ w2 (eF1.trans eF2) ?_ (back (.k [kk]) [y] [b] rfl (.cons ry .nil rfl))
    intro b o q
    have ne : b ≠ p := fun z => by subst z; rw [hp] at q; cases q
    have h0 : (upd H p (.dK [])) b = some o := by rw [upd_ne ne]; exact q
    rw [upd_ne ne]
    exact eH2 _ _ (eH1 _ _ h0)
  · exact w2.elim
section
variable {X : Cx} {E : EX} {e k : Expr} {w wk : WE} {pos apos cpos npos : Pos} {i : Nat} {x : Str}
theorem d_dnewK : DE X E (.Dict [] [] pos) (wDNew (.k [])) := ⟨_, pe_dnewK, sim_dnewK⟩
theorem d_dnewT : DE X E (.Dict [] [] pos) (wDNew (.t [])) := ⟨_, pe_dnewT, sim_dnewT⟩
theorem d_disp1 (ha : DE X E k wk) (hb : DE X E e w) : DE X E (.Dict [some k] [e] pos) (wDisp1 wk w) := by
  obtain ⟨ta, pa, sa⟩ := ha.ex
  obtain ⟨tb, pb, sb⟩ := hb.ex
  exact ⟨_, pe_disp (pps_cons pa pb pps_nil) rfl rfl (by simp) (by simp), sim_disp1 sa sb⟩
end
/-- x[k] = e, a dict -/
def atDct (i : Nat) (env : Env) (Q : DKeys → List D → Prop) : Prop := match env[i]? with
  | some (some (.dct true kd ds)) => Q kd ds
  | _ => False
theorem atDct_is {i : Nat} {env : Env} {Q : DKeys → List D → Prop} (h : atDct i env Q) : ∃ kd ds, env[i]? = some (some (.dct true kd ds)) ∧ Q kd ds := by
  unfold atDct at h
  split at h
  · exact ⟨_, _, by assumption, h⟩
  · exact h.elim
def wDPut (i : Nat) (w wk : WE) : WS := fun P px env => w px env fun d _ env1 => atDct i env1 fun _ _ => wk px env1 fun y _ env2 => atDct i env2 fun kd ds => dirty d = false ∧ dirtys ds = false ∧ kd.len ≤ 100000 ∧ putK2 kd ds y d fun kd' ds' => P.nx (env2.set i (some (.dct true kd' ds')))
theorem simS_dput {K : PySem.W.Frag} {E : EX} {i : Nat} {w wk : WE} {t tk : TE} (h : Sim K E w t) (hk : Sim K E wk tk) : SimS K E (wDPut i w wk) (sDPut (tVar i) tk t) := by
  intro px F0 H0 F H σ env pv pd L S P D w1 k
  refine h px F0 H0 F H σ env pv pd L S _ _ w1 fun d b env1 v F1 H1 w2 eF eH R => ?_
  obtain ⟨⟨A, r⟩, S1⟩ := R.forget
  obtain ⟨kd0, ds0, e0, w2⟩ := atDct_is w2
  obtain ⟨a0, vs0, A0, ea, ha, _, _, _⟩ := S1.mutD e0
  refine ⟨.ref a0, ea, ?_⟩
  refine hk px F0 H0 F1 H1 σ env1 pv pd L S1 _ _ w2 fun kk bk env2 kv F2 H2 w3 eF2 eH2 R2 => ?_
  obtain ⟨⟨A2, rk⟩, S2⟩ := R2.forget
  obtain ⟨kd, ds, e1, w3⟩ := atDct_is w3
  obtain ⟨w4, w5, w6, w7⟩ := w3
  obtain ⟨a, vs, A', es', hq, hl, ra, back⟩ := S2.mutD e1
  rw [ea] at es'; cases es'
  have c1 := ra.clean w5
  subst c1
  have c2 := r.clean w4
  subst c2
  have rv := r.ex eF2 eH2
  have zl : ∀ {κ : Type} (ks : List κ), ks.length ≤ 100000 → (ks.zip vs).length < sizeLine := fun ks hk => by
    rw [List.length_zip]
    exact lt_line (by omega)
  unfold putK2 at w7
  split at w7
  · rename_i ks j
    rw [rep_int rk]
    obtain ⟨vs', h1, h2, h3⟩ := reps_put (k := .inl j) HO.dK hl ra rv
    refine ⟨a0, _, rfl, .inl ⟨_, .inl j, hq, rfl, zl ks w6, rfl⟩, ?_⟩
    rw [h1]
    exact k.nx _ _ _ _ w7 (back (.k (putKs ks (.inl j))) vs' _ h2 h3)
  · rename_i ks j
    rw [rep_str rk]
    obtain ⟨vs', h1, h2, h3⟩ := reps_put (k := .inr j) HO.dK hl ra rv
    refine ⟨a0, _, rfl, .inl ⟨_, .inr j, hq, rfl, zl ks w6, rfl⟩, ?_⟩
    rw [h1]
    exact k.nx _ _ _ _ w7 (back (.k (putKs ks (.inr j))) vs' _ h2 h3)
  · rename_i ks es
    split at w7
    · rename_i key hkey
      cases rk with
      | tup hb rb =>
        have := rep_keys rb hkey
        subst this
        obtain ⟨vs', h1, h2, h3⟩ := reps_put (k := key) HO.dT hl ra rv
        refine ⟨a0, _, rfl, .inr ⟨_, key, _, hq, rfl, hb, zl ks w6, rfl⟩, ?_⟩
        rw [h1]
        exact k.nx _ _ _ _ w7 (back (.t (putKs ks key)) vs' _ h2 h3)
    · exact w7.elim
  · exact w7.elim
section
variable {X : Cx} {E : EX} {e k : Expr} {w wk : WE} {pos apos cpos npos spos : Pos} {i : Nat} {x : Str}
theorem s_dput (hu : X.A.units + 64 < cLine) (hN : X.N[i]? = some x := by rfl) (hv : Vis X.env.scope x := by first | exact Or.inl rfl | exact Or.inr (Or.inl rfl) | exact Or.inr (Or.inr rfl)) (hk : DE X E k wk) (h : DE X E e w) (hd : (x == ("__debug__" : Str)) = false := by decide) (hcd : (x == ("__classdict__" : Str)) = false := by decide)
    (hs : swapsWith e (some (.Subscript (.Name x npos) k spos)) pos.line X.env = pure false := by rfl) :
    DS X E (.Assign [.Subscript (.Name x npos) k spos] e pos) (wDPut i w wk) := by
  obtain ⟨t, p, s⟩ := h.ex
  obtain ⟨tk, pk, sk⟩ := hk.ex
  exact ⟨_, ps_dput (by omega) (pe_var hN hv hd hcd) pk p hs, simS_dput s sk⟩
end

/-! ### x in a list of data -/
def isLs : D → Bool
  | .lst _ _ => true
  | .seq _ => true
  | _ => false
def lsOf : D → List D
  | .lst _ ds => ds
  | .seq ds => ds
  | _ => []
def gInD : G2 := fun a b Q => isLs b = true ∧ shD a = true ∧ shD b = true ∧ Q (.bl ((lsOf b).any fun z => eqD z a))
def gNotInD : G2 := fun a b Q => isLs b = true ∧ shD a = true ∧ shD b = true ∧ Q (.bl (!(lsOf b).any fun z => eqD z a))
theorem pys_any {d : D} : ∀ {ds : List D}, (pys ds).any (fun z => PyData.eqv z (py d)) = ds.any fun z => eqD z d
  | [] => rfl
  | e :: ds => by rw [pys, List.any_cons, List.any_cons, pys_any]; rfl
theorem py_ls {d : D} (h : isLs d = true) : py d = .list (pys (lsOf d)) := by
  cases d with
  | lst o ds => rw [py]; rfl
  | seq ds => rw [py]; rfl
  | _ => cases h
theorem opd_inD {K : PySem.W.Frag} : OpD K gInD (rInD K) := by
  intro F H x y dx dy A B Q' Q hs rx ry w k
  obtain ⟨hi, w1, w2, w3⟩ := w
  unfold shD at w1 w2
  rw [Bool.and_eq_true] at w1 w2
  have e := py_ls hi
  have d2 := ry.dp hs w2.1
  rw [e] at d2
  refine ⟨_, _, rx.dp hs w1.1, d2, w1.2, by rw [← e]; exact w2.2, ?_⟩
  rw [pys_any]
  exact k.same w3 (.bl _)
theorem opd_notInD {K : PySem.W.Frag} : OpD K gNotInD (rNotInD K) := by
  intro F H x y dx dy A B Q' Q hs rx ry w k
  obtain ⟨hi, w1, w2, w3⟩ := w
  unfold shD at w1 w2
  rw [Bool.and_eq_true] at w1 w2
  have e := py_ls hi
  have d2 := ry.dp hs w2.1
  rw [e] at d2
  refine ⟨_, _, rx.dp hs w1.1, d2, w1.2, by rw [← e]; exact w2.2, ?_⟩
  rw [pys_any]
  exact k.same w3 (.bl _)
theorem units65 {k : Nat} {A : Around} (r : Room k A) : A.units + 65 < cLine := by have := r.un; omega

/-! ### is of truths -/
def gIsB : G2
  | .bl a, .bl b, Q => Q (.bl (decide (a = b)))
  | _, _, _ => False
def gIsntB : G2
  | .bl a, .bl b, Q => Q (.bl (!decide (a = b)))
  | _, _, _ => False
theorem gIsB_bl {a b : Bool} {Q : D → Prop} : gIsB (.bl a) (.bl b) Q = Q (.bl (decide (a = b))) := rfl
theorem gIsntB_bl {a b : Bool} {Q : D → Prop} : gIsntB (.bl a) (.bl b) Q = Q (.bl (!decide (a = b))) := rfl
theorem opd_isB {K : PySem.W.Frag} : OpD K gIsB rIsB := by
  intro F H x y dx dy A B Q' Q hs rx ry w k
  unfold gIsB at w
  split at w
  · rw [rep_bl rx, rep_bl ry]
    exact ⟨_, _, rfl, rfl, k.same w (.bl _)⟩
  · exact w.elim
theorem opd_isntB {K : PySem.W.Frag} : OpD K gIsntB rNotB := by
  intro F H x y dx dy A B Q' Q hs rx ry w k
  unfold gIsntB at w
  split at w
  · rw [rep_bl rx, rep_bl ry]
    exact ⟨_, _, rfl, rfl, k.same w (.bl _)⟩
  · exact w.elim

/-! ### list + list, the script's own among them -/
def rCatL (K : PySem.W.Frag) : R2 := fun x y H Q => ∃ l b xs zs, x = .ref l ∧ y = .ref b ∧ SqL K H l xs ∧ SqL K H b zs ∧ xs.length + zs.length ≤ sizeLine ∧ ∀ p, H p = none → Q (.ref p) (upd H p (.lst (xs ++ zs)))
theorem op_catL {X : Cx} : OpR X (binaryOp .Add) (rCatL X.K) := by
  intro pins s σ H x y v u Q I rx ry h
  obtain ⟨l, b, xs, zs, rfl, rfl, hH, hB, hz, q⟩ := h
  cases rx
  cases ry
  obtain ⟨its, r, ⟨⟨cls, dd, data, sl⟩, n, ho, hc, hdn, hdt⟩, _⟩ := I.list hH
  obtain ⟨its2, r2, ⟨⟨cls2, dd2, data2, sl2⟩, n2, ho2, hc2, hdn2, hdt2⟩, _⟩ := I.list hB
  simp only at hc hdt hc2 hdt2
  subst hc hdt hc2 hdt2
  have hl := r.length
  have hl2 := r2.length
  have ea : its.toArray ++ its2.toArray = (its ++ its2).toArray := by simp
  refine concat_meets ⟨_, ho, rfl⟩ ⟨_, ho2, rfl⟩ noFill_list_add seq_list_add PySem.F.slot_list_add PySem.F.entry_list_add (PySem.F.args_list_add_2 _ _) (list_addW l b its.toArray its2.toArray n n2 dd dd2 sl sl2 (by simp; omega)) ⟨ho, ho2, ?_⟩
  rw [ea]
  exact ⟨.ref _, _, I.lnew (t' := s.toks) (r.append r2) (by rw [List.length_append]; omega), rfl, q _ I.fresh⟩
def gAddL : G2 := fun a b Q => isLs a = true ∧ isLs b = true ∧ dirtys (lsOf a) = false ∧ dirtys (lsOf b) = false ∧ (lsOf a).length + (lsOf b).length ≤ 100000 ∧ Q (.lst true (lsOf a ++ lsOf b))
theorem rep_ls {K : PySem.W.Frag} {F H : Hp} {v : V} {d : D} {A : List Addr} (hs : Ex F H) (r : Rep K F H v d A) (h : isLs d = true) : ∃ a vs B, v = .ref a ∧ SqL K H a vs ∧ Reps K F H vs (lsOf d) B := by
  refine rep_asL1 hs r ?_
  cases d with
  | lst o ds => rfl
  | seq ds => rfl
  | _ => cases h
theorem opd_addL {K : PySem.W.Frag} : OpD K gAddL (rCatL K) := by
  intro F H x y dx dy A B Q' Q hs rx ry w k
  obtain ⟨h1, h2, h3, h4, h5, h6⟩ := w
  obtain ⟨a, vs, A', rfl, ha, ra⟩ := rep_ls hs rx h1
  obtain ⟨b, ws, B', rfl, hb, rb⟩ := rep_ls hs ry h2
  have e1 := ra.clean h3
  have e2 := rb.clean h4
  subst e1 e2
  exact ⟨a, b, vs, ws, rfl, rfl, ha, hb, by rw [ra.length, rb.length]; exact le_line h5, k.lst h6 (ra.app rb)⟩
end Tm

set_option Elab.async false
set_option linter.all false
set_option maxRecDepth 100000
set_option maxHeartbeats 1000000
/-! enumerate(list, start=1) -/
namespace Tm
open PySem PySem.Spec PyProof.Rows L2
def Ite1 (K : PySem.W.Frag) (a : Addr) : It :=
  ⟨fun i H => ∃ (xs : List V) (x : V), SqL K H a xs ∧ xs[i]? = some x, fun i H v H' => ∃ T x, v = .ref T ∧ H T = none ∧ H' = upd H T (.tup [.int ((i + 1 : Nat) : Int), x]) ∧ ∀ xs, SqL K H a xs → xs[i]? = some x, fun i H => ∃ xs : List V, SqL K H a xs ∧ xs.length ≤ i⟩
theorem enum_ne {s : Shared} {e it a : Addr} {c : Int} {old : Value} {i : Nat} {items : Array Value} (he : IsEnum s.heap e it c old) (hi : s.heap.IsListIter it a i) (hl : s.heap.IsList a items) : a ≠ it ∧ e ≠ a := by
  obtain ⟨o, ho, hc, _⟩ := hl
  obtain ⟨o2, ho2, hc2, _⟩ := hi
  refine ⟨fun z => ?_, fun z => ?_⟩
  · subst z
    rw [ho] at ho2; cases ho2
    rw [hc] at hc2
    exact absurd hc2 (by decide)
  · subst z
    obtain ⟨d, he⟩ : ∃ d, s.heap.get? e = some { cls := .type "enumerate", data := d } := ⟨_, he⟩
    rw [ho] at he; cases he
    exact absurd (Value.type.inj hc) (by decide)
theorem enum_endC {prog : Program} {w : World} {A : Around} {E : Value → Shared → Prop} {s : Shared} {e it l : Addr} {i : Nat} {c : Int} {items : Array Value} {old : Value} {Q : Option Value → Shared → Prop} (hh : A.handled = none)
    (he : IsEnum s.heap e it c old) (hit : s.heap.IsListIter it l i) (hl : s.heap.IsList l items) (hx : items[i]? = none)
    (hQ : ∀ h', Heap.ExtBut it s.heap h' → Q none { s with heap := h' }) : wpAny (model prog w) A (pyNext (.ref e)) Q E s := by
  have hT : s.TypeIs (.ref e) "enumerate" := ⟨_, he, rfl⟩
  unfold pyNext
  refine wpAny_bind (wpAny_attempt (wpAny_callSpecial?_slot (name := Str.ofString "__next__") hT PySem.F.slot_enumerate_next
    (wpAny_call_entry PySem.F.slot_enumerate_next hT PySem.F.entry_enumerate_next ?_ (PySem.F.args_enumerate_next_1 _))))
  show wpAny _ _ (field (.ref e) 2 >>= _) _ _ _
  refine wpAny_bind (wpAny_field he rfl (x := .ref it) rfl ?_)
  refine wpAny_bind (wpAny_nextOf_list_end hh hit hl hx fun h' x he' hx' => ?_)
  obtain ⟨o, ho, hc⟩ := hx'
  refine wpAny_bind (wpAny_isInstance (T := "StopIteration") (b := true) ⟨o, ho, hc⟩ isSubtype_stop ?_)
  exact wpAny_pure (hQ _ he')
theorem turn_enum1 {P : Program} {w : World} {K : PySem.W.Frag} {elts : List Expr} {kk : Nat} {tpos : Pos} (a e it : Addr) :
    Turn P w K (.Tuple elts kk tpos) (Ite1 K a) [e, it] e (fun i h => (∃ old, IsEnum h e it ((i + 1 : Nat) : Int) old) ∧ h.IsListIter it a i ∧ e ≠ it) where
  mem := by simp
  obj := fun i h st b hb => by
    obtain ⟨⟨old, he⟩, ⟨o, ho, hc, hd⟩, _⟩ := st
    have e' : b = e ∨ b = it := by simpa using hb
    rcases e' with z | z
    · rw [z]; exact ⟨_, he, fun v q => nomatch q⟩
    · rw [z]; exact ⟨o, ho, fun v q => by rw [hd] at q; cases q⟩
  keep := fun i h h' st k => let ⟨⟨old, he⟩, hi, hne⟩ := st; ⟨⟨old, k e (by simp) _ he⟩, hi.at fun o q => k it (by simp) o q, hne⟩
  item := by
    intro X hP hw hK hc i pins s σ H E I hf st hg
    subst hP hw hK
    obtain ⟨⟨old, he⟩, hit, hne⟩ := st
    obtain ⟨xs, x, hq, hx⟩ := hg
    obtain ⟨its, rv, p, hz⟩ := I.list hq
    obtain ⟨u, hu, ru⟩ := rv.get hx
    have hel : e < s.heap.objs.size := Heap.lt_size he
    have hil : it < s.heap.objs.size := by obtain ⟨_, q, _⟩ := hit; exact Heap.lt_size q
    have hu' : its.toArray[i]? = some u := by simpa using hu
    obtain ⟨ne1, ne2⟩ := enum_ne he hit p.isList
    refine wpAny_pyNext_enum_itemC (Draws.list (A := X.A.in1) (I.ok.hd hc) it a ne1 its.toArray) he ⟨hit, p.isList⟩ (Array.getElem?_eq_some_iff.mp hu').1 hne (by simp [hne, ne2]) fun y h' tk hy ho st' hT hsz hk => ?_
    rw [hu'] at hy; cases hy
    refine ⟨_, rfl, wpAny_letOwnedTupleGo_enum (s := { s with heap := h', toks := tk + 1 }) ho fun h'' he' sb => ?_⟩
    have hT2 : h''.get? s.heap.objs.size = some { cls := .type "tuple", data := .seq #[.int ((i + 1 : Nat) : Int) tk, u] } := (sb.2 _ (Nat.ne_of_gt hel)).trans hT
    have new : ObjOk X.prog X.w (upd H s.heap.objs.size (.tup [.int ((i + 1 : Nat) : Int), x])) h'' s.heap.objs.size (.tup [.int ((i + 1 : Nat) : Int), x]) :=
      ⟨by show 2 ≤ sizeLine; decide, [.int ((i + 1 : Nat) : Int) tk, u], .cons ⟨_, rfl⟩ (.cons ru .nil), ⟨_, hT2, rfl, _, rfl⟩⟩
    have I1 : Inv X pins σ (upd H s.heap.objs.size (.tup [.int ((i + 1 : Nat) : Int), x])) { s with heap := h'', toks := tk + 1 } :=
      I.turnedNew (ch := [e, it]) (fun b ob hb q => (sb.2 b (fun z => hb (by simp [z]))).trans (hk b ob (fun z => hb (by simp [z])) (fun z => hb (by simp [z])) q)) hf (Nat.le_refl _) new
    refine ⟨.ref s.heap.objs.size, _, I1, rfl, ⟨_, x, rfl, I.hok.fresh (Nat.le_refl _), rfl, fun ys hy => by rw [I.list_inj hy hq]; exact hx⟩, ⟨⟨u, ?_⟩, st'.1.at fun o q => (sb.2 it (Ne.symm hne)).trans q, hne⟩, fun b hb => ?_⟩
    · have e1 : ((i + 1 + 1 : Nat) : Int) = ((i + 1 : Nat) : Int) + 1 := by omega
      rw [e1]; exact he'
    · have hb' : b < s.heap.objs.size := by
        have e' : b = e ∨ b = it := by simpa using hb
        rcases e' with z | z
        · rw [z]; exact hel
        · rw [z]; exact hil
      rw [upd_ne (Nat.ne_of_lt hb')]
      exact (hf b hb).1
  done := by
    intro X hP hw hK hc i pins s σ H E I hf st hg
    subst hP hw hK
    obtain ⟨⟨old, he⟩, hit, hne⟩ := st
    obtain ⟨xs, hq, hx⟩ := hg
    obtain ⟨its, rv, p, hz⟩ := I.list hq
    obtain ⟨f0, f1, f2, f3, f4, f5⟩ := hf it (by simp)
    have hl := rv.length
    exact enum_endC (I.ok.hd hc) he hit p.isList (by simp; omega) fun h' eb => ⟨rfl, I.turned (t' := s.toks) (fun b o hb q => eb b o hb q) f0 f1 f3 f4 f5⟩
  self := fun A i s Q E st h => let ⟨⟨_, he⟩, _⟩ := st; wpAny_pyIter_enum he h
theorem callWith_typeK {M : Model} {A : Around} {E : Value → Shared → Prop} {s : Shared} {env : PySem.Env} {pos : Pos} {T : String} {e : Expr} {rest : List Expr} {kws : List Keyword} {Q : Value → Shared → Prop}
    (h : wpAny M A (spliced (backTo pos (starEach (e :: rest) env))) (fun vs s₁ => wpAny M A (evalAll ((backToKw pos (keywordEach kws env)).map (·.2)))
      (fun kvs s₂ => wpAny M A (call (.type T) vs (((backToKw pos (keywordEach kws env)).filterMap (·.1)).zip kvs)) Q E s₂) E s₁) E s)
    (he : backTo pos (starEach (e :: rest) env) = (false, eval e env) :: backTo pos (starEach rest env))
    (hplain : (backTo pos (starEach (e :: rest) env)).any (·.1) = false)
    (hall : (backToKw pos (keywordEach kws env)).all (·.1.isSome) = true)
    (hkw : (backToKw pos (keywordEach kws env)).any (·.1.isNone) = false) :
    wpAny M A (callWith pos (.type T) [] (backTo pos (starEach (e :: rest) env)) (backToKw pos (keywordEach kws env))) Q E s := by
  have h2 : wpAny M A (evalArgs (.type T) true (backTo pos (starEach (e :: rest) env)) (backToKw pos (keywordEach kws env))) (fun a s₁ => wpAny M A (call (.type T) ([] ++ a.pos) a.kw) Q E s₁) E s := by
    rw [he] at h ⊢
    exact evalArgs_kwB hall h
  unfold callWith
  refine wpAny_bind (wpAny_holding (wpAny_mono h2 (fun a s₁ h₁ => wpAny_bind (wpAny_standAt ?_)) fun _ _ x => x))
  simp only [hplain, hkw, Bool.or_false]
  refine wpAny_bind (wpAny_pure ?_)
  exact wpAny_bind (wpAny_mono h₁ (fun r s₂ hr => wpAny_bind (wpAny_holding (wpAny_point (wpAny_pure hr)))) fun _ _ x => x)
def iEnum1 (K : PySem.W.Frag) (ta : TA) : TI := fun σ H R => ta σ H fun vs H1 => ∃ a xs, vs = [.ref a] ∧ SqL K H1 a xs ∧ R (Ite1 K a) H1
theorem pi_enum1 {X : Cx} {e : Expr} {ta : TA} {p pos tpos kpos cpos : Pos} {j : Nat} {elts : List Expr} {kk : Nat} (hg : Gl X "enumerate") (hm : X.mg "enumerate" = none) (ha : PA X [e] ta) (hs : starEach [e] X.env = [(false, eval e X.env)] := by rfl) :
    PI X (.Tuple elts kk tpos) (.Call (.Name "enumerate" p) [e] [⟨some "start", .Constant (.int 1) j cpos, kpos⟩] pos) (iEnum1 X.K ta) := by
  refine ⟨fun pins s σ H R I h => ?_⟩
  refine wpAny_Call_Name_kw (ld_blt I hg hm boot_enumerate (callWith_typeK (thn (ha.run pos pins s σ H _ I h) fun us s1 ⟨vs, H1, I1, r1, q1⟩ => ?_) (by rw [hs]; rfl) (by rw [hs]; rfl) (by rfl) (by rfl)))
  obtain ⟨a, xs, ex, hq, q⟩ := q1
  subst ex
  cases r1 with
  | cons r rr =>
    cases rr
    cases r
    obtain ⟨its, rv, p', hz⟩ := I1.list hq
    refine kws_cons (wpAny_Constant_int (kws_nil ?_))
    refine enum_begins_start (begins_list a its.toArray) (by exact p'.isList) (by decide) (by decide) fun h' he hit hsz hk => wpAny_pyIter_enum he ?_
    have I2 : Inv X pins σ H1 { s1 with heap := h', toks := s1.toks + 1 } := (I1.tok _).kept (t' := s1.toks + 1) hk
    refine ⟨s1.heap.objs.size + 1, [s1.heap.objs.size + 1, s1.heap.objs.size], _, _, H1, rfl, I2, turn_enum1 a (s1.heap.objs.size + 1) s1.heap.objs.size, ⟨⟨.none, he⟩, ⟨_, hit, rfl, rfl⟩, Nat.succ_ne_self _⟩, fun b hb => ?_, q⟩
    have e' : b = s1.heap.objs.size + 1 ∨ b = s1.heap.objs.size := by simpa using hb
    have hle : s1.heap.objs.size ≤ b := by
      rcases e' with z | z
      · rw [z]; exact Nat.le_add_right _ _
      · rw [z]; exact Nat.le_refl _
    exact I1.fpOk hle (I1.hok.fresh hle)
def itsE1 (w : WA) : WI := fun px env Q => w px env fun ds env1 => match ds with
  | [d] => dirty d = false ∧ (match asL d with
    | some es => dirtys es = false ∧ Q (enumD 1 es) env1
    | none => False)
  | _ => False
theorem simI_E1 {K : PySem.W.Frag} {E : EX} {w : WA} {t : TA} (h : SimA K E w t) : SimI K E (itsE1 w) (iEnum1 K t) := by
  intro px F0 H0 F H σ env pv pd L S Q' R w1 k
  refine h px F0 H0 F H σ env pv pd L S _ _ w1 fun ds env1 vs F1 H1 A w2 eF eH rs S1 => ?_
  unfold itsE1 at w1
  split at w2
  · rename_i d
    obtain ⟨hd, w2⟩ := w2
    obtain ⟨v, rfl, r⟩ := reps1 rs
    have := r.clean hd
    subst this
    split at w2
    · rename_i es he
      obtain ⟨a, vs, B, rfl, hq, rs', _⟩ := rep_asL S1.sub r he
      refine ⟨a, vs, rfl, hq, k _ env1 _ F1 H1 [.ref a] [d] w2.2 eF eH (S1.clean r) ⟨rfl, fun F H A i e hs rr hi => ?_, fun F H A hs rr => ?_⟩⟩
      · cases rr with
        | cons r1 _ _ =>
          obtain ⟨a', vs', B', e1, hq', rs', _⟩ := rep_asL hs r1 he
          cases e1
          rw [enumD_get] at hi
          cases hx : es[i]? with
          | none => rw [hx] at hi; cases hi
          | some y =>
            rw [hx] at hi
            simp only [Option.map_some, Option.some.injEq] at hi
            obtain ⟨x, C, hx', rx, _⟩ := rs'.get hx
            have cl := rx.clean (dirtys_false.mp w2.1 y (List.mem_of_getElem? hx))
            subst cl
            refine ⟨⟨vs', x, hq', hx'⟩, fun z H' yl => ?_⟩
            obtain ⟨T, x2, rfl, hT, rfl, f⟩ := yl
            have := f vs' hq'
            rw [hx'] at this; cases this
            refine ⟨Ex.new hT, ?_⟩
            rw [← hi, Nat.add_comm 1 i]
            exact .tup upd_same (.cons (.int _) (.cons (rx.ex (Same.refl _) (Ex.new hT)) .nil rfl) rfl)
      · cases rr with
        | cons r1 _ _ =>
          obtain ⟨a', vs', B', e1, hq', rs', _⟩ := rep_asL hs r1 he
          cases e1
          exact ⟨vs', hq', by rw [enumD_len, rs'.length]; exact Nat.le_refl _⟩
    · exact w2.elim
  · exact w2.elim
theorem n_E1 {X : Cx} {E : EX} {e : Expr} {wa : WA} {p pos tpos kpos cpos : Pos} {j : Nat} {elts : List Expr} {kk : Nat} (hg : Gl X "enumerate") (hm : X.mg "enumerate" = none) (h : DA X E [e] wa) (hs : starEach [e] X.env = [(false, eval e X.env)] := by rfl) :
    DI X E (.Tuple elts kk tpos) (.Call (.Name "enumerate" p) [e] [⟨some "start", .Constant (.int 1) j cpos, kpos⟩] pos) (itsE1 wa) := by
  obtain ⟨t, pp, s⟩ := h.ex
  exact ⟨_, pi_enum1 hg hm pp hs, simI_E1 s⟩
theorem enum1_get {α : Type} {f : α → D} {xs : List α} {i : Nat} {d : D} (h : (enumD 1 (xs.map f))[i]? = some d) : ∃ a, xs[i]? = some a ∧ d = .tup [.int ((i : Int) + 1), f a] := by
  rw [enumD_get, List.getElem?_map] at h
  cases e : xs[i]? with
  | none => rw [e] at h; cases h
  | some a =>
    rw [e] at h
    simp only [Option.map_some, Option.some.injEq] at h
    refine ⟨a, rfl, ?_⟩
    rw [← h, show ((1 + i : Nat) : Int) = (i : Int) + 1 from by omega]
end Tm

set_option Elab.async false
set_option linter.all false
set_option maxRecDepth 100000
set_option maxHeartbeats 1000000
/-! places within owned data: read (borrowed), changed in place -/
namespace Tm
open PySem PySem.Spec PyProof.Rows L2

/-! ### xs[i], the item borrowed -/
def bI (o : Option D) (Q : D → Prop) : Prop := match o with
  | some d => Q d
  | none => False
theorem bI_some {d : D} {Q : D → Prop} : bI (some d) Q = Q d := rfl
theorem bI_of {o : Option D} {d : D} {Q : D → Prop} (e : o = some d) (h : Q d) : bI o Q := by rw [e]; exact h
theorem bI_is {o : Option D} {Q : D → Prop} (h : bI o Q) : ∃ d, o = some d ∧ Q d := by
  cases o with
  | some d => exact ⟨d, rfl, h⟩
  | none => exact h.elim
def gIxB : G2
  | .lst _ ds, .int i, Q => bI (atI ds i) Q
  | .tup ds, .int i, Q => bI (atI ds i) Q
  | .pin _ ds, .int i, Q => bI (atI ds i) Q
  | _, _, _ => False
theorem gIxB_pin {a : Addr} {ds : List D} {i : Int} {Q : D → Prop} : gIxB (.pin a ds) (.int i) Q = bI (atI ds i) Q := rfl
theorem gIxB_lst {o : Bool} {ds : List D} {i : Int} {Q : D → Prop} : gIxB (.lst o ds) (.int i) Q = bI (atI ds i) Q := rfl
theorem gIxB_tup {ds : List D} {i : Int} {Q : D → Prop} : gIxB (.tup ds) (.int i) Q = bI (atI ds i) Q := rfl
def wIxB (wa wb : WE) : WE := fun px env Q => wa px env fun a _ env1 => wb px env1 fun k _ env2 => gIxB a k fun d => Q d (dirty d) env2
theorem Res.borrow {K : PySem.W.Frag} {F0 H0 F H : Hp} {σ : L2.St} {env : Env} {pv : List V} {pd : List D} {v : V} {d : D} {A : List Addr} (S : Sta K F0 H0 F H σ env pv pd) (r : Rep K F H v d A) : Res K F0 H0 F H σ env pv pd v d (dirty d) := by
  cases h : dirty d with
  | true => exact ⟨⟨A, r⟩, S⟩
  | false =>
    have e := r.clean h
    subst e
    exact S.clean r
theorem sim_ixB {K : PySem.W.Frag} {E : EX} {wa wb : WE} {ta tb : TE} (ha : Sim K E wa ta) (hb : Sim K E wb tb) : Sim K E (wIxB wa wb) (tOp (rIx K) ta tb) := by
  intro px F0 H0 F H σ env pv pd L S Q' Q w k
  refine ha px F0 H0 F H σ env pv pd L S _ _ w fun a ba env1 x F1 H1 w1 eF1 eH1 R1 => ?_
  obtain ⟨⟨A, rx⟩, S1⟩ := R1.forget
  refine hb px F0 H0 F1 H1 σ env1 pv pd L S1 _ _ w1 fun b bb env2 y F2 H2 w2 eF2 eH2 R2 => ?_
  obtain ⟨⟨B, ry⟩, S2⟩ := R2.forget
  have rx := rx.ex eF2 eH2
  unfold gIxB at w2
  split at w2
  · rename_i o ds i
    rw [rep_int ry]
    obtain ⟨d, hd, q⟩ := bI_is w2
    obtain ⟨a, vs, C, rfl, hq, rs⟩ := rep_lst S2.sub rx
    obtain ⟨v, B, e2, r2⟩ := reps_atI rs hd
    exact .inl ⟨a, vs, _, v, rfl, rfl, .inl (.inl hq), e2, k d _ env2 v F2 H2 q (eF1.trans eF2) (eH1.trans eH2) (Res.borrow S2 r2)⟩
  · rename_i ds i
    rw [rep_int ry]
    obtain ⟨d, hd, q⟩ := bI_is w2
    obtain ⟨a, vs, rfl, hq, rs⟩ := rep_tup rx
    obtain ⟨v, B, e2, r2⟩ := reps_atI rs hd
    exact .inr (.inl ⟨a, vs, _, v, rfl, rfl, hq, e2, k d _ env2 v F2 H2 q (eF1.trans eF2) (eH1.trans eH2) (Res.borrow S2 r2)⟩)
  · rename_i a ds i
    rw [rep_int ry]
    obtain ⟨d, hd, q⟩ := bI_is w2
    cases rx with
    | pin hq rs =>
      obtain ⟨v, B, e2, r2⟩ := reps_atI rs hd
      exact .inl ⟨_, _, _, v, rfl, rfl, .inl (.inl hq), e2, k d _ env2 v F2 H2 q (eF1.trans eF2) (eH1.trans eH2) (Res.borrow S2 r2)⟩
  · exact w2.elim
theorem d_ixB {X : Cx} {E : EX} {a b : Expr} {wa wb : WE} {pos : Pos} (ha : DE X E a wa) (hb : DE X E b wb) (hs : PlainIx b := by exact fun _ _ => rfl) : DE X E (.Subscript a b pos) (wIxB wa wb) := by
  obtain ⟨ta, pa, sa⟩ := ha.ex
  obtain ⟨tb, pb, sb⟩ := hb.ex
  exact ⟨_, pe_ix ix_seq pa pb hs, sim_ixB sa sb⟩

/-! ### paths -/
/-- the part of owned data at a path -/
def subP : D → List Nat → Option D
  | d, [] => some d
  | .lst true ds, j :: p => match ds[j]? with
    | some d => subP d p
    | none => none
  | .tup ds, j :: p => match ds[j]? with
    | some d => subP d p
    | none => none
  | .dct true _ ds, j :: p => match ds[j]? with
    | some d => subP d p
    | none => none
  | .pin _ ds, j :: p => match ds[j]? with
    | some d => subP d p
    | none => none
  | .obj .t _ _ ds, j :: p => match ds[j]? with
    | some d => subP d p
    | none => none
  | .obj (.p _) _ _ ds, j :: p => match ds[j]? with
    | some d => subP d p
    | none => none
  | _, _ :: _ => none
def setP : D → List Nat → D → D
  | _, [], e => e
  | .lst o ds, j :: p, e => match ds[j]? with
    | some d => .lst o (ds.set j (setP d p e))
    | none => .lst o ds
  | .tup ds, j :: p, e => match ds[j]? with
    | some d => .tup (ds.set j (setP d p e))
    | none => .tup ds
  | .dct o kd ds, j :: p, e => match ds[j]? with
    | some d => .dct o kd (ds.set j (setP d p e))
    | none => .dct o kd ds
  | .pin a ds, j :: p, e => match ds[j]? with
    | some d => .pin a (ds.set j (setP d p e))
    | none => .pin a ds
  | .obj o c ns ds, j :: p, e => match ds[j]? with
    | some d => .obj o c ns (ds.set j (setP d p e))
    | none => .obj o c ns ds
  | d, _ :: _, _ => d
def stepO (o : Option D) (p : List Nat) : Option D := match o with
  | some d => subP d p
  | none => none
theorem stepO_some {d : D} {p : List Nat} : stepO (some d) p = subP d p := rfl
theorem subP_nil {d : D} : subP d [] = some d := by cases d <;> rfl
theorem subP_lst {ds : List D} {j : Nat} {p : List Nat} : subP (.lst true ds) (j :: p) = stepO ds[j]? p := by unfold stepO; rw [subP]
theorem subP_tup {ds : List D} {j : Nat} {p : List Nat} : subP (.tup ds) (j :: p) = stepO ds[j]? p := by unfold stepO; rw [subP]
theorem subP_dct {kd : DKeys} {ds : List D} {j : Nat} {p : List Nat} : subP (.dct true kd ds) (j :: p) = stepO ds[j]? p := by unfold stepO; rw [subP]
theorem subP_pin {a : Addr} {ds : List D} {j : Nat} {p : List Nat} : subP (.pin a ds) (j :: p) = stepO ds[j]? p := by unfold stepO; rw [subP]
theorem subP_objT {c : Str} {ns : List Str} {ds : List D} {j : Nat} {p : List Nat} : subP (.obj .t c ns ds) (j :: p) = stepO ds[j]? p := by unfold stepO; rw [subP]
theorem subP_objP {a : Addr} {c : Str} {ns : List Str} {ds : List D} {j : Nat} {p : List Nat} : subP (.obj (.p a) c ns ds) (j :: p) = stepO ds[j]? p := by unfold stepO; rw [subP]
theorem setP_nil {d e : D} : setP d [] e = e := by cases d <;> rfl
theorem set_none {ds : List D} {j : Nat} {e : D} (h : ds[j]? = none) : ds.set j e = ds := List.set_eq_of_length_le (List.getElem?_eq_none_iff.mp h)
theorem setP1_lst {o : Bool} {ds : List D} {j : Nat} {e : D} : setP (.lst o ds) [j] e = .lst o (ds.set j e) := by
  rw [setP]
  cases h : ds[j]? with
  | none => simp only; rw [set_none h]
  | some d => simp only; rw [setP_nil]
theorem setP1_tup {ds : List D} {j : Nat} {e : D} : setP (.tup ds) [j] e = .tup (ds.set j e) := by
  rw [setP]
  cases h : ds[j]? with
  | none => simp only; rw [set_none h]
  | some d => simp only; rw [setP_nil]
theorem setP1_dct {o : Bool} {kd : DKeys} {ds : List D} {j : Nat} {e : D} : setP (.dct o kd ds) [j] e = .dct o kd (ds.set j e) := by
  rw [setP]
  cases h : ds[j]? with
  | none => simp only; rw [set_none h]
  | some d => simp only; rw [setP_nil]
theorem setP1_pin {a : Addr} {ds : List D} {j : Nat} {e : D} : setP (.pin a ds) [j] e = .pin a (ds.set j e) := by
  rw [setP]
  cases h : ds[j]? with
  | none => simp only; rw [set_none h]
  | some d => simp only; rw [setP_nil]
theorem setP1_obj {o : Own} {c : Str} {ns : List Str} {ds : List D} {j : Nat} {e : D} : setP (.obj o c ns ds) [j] e = .obj o c ns (ds.set j e) := by
  rw [setP]
  cases h : ds[j]? with
  | none => simp only; rw [set_none h]
  | some d => simp only; rw [setP_nil]
theorem setP_obj {o : Own} {c : Str} {ns : List Str} {ds : List D} {j : Nat} {p : List Nat} {d e : D} (h : ds[j]? = some d) : setP (.obj o c ns ds) (j :: p) e = .obj o c ns (ds.set j (setP d p e)) := by simp [setP, h]
theorem setP_pin {a : Addr} {ds : List D} {j : Nat} {p : List Nat} {d e : D} (h : ds[j]? = some d) : setP (.pin a ds) (j :: p) e = .pin a (ds.set j (setP d p e)) := by simp [setP, h]
theorem setP_lst {o : Bool} {ds : List D} {j : Nat} {p : List Nat} {d e : D} (h : ds[j]? = some d) : setP (.lst o ds) (j :: p) e = .lst o (ds.set j (setP d p e)) := by simp [setP, h]
theorem setP_tup {ds : List D} {j : Nat} {p : List Nat} {d e : D} (h : ds[j]? = some d) : setP (.tup ds) (j :: p) e = .tup (ds.set j (setP d p e)) := by simp [setP, h]
theorem setP_dct {o : Bool} {kd : DKeys} {ds : List D} {j : Nat} {p : List Nat} {d e : D} (h : ds[j]? = some d) : setP (.dct o kd ds) (j :: p) e = .dct o kd (ds.set j (setP d p e)) := by simp [setP, h]
/-- what stands at a path in the heap -/
def kidsV : HO → Option (List V)
  | .lst vs => some vs
  | .tup vs => some vs
  | .dK kvs => some (kvs.map (·.2))
  | .dT kvs => some (kvs.map (·.2))
  | .ins _ _ fs => some (fs.map (·.2))
  | _ => none
def valP (H : Hp) : V → List Nat → Option V
  | v, [] => some v
  | .ref a, j :: p => match H a with
    | some o => match kidsV o with
      | some vs => match vs[j]? with
        | some v => valP H v p
        | none => none
      | none => none
    | none => none
  | _, _ :: _ => none
theorem valP_mono {H H' : Hp} (e : Ex H H') : ∀ {p : List Nat} {v u : V}, valP H v p = some u → valP H' v p = some u
  | [], v, u, h => h
  | j :: p, v, u, h => by
    cases v with
    | ref a =>
      simp only [valP] at h ⊢
      cases ha : H a with
      | none => rw [ha] at h; cases h
      | some o =>
        rw [ha] at h
        rw [e _ _ ha]
        simp only at h ⊢
        cases hk : kidsV o with
        | none => rw [hk] at h; cases h
        | some vs =>
          rw [hk] at h
          simp only at h ⊢
          cases hj : vs[j]? with
          | none => rw [hj] at h; cases h
          | some w =>
            rw [hj] at h
            simp only at h ⊢
            exact valP_mono e h
    | _ => cases h
theorem valP_lst {H : Hp} {a : Addr} {vs : List V} {j : Nat} {p : List Nat} {v : V} (h : H a = some (.lst vs)) (hj : vs[j]? = some v) : valP H (.ref a) (j :: p) = valP H v p := by
  simp [valP, h, kidsV, hj]
theorem valP_tup {H : Hp} {a : Addr} {vs : List V} {j : Nat} {p : List Nat} {v : V} (h : H a = some (.tup vs)) (hj : vs[j]? = some v) : valP H (.ref a) (j :: p) = valP H v p := by
  simp [valP, h, kidsV, hj]
theorem zip_snd {α β : Type} : ∀ {ks : List α} {vs : List β}, ks.length = vs.length → (ks.zip vs).map (·.2) = vs
  | [], [], _ => rfl
  | k :: ks, v :: vs, h => by simp [zip_snd (ks := ks) (vs := vs) (by simpa using h)]
  | [], v :: vs, h => by simp at h
  | k :: ks, [], h => by simp at h
theorem kids_dct {kd : DKeys} {vs : List V} (h : kd.len = vs.length) : kidsV (kd.ho vs) = some vs := by
  cases kd with
  | k ks => simp only [DKeys.ho, kidsV]; rw [zip_snd h]
  | t ks => simp only [DKeys.ho, kidsV]; rw [zip_snd h]
theorem valP_dct {H : Hp} {a : Addr} {kd : DKeys} {vs : List V} {j : Nat} {p : List Nat} {v : V} (h : H a = some (kd.ho vs)) (hl : kd.len = vs.length) (hj : vs[j]? = some v) : valP H (.ref a) (j :: p) = valP H v p := by
  simp [valP, h, kids_dct hl, hj]
theorem valP_ins {H : Hp} {a C dx : Addr} {ns : List Str} {vs : List V} {j : Nat} {p : List Nat} {v : V} (h : H a = some (.ins C dx (ns.zip vs))) (hl : ns.length = vs.length) (hj : vs[j]? = some v) : valP H (.ref a) (j :: p) = valP H v p := by
  simp [valP, h, kidsV, zip_snd hl, hj]
theorem valP_app {H : Hp} : ∀ {p q : List Nat} {v u : V}, valP H v p = some u → valP H v (p ++ q) = valP H u q
  | [], q, v, u, h => by cases h; rfl
  | j :: p, q, v, u, h => by
    cases v with
    | ref a =>
      simp only [valP, List.cons_append] at h ⊢
      cases ha : H a with
      | none => rw [ha] at h; cases h
      | some o =>
        rw [ha] at h
        simp only at h ⊢
        cases hk : kidsV o with
        | none => rw [hk] at h; cases h
        | some vs =>
          rw [hk] at h
          simp only at h ⊢
          cases hj : vs[j]? with
          | none => rw [hj] at h; cases h
          | some w =>
            rw [hj] at h
            simp only at h ⊢
            exact valP_app h
    | _ => cases h
section
variable {K : PySem.W.Frag} {F F' H H' : Hp}
theorem Reps.kid : ∀ {vs : List V} {ds : List D} {A : List Addr} {j : Nat} {d : D}, Reps K F H vs ds A → ds[j]? = some d → ∃ v A1 Aj A2, vs[j]? = some v ∧ A = A1 ++ Aj ++ A2 ∧ Rep K F H v d Aj ∧
    ∀ {F' H' : Hp} {d' : D} {Aj' : List Addr}, Ex F F' → (∀ a xs, H a = some (.tup xs) → H' a = some (.tup xs)) → (∀ a ∈ A1 ++ A2, H' a = H a) → Rep K F' H' v d' Aj' → Reps K F' H' vs (ds.set j d') (A1 ++ Aj' ++ A2)
  | _, _, _, 0, d, .cons (A := A) (B := B) h r e, q => by
    simp at q; subst q
    exact ⟨_, [], A, B, rfl, by rw [e]; rfl, h, fun hF hT hA h' => .cons h' (r.mono hF hT fun a ha => hA a (by simpa using ha)) (by simp)⟩
  | _, _, _, j + 1, d, .cons (A := A) h r e, q => by
    obtain ⟨v, A1, Aj, A2, h1, h2, h3, h5⟩ := Reps.kid (j := j) (d := d) r (by simpa using q)
    refine ⟨v, A ++ A1, Aj, A2, by simpa using h1, by rw [e, h2]; simp [List.append_assoc], h3, fun hF hT hA h' => ?_⟩
    refine .cons (h.mono hF hT fun a ha => hA a (by simp [ha])) (h5 hF hT (fun a ha => hA a (by simp at ha ⊢; rcases ha with ha | ha <;> simp [ha])) h') (by simp [List.append_assoc])
/-- an item stored anew -/
theorem Reps.kidV : ∀ {vs : List V} {ds : List D} {A : List Addr} {j : Nat} {d : D}, Reps K F H vs ds A → ds[j]? = some d → ∃ v A1 Aj A2, vs[j]? = some v ∧ A = A1 ++ Aj ++ A2 ∧ Rep K F H v d Aj ∧
    ∀ {F' H' : Hp} {v' : V} {d' : D} {Aj' : List Addr}, Ex F F' → (∀ a xs, H a = some (.tup xs) → H' a = some (.tup xs)) → (∀ a ∈ A1 ++ A2, H' a = H a) → Rep K F' H' v' d' Aj' → Reps K F' H' (vs.set j v') (ds.set j d') (A1 ++ Aj' ++ A2)
  | _, _, _, 0, d, .cons (A := A) (B := B) h r e, q => by
    simp at q; subst q
    exact ⟨_, [], A, B, rfl, by rw [e]; rfl, h, fun hF hT hA h' => .cons h' (r.mono hF hT fun a ha => hA a (by simpa using ha)) (by simp)⟩
  | _, _, _, j + 1, d, .cons (A := A) h r e, q => by
    obtain ⟨v, A1, Aj, A2, h1, h2, h3, h5⟩ := Reps.kidV (j := j) (d := d) r (by simpa using q)
    refine ⟨v, A ++ A1, Aj, A2, by simpa using h1, by rw [e, h2]; simp [List.append_assoc], h3, fun hF hT hA h' => ?_⟩
    refine .cons (h.mono hF hT fun a ha => hA a (by simp [ha])) (h5 hF hT (fun a ha => hA a (by simp at ha ⊢; rcases ha with ha | ha <;> simp [ha])) h') (by simp [List.append_assoc])
theorem Rep.path : ∀ {p : List Nat} {v : V} {d e : D} {A : List Addr}, Rep K F H v d A → subP d p = some e → ∃ v' A1 Ae A2, valP H v p = some v' ∧ A = A1 ++ Ae ++ A2 ∧ Rep K F H v' e Ae ∧
    ∀ {F' H' : Hp} {e' : D} {Ae' : List Addr}, Ex F F' → (∀ a xs, H a = some (.tup xs) → H' a = some (.tup xs)) → (∀ a ∈ A1 ++ A2, H' a = H a) → Rep K F' H' v' e' Ae' → Rep K F' H' v (setP d p e') (A1 ++ Ae' ++ A2)
  | [], v, d, e, A, r, h => by
    have h : d = e := by cases d <;> simpa [subP] using h
    subst h
    refine ⟨v, [], A, [], rfl, by simp, r, fun {F' H' e' Ae'} hF hT hA h' => ?_⟩
    have : setP d [] e' = e' := by cases d <;> rfl
    rw [this]; simpa using h'
  | j :: p, v, d, e, A, r, h => by
    cases r with
    | tup hq rs =>
      rename_i a vs ds
      simp only [subP] at h
      cases hj : ds[j]? with
      | none => rw [hj] at h; cases h
      | some d1 =>
        rw [hj] at h
        obtain ⟨v1, A1, Aj, A2, e1, e2, r1, back⟩ := rs.kid hj
        obtain ⟨v2, B1, Be, B2, g1, g2, r2, back2⟩ := Rep.path (p := p) r1 h
        refine ⟨v2, A1 ++ B1, Be, B2 ++ A2, by rw [valP_tup hq e1]; exact g1, by rw [e2, g2]; simp [List.append_assoc], r2, fun {F' H' e' Ae'} hF hT hA h' => ?_⟩
        have r3 := back2 hF hT (fun a ha => hA a (by simp at ha ⊢; rcases ha with ha | ha <;> simp [ha])) h'
        have r4 := back hF hT (fun a ha => hA a (by simp at ha ⊢; rcases ha with ha | ha <;> simp [ha])) r3
        have es : setP (.tup ds) (j :: p) e' = .tup (ds.set j (setP d1 p e')) := by simp [setP, hj]
        rw [es, show A1 ++ B1 ++ Ae' ++ (B2 ++ A2) = A1 ++ (B1 ++ Ae' ++ B2) ++ A2 by simp [List.append_assoc]]
        exact .tup (hT _ _ hq) r4
    | own hq rs =>
      rename_i a vs ds A0
      simp only [subP] at h
      cases hj : ds[j]? with
      | none => rw [hj] at h; cases h
      | some d1 =>
        rw [hj] at h
        obtain ⟨v1, A1, Aj, A2, e1, e2, r1, back⟩ := rs.kid hj
        obtain ⟨v2, B1, Be, B2, g1, g2, r2, back2⟩ := Rep.path (p := p) r1 h
        refine ⟨v2, a :: (A1 ++ B1), Be, B2 ++ A2, by rw [valP_lst hq e1]; exact g1, by rw [e2, g2]; simp [List.append_assoc], r2, fun {F' H' e' Ae'} hF hT hA h' => ?_⟩
        have r3 := back2 hF hT (fun a ha => hA a (by simp at ha ⊢; rcases ha with ha | ha <;> simp [ha])) h'
        have r4 := back hF hT (fun a ha => hA a (by simp at ha ⊢; rcases ha with ha | ha <;> simp [ha])) r3
        have es : setP (.lst true ds) (j :: p) e' = .lst true (ds.set j (setP d1 p e')) := by simp [setP, hj]
        rw [es, show a :: (A1 ++ B1) ++ Ae' ++ (B2 ++ A2) = a :: (A1 ++ (B1 ++ Ae' ++ B2) ++ A2) by simp [List.append_assoc]]
        exact .own ((hA a (by simp)).trans hq) r4
    | dO hq hl rs =>
      rename_i a vs kd ds A0
      simp only [subP] at h
      cases hj : ds[j]? with
      | none => rw [hj] at h; cases h
      | some d1 =>
        rw [hj] at h
        obtain ⟨v1, A1, Aj, A2, e1, e2, r1, back⟩ := rs.kid hj
        obtain ⟨v2, B1, Be, B2, g1, g2, r2, back2⟩ := Rep.path (p := p) r1 h
        refine ⟨v2, a :: (A1 ++ B1), Be, B2 ++ A2, by rw [valP_dct hq hl e1]; exact g1, by rw [e2, g2]; simp [List.append_assoc], r2, fun {F' H' e' Ae'} hF hT hA h' => ?_⟩
        have r3 := back2 hF hT (fun a ha => hA a (by simp at ha ⊢; rcases ha with ha | ha <;> simp [ha])) h'
        have r4 := back hF hT (fun a ha => hA a (by simp at ha ⊢; rcases ha with ha | ha <;> simp [ha])) r3
        have es : setP (.dct true kd ds) (j :: p) e' = .dct true kd (ds.set j (setP d1 p e')) := by simp [setP, hj]
        rw [es, show a :: (A1 ++ B1) ++ Ae' ++ (B2 ++ A2) = a :: (A1 ++ (B1 ++ Ae' ++ B2) ++ A2) by simp [List.append_assoc]]
        exact .dO ((hA a (by simp)).trans hq) hl r4
    | pin hq rs =>
      rename_i a vs ds A0
      simp only [subP] at h
      cases hj : ds[j]? with
      | none => rw [hj] at h; cases h
      | some d1 =>
        rw [hj] at h
        obtain ⟨v1, A1, Aj, A2, e1, e2, r1, back⟩ := rs.kid hj
        obtain ⟨v2, B1, Be, B2, g1, g2, r2, back2⟩ := Rep.path (p := p) r1 h
        refine ⟨v2, a :: (A1 ++ B1), Be, B2 ++ A2, by rw [valP_lst hq e1]; exact g1, by rw [e2, g2]; simp [List.append_assoc], r2, fun {F' H' e' Ae'} hF hT hA h' => ?_⟩
        have r3 := back2 hF hT (fun a ha => hA a (by simp at ha ⊢; rcases ha with ha | ha <;> simp [ha])) h'
        have r4 := back hF hT (fun a ha => hA a (by simp at ha ⊢; rcases ha with ha | ha <;> simp [ha])) r3
        have es : setP (.pin a ds) (j :: p) e' = .pin a (ds.set j (setP d1 p e')) := by simp [setP, hj]
        rw [es, show a :: (A1 ++ B1) ++ Ae' ++ (B2 ++ A2) = a :: (A1 ++ (B1 ++ Ae' ++ B2) ++ A2) by simp [List.append_assoc]]
        exact .pin ((hA a (by simp)).trans hq) r4
    | oO hq hn hl rs =>
      rename_i a C dx c ns vs ds A0
      simp only [subP] at h
      cases hj : ds[j]? with
      | none => rw [hj] at h; cases h
      | some d1 =>
        rw [hj] at h
        obtain ⟨v1, A1, Aj, A2, e1, e2, r1, back⟩ := rs.kid hj
        obtain ⟨v2, B1, Be, B2, g1, g2, r2, back2⟩ := Rep.path (p := p) r1 h
        refine ⟨v2, a :: (A1 ++ B1), Be, B2 ++ A2, by rw [valP_ins hq hl e1]; exact g1, by rw [e2, g2]; simp [List.append_assoc], r2, fun {F' H' e' Ae'} hF hT hA h' => ?_⟩
        have r3 := back2 hF hT (fun a ha => hA a (by simp at ha ⊢; rcases ha with ha | ha <;> simp [ha])) h'
        have r4 := back hF hT (fun a ha => hA a (by simp at ha ⊢; rcases ha with ha | ha <;> simp [ha])) r3
        have es : setP (.obj .t c ns ds) (j :: p) e' = .obj .t c ns (ds.set j (setP d1 p e')) := by simp [setP, hj]
        rw [es, show a :: (A1 ++ B1) ++ Ae' ++ (B2 ++ A2) = a :: (A1 ++ (B1 ++ Ae' ++ B2) ++ A2) by simp [List.append_assoc]]
        exact .oO ((hA a (by simp)).trans hq) hn hl r4
    | oP hq hn hl rs =>
      rename_i a C dx c ns vs ds A0
      simp only [subP] at h
      cases hj : ds[j]? with
      | none => rw [hj] at h; cases h
      | some d1 =>
        rw [hj] at h
        obtain ⟨v1, A1, Aj, A2, e1, e2, r1, back⟩ := rs.kid hj
        obtain ⟨v2, B1, Be, B2, g1, g2, r2, back2⟩ := Rep.path (p := p) r1 h
        refine ⟨v2, a :: (A1 ++ B1), Be, B2 ++ A2, by rw [valP_ins hq hl e1]; exact g1, by rw [e2, g2]; simp [List.append_assoc], r2, fun {F' H' e' Ae'} hF hT hA h' => ?_⟩
        have r3 := back2 hF hT (fun a ha => hA a (by simp at ha ⊢; rcases ha with ha | ha <;> simp [ha])) h'
        have r4 := back hF hT (fun a ha => hA a (by simp at ha ⊢; rcases ha with ha | ha <;> simp [ha])) r3
        have es : setP (.obj (.p a) c ns ds) (j :: p) e' = .obj (.p a) c ns (ds.set j (setP d1 p e')) := by simp [setP, hj]
        rw [es, show a :: (A1 ++ B1) ++ Ae' ++ (B2 ++ A2) = a :: (A1 ++ (B1 ++ Ae' ++ B2) ++ A2) by simp [List.append_assoc]]
        exact .oP ((hA a (by simp)).trans hq) hn hl r4
    | _ => simp [subP] at h
end
def subE (env : Env) (i : Nat) (p : List Nat) : Option D := match env[i]? with
  | some (some d) => subP d p
  | _ => none
def setE (env : Env) (i : Nat) (p : List Nat) (e : D) : Env := match env[i]? with
  | some (some d) => env.set i (some (setP d p e))
  | _ => env
/-- the value of slot i at a path -/
def valE (σ : L2.St) (H : Hp) (i : Nat) (p : List Nat) : Option V := match σ[i]? with
  | some (some v) => valP H v p
  | _ => none
theorem valE_mono {σ : L2.St} {H H' : Hp} {i : Nat} {p : List Nat} {v : V} (e : Ex H H') (h : valE σ H i p = some v) : valE σ H' i p = some v := by
  unfold valE at h ⊢
  split at h
  · exact valP_mono e h
  · cases h
section
variable {K : PySem.W.Frag} {F0 H0 F F' H H' : Hp} {σ : L2.St} {env : Env} {pv : List V} {pd : List D}
theorem ho_upd {a : Addr} {o o' : HO} (hn : ∀ xs, o ≠ .tup xs) (h : H a = some o) : ∀ b xs, H b = some (.tup xs) → upd H a o' b = some (.tup xs) := fun b xs q => by
  have ne : b ≠ a := fun z => by
    subst z
    rw [h] at q; cases q; exact hn _ rfl
  rw [upd_ne ne]; exact q
theorem Sta.seen {i : Nat} {p : List Nat} {e : D} (S : Sta K F0 H0 F H σ env pv pd) (h : subE env i p = some e) : ∃ v A, valE σ H i p = some v ∧ Rep K F H v e A := by
  unfold subE at h
  split at h
  · rename_i d hd
    obtain ⟨v, A, e1, r⟩ := S.slot hd
    obtain ⟨v', A1, Ae, A2, g1, g2, r2, _⟩ := r.path h
    exact ⟨v', Ae, by unfold valE; rw [e1]; exact g1, r2⟩
  · cases h
/-- what is owned at a path, changed in place: its items anew, out of its own and the newest values -/
theorem Sta.mutP {i : Nat} {p : List Nat} {e : D} {ys : List V} {es : List D} (hye : ys.length = es.length) (S : Sta K F0 H0 F H σ env (ys ++ pv) (es ++ pd)) (h : subE env i p = some e)
    (he : (∃ ds, e = .lst true ds) ∨ (∃ kd ds, e = .dct true kd ds) ∨ (∃ b ds, e = .pin b ds) ∨ (∃ c ns ds, e = .obj .t c ns ds) ∨ ∃ b c ns ds, e = .obj (.p b) c ns ds) :
    ∃ a o A' B, valE σ H i p = some (.ref a) ∧ H a = some o ∧ (∀ xs, o ≠ .tup xs) ∧ Rep K F H (.ref a) e (a :: A') ∧ Reps K F H ys es B ∧ (a :: (A' ++ B)).Nodup ∧
      ∀ (o' : HO) (e' : D) (A'' : List Addr),
        (∀ H', (∀ b xs, H b = some (.tup xs) → H' b = some (.tup xs)) → (∀ b, b ≠ a → H' b = H b) → H' a = some o' → Rep K F H' (.ref a) e' (a :: A'')) → A''.Nodup → (∀ b ∈ A'', b ∈ A' ++ B) →
        Sta K F0 H0 F (upd H a o') σ (setE env i p e') pv pd := by
  unfold subE at h
  split at h
  rotate_left
  · cases h
  rename_i d hd
  obtain ⟨A0, B0, h1, h2, h3, h4⟩ := S.own
  obtain ⟨d1, d2, B, B1, e1, e2, r1, r2⟩ := h2.split
  obtain ⟨rfl, rfl⟩ := List.append_inj e1 (by rw [← r1.length]; exact hye.symm)
  subst e2
  obtain ⟨v, S1, Si, S2, g1, g2, r, s, back⟩ := h1.at hd
  subst g2
  obtain ⟨v', P1, Pe, P2, q1, q2, re, back2⟩ := r.path h
  subst q2
  have key : ∃ a o A', v' = .ref a ∧ Pe = a :: A' ∧ H a = some o ∧ (∀ xs, o ≠ .tup xs) := by
    rcases he with ⟨ds, rfl⟩ | ⟨kd, ds, rfl⟩ | ⟨b, ds, rfl⟩ | ⟨c, ns, ds, rfl⟩ | ⟨b, c, ns, ds, rfl⟩
    · cases re with
      | own hq rs => exact ⟨_, _, _, rfl, rfl, hq, fun xs z => by cases z⟩
    · cases re with
      | dO hq hl rs => exact ⟨_, _, _, rfl, rfl, hq, fun xs z => by cases kd <;> cases z⟩
    · cases re with
      | pin hq rs => exact ⟨_, _, _, rfl, rfl, hq, fun xs z => by cases z⟩
    · cases re with
      | oO hq hn hl rs => exact ⟨_, _, _, rfl, rfl, hq, fun xs z => by cases z⟩
    · cases re with
      | oP hq hn hl rs => exact ⟨_, _, _, rfl, rfl, hq, fun xs z => by cases z⟩
  obtain ⟨a, o, A', rfl, rfl, hq, hno⟩ := key
  -- all that is owned, the changed place ahead
  have hperm : (S1 ++ (P1 ++ a :: A' ++ P2) ++ S2 ++ (B ++ B1)).Perm ((a :: (A' ++ B)) ++ ((S1 ++ S2) ++ (P1 ++ P2) ++ B1)) := by
    have p1 : (S1 ++ (P1 ++ a :: A' ++ P2) ++ S2 ++ (B ++ B1)).Perm ((a :: A') ++ (S1 ++ P1 ++ P2 ++ S2 ++ (B ++ B1))) := by
      rw [show S1 ++ (P1 ++ a :: A' ++ P2) ++ S2 ++ (B ++ B1) = (S1 ++ P1) ++ ((a :: A') ++ (P2 ++ S2 ++ (B ++ B1))) by simp [List.append_assoc]]
      refine List.Perm.trans (List.perm_append_comm_assoc (S1 ++ P1) (a :: A') (P2 ++ S2 ++ (B ++ B1))) ?_
      rw [show S1 ++ P1 ++ P2 ++ S2 ++ (B ++ B1) = S1 ++ P1 ++ (P2 ++ S2 ++ (B ++ B1)) by simp [List.append_assoc]]
    refine p1.trans ?_
    rw [show (a :: (A' ++ B)) ++ ((S1 ++ S2) ++ (P1 ++ P2) ++ B1) = (a :: A') ++ (B ++ ((S1 ++ S2) ++ (P1 ++ P2) ++ B1)) by simp [List.append_assoc]]
    refine List.Perm.append_left _ ?_
    rw [show S1 ++ P1 ++ P2 ++ S2 ++ (B ++ B1) = (S1 ++ P1 ++ P2 ++ S2) ++ (B ++ B1) by simp [List.append_assoc]]
    refine List.Perm.trans (List.perm_append_comm_assoc _ _ _) ?_
    refine List.Perm.append_left _ (List.Perm.append_right _ ?_)
    rw [show S1 ++ P1 ++ P2 ++ S2 = S1 ++ ((P1 ++ P2) ++ S2) by simp [List.append_assoc], show S1 ++ S2 ++ (P1 ++ P2) = S1 ++ (S2 ++ (P1 ++ P2)) by simp [List.append_assoc]]
    exact List.Perm.append_left _ List.perm_append_comm
  have hnd := (hperm.nodup_iff).mp h3
  have hin : ∀ b, b ∈ (a :: (A' ++ B)) ++ ((S1 ++ S2) ++ (P1 ++ P2) ++ B1) → F b = none ∧ H0 b = none := fun b hb => h4 b (hperm.mem_iff.mpr hb)
  have nd2 := List.nodup_append.mp hnd
  have nd3 := List.nodup_cons.mp nd2.1
  have ha := hin a (by simp)
  refine ⟨a, o, A', B, by unfold valE; rw [g1]; exact q1, hq, hno, re, r1, nd2.1, fun o' e' A'' mk hn hsub => ?_⟩
  have hT := ho_upd (o' := o') hno hq
  have na : ∀ b ∈ S1 ++ S2 ++ (P1 ++ P2) ++ B1, b ≠ a := fun b hb z => nd2.2.2 a (by simp) b hb z.symm
  have rnew := mk (upd H a o') hT (fun b hb => upd_ne hb) upd_same
  have ex0 : ∀ {G : Hp}, G a = none → (∀ b o, G b = some o → H b = some o) → Ex G (upd H a o') := fun {G} hn hg b o q => by
    rw [upd_ne (ne_of_none q hn)]; exact hg b o q
  have rv := back2 (F' := F) (H' := upd H a o') (Same.refl _) hT (fun b hb => upd_ne (na b (by simp at hb ⊢; rcases hb with hb | hb <;> simp [hb]))) rnew
  have sl := back (F' := F) (H' := upd H a o') (Same.refl _) hT (fun b hb => upd_ne (na b (by simp at hb ⊢; rcases hb with hb | hb <;> simp [hb]))) rv
  have ev : (σ.set i (some v)) = σ := by
    obtain ⟨hi, hv⟩ := List.getElem?_eq_some_iff.mp g1
    rw [← hv]; exact List.set_getElem_self hi
  rw [ev] at sl
  have es : setE env i p e' = env.set i (some (setP d p e')) := by unfold setE; rw [hd]
  rw [es]
  have hperm2 : (S1 ++ (P1 ++ (a :: A'') ++ P2) ++ S2 ++ B1).Perm ((a :: A'') ++ ((S1 ++ S2) ++ (P1 ++ P2) ++ B1)) := by
    rw [show S1 ++ (P1 ++ (a :: A'') ++ P2) ++ S2 ++ B1 = (S1 ++ P1) ++ ((a :: A'') ++ (P2 ++ S2 ++ B1)) by simp [List.append_assoc]]
    refine List.Perm.trans (List.perm_append_comm_assoc (S1 ++ P1) (a :: A'') (P2 ++ S2 ++ B1)) ?_
    refine List.Perm.append_left _ ?_
    rw [show S1 ++ P1 ++ (P2 ++ S2 ++ B1) = S1 ++ ((P1 ++ P2) ++ S2) ++ B1 by simp [List.append_assoc], show S1 ++ S2 ++ (P1 ++ P2) ++ B1 = S1 ++ (S2 ++ (P1 ++ P2)) ++ B1 by simp [List.append_assoc]]
    exact List.Perm.append_right _ (List.Perm.append_left _ List.perm_append_comm)
  refine ⟨S.exF, ex0 ha.2 S.exH, ex0 ha.1 S.sub, S.new, _, B1, sl, r2.mono (Same.refl _) hT fun b hb => upd_ne (na b (by simp [hb])), ?_, fun b hb => ?_⟩
  · refine (hperm2.nodup_iff).mpr ?_
    refine List.nodup_append.mpr ⟨List.nodup_cons.mpr ⟨fun z => nd3.1 (hsub a z), hn⟩, nd2.2.1, fun x hx y hy z => ?_⟩
    rcases List.mem_cons.mp hx with hx | hx
    · exact nd2.2.2 a (by simp) y hy (by rw [← hx]; exact z)
    · exact nd2.2.2 x (List.mem_cons_of_mem _ (hsub x hx)) y hy z
  · have hb := hperm2.mem_iff.mp hb
    refine hin b ?_
    rcases List.mem_append.mp hb with hb | hb
    · rcases List.mem_cons.mp hb with hb | hb
      · simp [hb]
      · exact List.mem_append_left _ (List.mem_cons_of_mem _ (hsub b hb))
    · exact List.mem_append_right _ hb
end

/-! ### a place told by an expression -/
abbrev WP := PX → Env → (Nat → List Nat → Env → Prop) → Prop
def SimP (K : PySem.W.Frag) (E : EX) (w : WP) (t : TE) : Prop := ∀ (px : PX) (F0 H0 F H : Hp) (σ : L2.St) (env : Env) (pv : List V) (pd : List D), LinkX K F0 H0 px E pv pd → Sta K F0 H0 F H σ env pv pd →
  ∀ (Q' : Nat → List Nat → Env → Prop) (Q : VK), w px env Q' → (∀ i p env' v F' H', Q' i p env' → Ex F F' → Ex H H' → Sta K F0 H0 F' H' σ env' pv pd → valE σ H' i p = some v → Q v H') → t σ H Q
structure DP (X : Cx) (E : EX) (e : Expr) (w : WP) : Prop where
  ex : ∃ t, PE X e t ∧ SimP X.K E w t
def onP (o : Option D) (Q : D → Prop) : Prop := match o with
  | some d => Q d
  | none => False
theorem onP_some {d : D} {Q : D → Prop} : onP (some d) Q = Q d := rfl
theorem onP_of {o : Option D} {d : D} {Q : D → Prop} (e : o = some d) (h : Q d) : onP o Q := by rw [e]; exact h
theorem onP_is {o : Option D} {Q : D → Prop} (h : onP o Q) : ∃ d, o = some d ∧ Q d := by
  cases o with
  | some d => exact ⟨d, rfl, h⟩
  | none => exact h.elim
def onJ (o : Option Nat) (Q : Nat → Prop) : Prop := match o with
  | some d => Q d
  | none => False
theorem onJ_some {d : Nat} {Q : Nat → Prop} : onJ (some d) Q = Q d := rfl
theorem onJ_of {o : Option Nat} {d : Nat} {Q : Nat → Prop} (e : o = some d) (h : Q d) : onJ o Q := by rw [e]; exact h
theorem onJ_is {o : Option Nat} {Q : Nat → Prop} (h : onJ o Q) : ∃ d, o = some d ∧ Q d := by
  cases o with
  | some d => exact ⟨d, rfl, h⟩
  | none => exact h.elim
def kidI : D → D → Option Nat
  | .lst true ds, .int z => ixN ds.length z
  | .tup ds, .int z => ixN ds.length z
  | .pin _ ds, .int z => ixN ds.length z
  | _, _ => none
theorem kidI_pin {a : Addr} {ds : List D} {z : Int} : kidI (.pin a ds) (.int z) = ixN ds.length z := rfl
theorem kidI_lst {ds : List D} {z : Int} : kidI (.lst true ds) (.int z) = ixN ds.length z := rfl
theorem kidI_tup {ds : List D} {z : Int} : kidI (.tup ds) (.int z) = ixN ds.length z := rfl
def wpVar (i : Nat) : WP := fun _ env Q => onP (subE env i []) fun _ => Q i [] env
def wpIx (w : WP) (wk : WE) : WP := fun px env Q => w px env fun i p env1 => wk px env1 fun k _ env2 => onP (subE env2 i p) fun d => onJ (kidI d k) fun j => onP (subE env2 i (p ++ [j])) fun _ => Q i (p ++ [j]) env2
theorem simP_var {K : PySem.W.Frag} {E : EX} {i : Nat} : SimP K E (wpVar i) (tVar i) := by
  intro px F0 H0 F H σ env pv pd L S Q' Q w k
  obtain ⟨d, hd, q⟩ := onP_is w
  obtain ⟨v, A, e, r⟩ := S.seen hd
  unfold valE at e
  split at e
  · rename_i hv
    simp only [valP, Option.some.injEq] at e
    exact ⟨_, hv, k i [] env _ F H q (Same.refl _) (Same.refl _) S (by unfold valE; rw [hv]; rfl)⟩
  · cases e
theorem simP_ix {K : PySem.W.Frag} {E : EX} {w : WP} {wk : WE} {t tk : TE} (h : SimP K E w t) (hk : Sim K E wk tk) : SimP K E (wpIx w wk) (tOp (rIx K) t tk) := by
  intro px F0 H0 F H σ env pv pd L S Q' Q w1 k
  refine h px F0 H0 F H σ env pv pd L S _ _ w1 fun i p env1 x F1 H1 w2 eF eH S1 hx => ?_
  refine hk px F0 H0 F1 H1 σ env1 pv pd L S1 _ _ w2 fun kk bk env2 y F2 H2 w3 eF2 eH2 R2 => ?_
  obtain ⟨⟨B, ry⟩, S2⟩ := R2.forget
  obtain ⟨d, hd, w4⟩ := onP_is w3
  obtain ⟨j, hj, w5⟩ := onJ_is w4
  obtain ⟨c, hc, w6⟩ := onP_is w5
  have hx2 := valE_mono eH2 hx
  obtain ⟨x', A, e1, r⟩ := S2.seen hd
  rw [hx2] at e1
  cases e1
  obtain ⟨v', A', e3, r'⟩ := S2.seen hc
  have step : valE σ H2 i (p ++ [j]) = valP H2 x [j] := by
    unfold valE at hx2 ⊢
    split at hx2
    · exact valP_app hx2
    · cases hx2
  rw [step] at e3
  have fin := k i (p ++ [j]) env2 v' F2 H2 w6 (eF.trans eF2) (eH.trans eH2) S2 (step.trans e3)
  unfold kidI at hj
  split at hj
  · rename_i ds z
    rw [rep_int ry]
    obtain ⟨a, vs, C, rfl, hq, rs⟩ := rep_lst S2.sub r
    simp only [valP, hq, kidsV] at e3
    refine .inl ⟨a, vs, z, v', rfl, rfl, .inl (.inl hq), ?_, fin⟩
    unfold atI
    rw [rs.length, hj]
    cases hv : vs[j]? with
    | none => rw [hv] at e3; cases e3
    | some u => rw [hv] at e3; cases e3; exact hv
  · rename_i ds z
    rw [rep_int ry]
    cases r with
    | tup hq rs =>
      rename_i a vs
      simp only [valP, hq, kidsV] at e3
      refine .inr (.inl ⟨a, vs, z, v', rfl, rfl, SqT.of hq, ?_, fin⟩)
      unfold atI
      rw [rs.length, hj]
      cases hv : vs[j]? with
      | none => rw [hv] at e3; cases e3
      | some u => rw [hv] at e3; cases e3; exact hv
  · rename_i a ds z
    rw [rep_int ry]
    cases r with
    | pin hq rs =>
      rename_i vs A9
      simp only [valP, hq, kidsV] at e3
      refine .inl ⟨a, vs, z, v', rfl, rfl, .inl (.inl hq), ?_, fin⟩
      unfold atI
      rw [rs.length, hj]
      cases hv : vs[j]? with
      | none => rw [hv] at e3; cases e3
      | some u => rw [hv] at e3; cases e3; exact hv
  · cases hj
section
variable {X : Cx} {E : EX}
theorem p_var (i : Nat) {x : Str} {pos : Pos} (hN : X.N[i]? = some x := by rfl) (hv : Vis X.env.scope x := by first | exact Or.inl rfl | exact Or.inr (Or.inl rfl) | exact Or.inr (Or.inr rfl)) (hd : (x == ("__debug__" : Str)) = false := by decide)
    (hcd : (x == ("__classdict__" : Str)) = false := by decide) : DP X E (.Name x pos) (wpVar i) := ⟨_, pe_var hN hv hd hcd, simP_var⟩
theorem p_ix {a b : Expr} {w : WP} {wb : WE} {pos : Pos} (ha : DP X E a w) (hb : DE X E b wb) (hs : PlainIx b := by exact fun _ _ => rfl) : DP X E (.Subscript a b pos) (wpIx w wb) := by
  obtain ⟨ta, pa, sa⟩ := ha.ex
  obtain ⟨tb, pb, sb⟩ := hb.ex
  exact ⟨_, pe_ix ix_seq pa pb hs, simP_ix sa sb⟩
end
/-! ### changes of a list at a place -/
/-- an owned list, and how it is put together -/
def ownL (o : Option D) (Q : List D → (List D → D) → Prop) : Prop := match o with
  | some (.lst true ds) => Q ds (.lst true)
  | some (.pin a ds) => Q ds (.pin a)
  | _ => False
theorem ownL_some {ds : List D} {Q : List D → (List D → D) → Prop} : ownL (some (.lst true ds)) Q = Q ds (.lst true) := rfl
theorem ownL_pin {a : Addr} {ds : List D} {Q : List D → (List D → D) → Prop} : ownL (some (.pin a ds)) Q = Q ds (.pin a) := rfl
theorem ownL_of {o : Option D} {ds : List D} {Q : List D → (List D → D) → Prop} (e : o = some (.lst true ds)) (h : Q ds (.lst true)) : ownL o Q := by rw [e]; exact h
def IsOwn (e : D) (ds : List D) (mk : List D → D) : Prop := (e = .lst true ds ∧ mk = D.lst true) ∨ ∃ b, e = .pin b ds ∧ mk = D.pin b
theorem ownL_is {o : Option D} {Q : List D → (List D → D) → Prop} (h : ownL o Q) : ∃ e ds mk, o = some e ∧ IsOwn e ds mk ∧ Q ds mk := by
  unfold ownL at h
  split at h
  · exact ⟨_, _, _, rfl, .inl ⟨rfl, rfl⟩, h⟩
  · exact ⟨_, _, _, rfl, .inr ⟨_, rfl, rfl⟩, h⟩
  · exact h.elim
theorem IsOwn.mut {e : D} {ds : List D} {mk : List D → D} (h : IsOwn e ds mk) : (∃ ds, e = .lst true ds) ∨ (∃ kd ds, e = .dct true kd ds) ∨ (∃ b ds, e = .pin b ds) ∨ (∃ c ns ds, e = .obj .t c ns ds) ∨ ∃ b c ns ds, e = .obj (.p b) c ns ds := by
  rcases h with ⟨rfl, _⟩ | ⟨b, rfl, _⟩
  · exact .inl ⟨_, rfl⟩
  · exact .inr (.inr (.inl ⟨_, _, rfl⟩))
theorem IsOwn.rep {K : PySem.W.Frag} {F H : Hp} {a : Addr} {e : D} {ds : List D} {mk : List D → D} {A' : List Addr} (h : IsOwn e ds mk) (r : Rep K F H (.ref a) e (a :: A')) : ∃ vs, H a = some (.lst vs) ∧ Reps K F H vs ds A' ∧
    ∀ {F' H' : Hp} {vs' : List V} {ds' : List D} {A'' : List Addr}, H' a = some (.lst vs') → Reps K F' H' vs' ds' A'' → Rep K F' H' (.ref a) (mk ds') (a :: A'') := by
  rcases h with ⟨rfl, rfl⟩ | ⟨b, rfl, rfl⟩
  · cases r with
    | own hq rs => exact ⟨_, hq, rs, fun h1 h2 => .own h1 h2⟩
  · cases r with
    | pin hq rs => exact ⟨_, hq, rs, fun h1 h2 => .pin h1 h2⟩
theorem tyV_own {K : PySem.W.Frag} {F0 H0 F H : Hp} {σ : L2.St} {env : Env} {pv : List V} {pd : List D} {i : Nat} {p : List Nat} {v : V} {e : D} {ds : List D} {mk : List D → D} (S : Sta K F0 H0 F H σ env pv pd) (h : subE env i p = some e) (ho : IsOwn e ds mk) (hv : valE σ H i p = some v) :
    ∃ a vs, v = .ref a ∧ H a = some (.lst vs) := by
  obtain ⟨v', A, e1, r⟩ := S.seen h
  rw [hv] at e1; cases e1
  rcases ho with ⟨rfl, rfl⟩ | ⟨b, rfl, rfl⟩
  · obtain ⟨a, vs, _, rfl, h1, _⟩ := rep_lst S.sub r
    exact ⟨a, vs, rfl, h1⟩
  · cases r with
    | pin hq rs => exact ⟨_, _, rfl, hq⟩
/-- x.append(e) -/
def wAppP (wp : WP) (w : WE) : WS := fun P px env => wp px env fun i p env0 => ownL (subE env0 i p) fun _ _ => w px env0 fun d b env1 => (b = false ∨ dirty d = false) ∧ ownL (subE env1 i p) fun ds mk => ds.length ≤ 100000 ∧ P.nx (setE env1 i p (mk (ds ++ [d])))
theorem simS_appP {K : PySem.W.Frag} {E : EX} {wp : WP} {w : WE} {tp t : TE} (hp : SimP K E wp tp) (h : Sim K E w t) : SimS K E (wAppP wp w) (tDrop (tBM K "list" rAppend tp (tCons t tNil))) := by
  intro px F0 H0 F H σ env pv pd L S P D w0 k
  refine hp px F0 H0 F H σ env pv pd L S _ _ w0 fun i p env0 x F0' H0' w1 eF0 eH0 S0 hx => ?_
  obtain ⟨f0, ds0, mk0, e0, o0, w1⟩ := ownL_is w1
  obtain ⟨a0, vs0, rfl, ha⟩ := tyV_own S0 e0 o0 hx
  refine ⟨.inl ⟨rfl, vs0, .inl (.inl ha)⟩, ?_⟩
  refine h px F0 H0 F0' H0' σ env0 pv pd L S0 _ _ w1 fun d b env1 v F1 H1 w2 eF eH R => ?_
  obtain ⟨hb, w2⟩ := w2
  obtain ⟨f1, ds, mk1, e1, o1, hl, w3⟩ := ownL_is w2
  have S1 : Sta K F0 H0 F1 H1 σ env1 ([v] ++ pv) ([d] ++ pd) := R.owned hb
  obtain ⟨a, o, A', B, hv, hq, _, re, ry, nd, mk⟩ := S1.mutP (ys := [v]) (es := [d]) rfl e1 o1.mut
  rw [valE_mono eH hx] at hv
  cases hv
  obtain ⟨vs, hq2, rs, back9⟩ := o1.rep re
  rw [hq] at hq2; cases hq2
  focus
    have nd1 := List.nodup_cons.mp nd
    refine ⟨a0, vs, v, rfl, rfl, hq, by rw [rs.length]; exact lt_line hl, k.nx _ _ _ _ w3 (mk (.lst (vs ++ [v])) (mk1 (ds ++ [d])) (A' ++ B) (fun H' hT hN ha' => ?_) nd1.2 fun b hb => hb)⟩
    have r1 := rs.mono (Same.refl F1) hT fun b hb => hN b fun z => nd1.1 (by rw [← z]; exact List.mem_append_left _ hb)
    have r2 := ry.mono (Same.refl F1) hT fun b hb => hN b fun z => nd1.1 (by rw [← z]; exact List.mem_append_right _ hb)
    exact back9 ha' (r1.app r2)
/-- x.extend(e), clean new items -/
def wExtP (wp : WP) (w : WE) : WS := fun P px env => wp px env fun i p env0 => ownL (subE env0 i p) fun _ _ => w px env0 fun d _ env1 => ownL (subE env1 i p) fun ds mk => match d with
  | .lst _ es => dirtys es = false ∧ ds.length + es.length ≤ 100000 ∧ P.nx (setE env1 i p (mk (ds ++ es)))
  | _ => False
theorem simS_extP {K : PySem.W.Frag} {E : EX} {wp : WP} {w : WE} {tp t : TE} (hp : SimP K E wp tp) (h : Sim K E w t) : SimS K E (wExtP wp w) (tDrop (tBM K "list" rExtend tp (tCons t tNil))) := by
  intro px F0 H0 F H σ env pv pd L S P D w0 k
  refine hp px F0 H0 F H σ env pv pd L S _ _ w0 fun i p env0 x F0' H0' w1 eF0 eH0 S0 hx => ?_
  obtain ⟨f0, ds0, mk0, e0, o0, w1⟩ := ownL_is w1
  obtain ⟨a0, vs0, rfl, ha⟩ := tyV_own S0 e0 o0 hx
  refine ⟨.inl ⟨rfl, vs0, .inl (.inl ha)⟩, ?_⟩
  refine h px F0 H0 F0' H0' σ env0 pv pd L S0 _ _ w1 fun d b env1 v F1 H1 w2 eF eH R => ?_
  obtain ⟨⟨A, r⟩, S1⟩ := R.forget
  obtain ⟨f1, ds, mk1, e1, o1, w3⟩ := ownL_is w2
  split at w3
  · rename_i o9 es
    obtain ⟨w5, w6, w7⟩ := w3
    obtain ⟨c, ws, C, rfl, hb, rb⟩ := rep_lst S1.sub r
    have c2 := rb.clean w5
    subst c2
    obtain ⟨a, o, A', B, hv, hq, _, re, ry, nd, mk⟩ := S1.mutP (ys := []) (es := []) rfl e1 o1.mut
    rw [valE_mono eH hx] at hv
    cases hv
    cases ry
    obtain ⟨vs, hq2, rs, back9⟩ := o1.rep re
    rw [hq] at hq2; cases hq2
    focus
      rw [List.append_nil] at nd
      have nd1 := List.nodup_cons.mp nd
      refine ⟨a0, c, vs, ws, rfl, rfl, hq, hb, by rw [rs.length, rb.length]; exact le_line w6, k.nx _ _ _ _ w7 (mk (.lst (vs ++ ws)) (mk1 (ds ++ es)) A' (fun H' hT hN ha' => ?_) nd1.2 fun b hb => by simpa using hb)⟩
      have r1 := rs.mono (Same.refl F1) hT fun b hb => hN b fun z => nd1.1 (by rw [← z]; exact hb)
      have r2 := rb.mono (Same.refl F1) hT fun b hb => absurd hb List.not_mem_nil
      have := r1.app r2
      rw [List.append_nil] at this
      exact back9 ha' this
  · exact w3.elim
/-- x.clear() -/
def wClearP (wp : WP) : WS := fun P px env => wp px env fun i p env0 => ownL (subE env0 i p) fun _ mk => P.nx (setE env0 i p (mk []))
theorem simS_clearP {K : PySem.W.Frag} {E : EX} {wp : WP} {tp : TE} (hp : SimP K E wp tp) : SimS K E (wClearP wp) (tDrop (tBM0 K "list" rClear tp)) := by
  intro px F0 H0 F H σ env pv pd L S P D w0 k
  refine hp px F0 H0 F H σ env pv pd L S _ _ w0 fun i p env0 x F1 H1 w1 eF0 eH0 S1 hx => ?_
  obtain ⟨f1, ds, mk1, e1, o1, w3⟩ := ownL_is w1
  obtain ⟨a, o, A', B, hv, hq, _, re, ry, nd, mk⟩ := S1.mutP (ys := []) (es := []) rfl e1 o1.mut
  rw [hx] at hv
  cases hv
  obtain ⟨vs, hq2, rs, back9⟩ := o1.rep re
  rw [hq] at hq2; cases hq2
  focus
    refine ⟨.inl ⟨rfl, vs, .inl (.inl hq)⟩, a, vs, rfl, rfl, hq, k.nx _ _ _ _ w3 (mk (.lst []) (mk1 []) [] (fun H' hT hN ha' => back9 ha' .nil) List.nodup_nil fun b hb => absurd hb List.not_mem_nil)⟩
/-- x.insert(k, e), a clean item -/
theorem Reps.parts {K : PySem.W.Frag} {F H : Hp} {vs : List V} {ds : List D} {A : List Addr} (r : Reps K F H vs ds A) (n : Nat) : ∃ A1 A2, A = A1 ++ A2 ∧ Reps K F H (vs.take n) (ds.take n) A1 ∧ Reps K F H (vs.drop n) (ds.drop n) A2 := by
  rw [← List.take_append_drop n vs] at r
  obtain ⟨d1, d2, A1, A2, e1, e2, r1, r2⟩ := r.split
  have hl := r1.length
  have : d1 = ds.take n ∧ d2 = ds.drop n := by
    have hlen : d1.length = (ds.take n).length := by
      rw [← hl, List.length_take, List.length_take]
      have h1 := r1.length
      have h2 := r2.length
      rw [List.length_drop] at h2
      rw [List.length_take] at h1
      have : ds.length = d1.length + d2.length := by rw [e1, List.length_append]
      omega
    exact List.append_inj (by rw [← e1, List.take_append_drop]) hlen
  obtain ⟨rfl, rfl⟩ := this
  exact ⟨A1, A2, e2, r1, r2⟩
def wInsP (wp : WP) (wk w : WE) : WS := fun P px env => wp px env fun i p env0 => ownL (subE env0 i p) fun _ _ => wk px env0 fun k _ env1 => w px env1 fun d _ env2 => ownL (subE env2 i p) fun ds mk => match k with
  | .int z => 0 ≤ z ∧ z < 2 ^ 63 ∧ dirty d = false ∧ ds.length ≤ 100000 ∧ P.nx (setE env2 i p (mk (ds.take z.toNat ++ [d] ++ ds.drop z.toNat)))
  | _ => False
theorem simS_insP {K : PySem.W.Frag} {E : EX} {wp : WP} {w wk : WE} {tp t tk : TE} (hp : SimP K E wp tp) (h : Sim K E w t) (hk : Sim K E wk tk) : SimS K E (wInsP wp wk w) (tDrop (tBM K "list" rInsert tp (tCons tk (tCons t tNil)))) := by
  intro px F0 H0 F H σ env pv pd L S P D w0 k
  refine hp px F0 H0 F H σ env pv pd L S _ _ w0 fun i p env0 x F0' H0' w1 eF0 eH0 S0 hx => ?_
  obtain ⟨f0, ds0, mk0, e0, o0, w1⟩ := ownL_is w1
  obtain ⟨a0, vs0, rfl, ha⟩ := tyV_own S0 e0 o0 hx
  refine ⟨.inl ⟨rfl, vs0, .inl (.inl ha)⟩, ?_⟩
  refine hk px F0 H0 F0' H0' σ env0 pv pd L S0 _ _ w1 fun kk bk env1 kv F1 H1 w2 eF eH R => ?_
  obtain ⟨⟨A1, rk⟩, S1⟩ := R.forget
  refine h px F0 H0 F1 H1 σ env1 pv pd L S1 _ _ w2 fun d b env2 v F2 H2 w3 eF2 eH2 R2 => ?_
  obtain ⟨⟨A2, r⟩, S2⟩ := R2.forget
  obtain ⟨f1, ds, mk1, e1, o1, w3⟩ := ownL_is w3
  cases kk with
  | int z =>
    obtain ⟨z0, z1, w4, w6, w7⟩ := w3
    have c2 := r.clean w4
    subst c2
    obtain ⟨a, o, A', B, hv, hq, _, re, ry, nd, mk⟩ := S2.mutP (ys := []) (es := []) rfl e1 o1.mut
    rw [valE_mono eH2 (valE_mono eH hx)] at hv
    cases hv
    cases ry
    rw [rep_int rk]
    obtain ⟨vs, hq2, rs, back9⟩ := o1.rep re
    rw [hq] at hq2; cases hq2
    focus
      rw [List.append_nil] at nd
      have nd1 := List.nodup_cons.mp nd
      refine ⟨a0, vs, z, v, rfl, rfl, hq, by rw [rs.length]; exact lt_line w6, z0, z1, k.nx _ _ _ _ w7 (mk (.lst (vs.take z.toNat ++ [v] ++ vs.drop z.toNat)) _ A' (fun H' hT hN ha' => ?_) nd1.2 fun b hb => by simpa using hb)⟩
      have r1 := rs.mono (Same.refl F2) hT fun b hb => hN b fun z => nd1.1 (by rw [← z]; exact hb)
      have r2 := r.mono (Same.refl F2) hT fun b hb => absurd hb List.not_mem_nil
      obtain ⟨B1, B2, eB, t1, t2⟩ := r1.parts z.toNat
      have := (t1.app (.cons r2 .nil rfl)).app t2
      rw [List.append_nil, List.append_nil, ← eB] at this
      exact back9 ha' this
  | _ => exact w3.elim
/-- x[k] = e -/
def wSetP (wp : WP) (w wk : WE) : WS := fun P px env => w px env fun d b env1 => (b = false ∨ dirty d = false) ∧ wp px env1 fun i p env2 => ownL (subE env2 i p) fun _ _ => wk px env2 fun k _ env3 => ownL (subE env3 i p) fun ds mk => match k with
  | .int z => onJ (ixN ds.length z) fun j => P.nx (setE env3 i p (mk (ds.set j d)))
  | _ => False
theorem simS_setP {K : PySem.W.Frag} {E : EX} {wp : WP} {w wk : WE} {tp t tk : TE} (h : Sim K E w t) (hp : SimP K E wp tp) (hk : Sim K E wk tk) : SimS K E (wSetP wp w wk) (tAsg t (L2.gSub tp tk rSetL)) := by
  intro px F0 H0 F H σ env pv pd L S P D w1 k
  refine h px F0 H0 F H σ env pv pd L S _ _ w1 fun d b env1 v F1 H1 w2 eF eH R => ?_
  obtain ⟨hb, w2⟩ := w2
  have S1 := R.owned hb
  have LL : LinkX K F0 H0 px E ([v] ++ pv) ([d] ++ pd) := L.push (qv := [v]) (qd := [d]) rfl
  refine hp px F0 H0 F1 H1 σ env1 ([v] ++ pv) ([d] ++ pd) LL S1 _ _ w2 fun i p env2 x F2 H2 w3 eF2 eH2 S2 hx => ?_
  obtain ⟨f0, ds0, mk0, e0, o0, w3⟩ := ownL_is w3
  obtain ⟨a0, vs0, rfl, ha⟩ := tyV_own S2 e0 o0 hx
  refine hk px F0 H0 F2 H2 σ env2 _ _ LL S2 _ _ w3 fun kk bk env3 kv F3 H3 w4 eF3 eH3 R3 => ?_
  obtain ⟨⟨A3, rk⟩, S3⟩ := R3.forget
  obtain ⟨f1, ds, mk1, e1, o1, w4⟩ := ownL_is w4
  cases kk with
  | int z =>
    obtain ⟨j, ej, w5⟩ := onJ_is w4
    obtain ⟨a, o, A', B, hv, hq, _, re, ry, nd, mk⟩ := S3.mutP (ys := [v]) (es := [d]) rfl e1 o1.mut
    rw [valE_mono eH3 hx] at hv
    cases hv
    rw [rep_int rk]
    obtain ⟨vs, hq2, rs, back9⟩ := o1.rep re
    rw [hq] at hq2; cases hq2
    focus
      have nd1 := List.nodup_cons.mp nd
      have hj : j < ds.length := by
        unfold ixN at ej
        split at ej
        · split at ej
          · cases ej; omega
          · cases ej
        · split at ej
          · cases ej; omega
          · cases ej
      obtain ⟨u, A1, Aj, A2, u1, u2, u3, back⟩ := rs.kidV (List.getElem?_eq_getElem hj)
      subst u2
      cases ry with
      | cons rv r0 eB =>
        cases r0
        rename_i C
        rw [List.append_nil] at eB
        subst eB
        have nd2 := List.nodup_append.mp nd1.2
        have nd3 := List.nodup_append.mp nd2.1
        have nd4 := List.nodup_append.mp nd3.1
        refine ⟨a0, vs, z, j, rfl, rfl, hq, by rw [rs.length]; exact ej, k.nx _ _ _ _ w5 (mk (.lst (vs.set j v)) (mk1 (ds.set j d)) (A1 ++ B ++ A2) (fun H' hT hN ha' => ?_) ?_ fun b hb => by simp at hb ⊢; rcases hb with hb | hb | hb <;> simp [hb])⟩
        · have r2 := rv.mono (Same.refl F3) hT fun b hb => hN b fun z => nd1.1 (by rw [← z]; exact List.mem_append_right _ hb)
          exact back9 ha' (back (Same.refl F3) hT (fun b hb => hN b fun z => nd1.1 (by rw [← z]; simp at hb ⊢; rcases hb with hb | hb <;> simp [hb])) r2)
        · refine List.nodup_append.mpr ⟨List.nodup_append.mpr ⟨nd4.1, nd2.2.1, fun x hx y hy => nd2.2.2 x (by simp [hx]) y hy⟩, nd3.2.1, fun x hx y hy => ?_⟩
          rcases List.mem_append.mp hx with hx | hx
          · exact nd3.2.2 x (by simp [hx]) y hy
          · exact fun z => nd2.2.2 y (by simp [hy]) x hx z.symm
  | _ => exact w4.elim

section
variable {X : Cx} {E : EX} {r e k : Expr} {wp : WP} {w wk : WE} {pos apos cpos npos : Pos}
theorem s_appP (hr : DP X E r wp) (h : DE X E e w)
    (hbase : attributeBase r "append" X.env (eval r X.env) = eval r X.env := by rfl)
    (hfew : ((backTo cpos (starEach [e] X.env)).all (fun x => !x.1) && (backToKw cpos (keywordEach [] X.env)).all (fun x => x.1.isSome) && decide ([e].length + ([] : List Keyword).length + (if ([] : List Keyword).isEmpty then 0 else 1) < 30)) = true := by rfl)
    (hline : (apos.endLine == cpos.line) = true := by rfl) (hs : starEach [e] X.env = (false, eval e X.env) :: starEach [] X.env := by rfl) (hplain : (backTo cpos (starEach [] X.env)).any (·.1) = false := by rfl) (hsw : swapsWith (.Call (.Attribute r "append" apos) [e] [] cpos) none pos.line X.env = pure false := by rfl) :
    DS X E (.Expr (.Call (.Attribute r "append" apos) [e] [] cpos) pos) (wAppP wp w) := by
  obtain ⟨tr, pr, sr⟩ := hr.ex
  obtain ⟨t, p, s⟩ := h.ex
  exact ⟨_, ps_expr (pe_bm PySem.F.plainAttrs_list PySem.F.slot_list_append PySem.F.type_list_append mt_append pr (pa_cons p pa_nil hs) hbase hfew hline hs hplain) hsw, simS_appP sr s⟩
theorem s_extP (hr : DP X E r wp) (h : DE X E e w)
    (hbase : attributeBase r "extend" X.env (eval r X.env) = eval r X.env := by rfl)
    (hfew : ((backTo cpos (starEach [e] X.env)).all (fun x => !x.1) && (backToKw cpos (keywordEach [] X.env)).all (fun x => x.1.isSome) && decide ([e].length + ([] : List Keyword).length + (if ([] : List Keyword).isEmpty then 0 else 1) < 30)) = true := by rfl)
    (hline : (apos.endLine == cpos.line) = true := by rfl) (hs : starEach [e] X.env = (false, eval e X.env) :: starEach [] X.env := by rfl) (hplain : (backTo cpos (starEach [] X.env)).any (·.1) = false := by rfl) (hsw : swapsWith (.Call (.Attribute r "extend" apos) [e] [] cpos) none pos.line X.env = pure false := by rfl) :
    DS X E (.Expr (.Call (.Attribute r "extend" apos) [e] [] cpos) pos) (wExtP wp w) := by
  obtain ⟨tr, pr, sr⟩ := hr.ex
  obtain ⟨t, p, s⟩ := h.ex
  exact ⟨_, ps_expr (pe_bm PySem.F.plainAttrs_list PySem.F.slot_list_extend PySem.F.type_list_extend mt_extend pr (pa_cons p pa_nil hs) hbase hfew hline hs hplain) hsw, simS_extP sr s⟩
theorem s_insP (hr : DP X E r wp) (hk : DE X E k wk) (h : DE X E e w)
    (hbase : attributeBase r "insert" X.env (eval r X.env) = eval r X.env := by rfl)
    (hfew : ((backTo cpos (starEach [k, e] X.env)).all (fun x => !x.1) && (backToKw cpos (keywordEach [] X.env)).all (fun x => x.1.isSome) && decide ([k, e].length + ([] : List Keyword).length + (if ([] : List Keyword).isEmpty then 0 else 1) < 30)) = true := by rfl)
    (hline : (apos.endLine == cpos.line) = true := by rfl) (hs : starEach [k, e] X.env = (false, eval k X.env) :: starEach [e] X.env := by rfl) (hs2 : starEach [e] X.env = (false, eval e X.env) :: starEach [] X.env := by rfl) (hplain : (backTo cpos (starEach [e] X.env)).any (·.1) = false := by rfl) (hsw : swapsWith (.Call (.Attribute r "insert" apos) [k, e] [] cpos) none pos.line X.env = pure false := by rfl) :
    DS X E (.Expr (.Call (.Attribute r "insert" apos) [k, e] [] cpos) pos) (wInsP wp wk w) := by
  obtain ⟨tr, pr, sr⟩ := hr.ex
  obtain ⟨t, p, s⟩ := h.ex
  obtain ⟨tk, pk, sk⟩ := hk.ex
  exact ⟨_, ps_expr (pe_bm PySem.F.plainAttrs_list PySem.F.slot_list_insert PySem.F.type_list_insert (r := rInsert) mt_insert pr (pa_cons pk (pa_cons p pa_nil hs2) hs) hbase hfew hline hs hplain) hsw, simS_insP sr s sk⟩
theorem s_clearP (hr : DP X E r wp)
    (hbase : attributeBase r "clear" X.env (eval r X.env) = eval r X.env := by rfl) (hline : (apos.endLine == cpos.line) = true := by rfl) (hsw : swapsWith (.Call (.Attribute r "clear" apos) [] [] cpos) none pos.line X.env = pure false := by rfl) :
    DS X E (.Expr (.Call (.Attribute r "clear" apos) [] [] cpos) pos) (wClearP wp) := by
  obtain ⟨tr, pr, sr⟩ := hr.ex
  exact ⟨_, ps_expr (pe_bm0 PySem.F.plainAttrs_list PySem.F.slot_list_clear PySem.F.type_list_clear mt_clear pr hbase hline) hsw, simS_clearP sr⟩
theorem s_setP {spos : Pos} (hr : DP X E r wp) (hk : DE X E k wk) (h : DE X E e w)
    (ha : ∀ v, assign (.Subscript r k spos) X.env v = (do
      let ov ← holding [v] (eval r X.env)
      let iv ← holding [v, ov] (eval k X.env)
      standAt spos
      holding [v, ov, iv] (setItem ov iv v)
      release [v, ov, iv] []) := by intro _; rfl)
    (hs : swapsWithSole [.Subscript r k spos] e pos.line X.env = pure false := by rfl) (hw : swappedStores [.Subscript r k spos] e X.env = pure none := by rfl)
    (h1 : (assignEach [.Subscript r k spos] X.env).map (·.2) = [assign (.Subscript r k spos) X.env] := by rfl) :
    DS X E (.Assign [.Subscript r k spos] e pos) (wSetP wp w wk) := by
  obtain ⟨tr, pr, sr⟩ := hr.ex
  obtain ⟨t, p, s⟩ := h.ex
  obtain ⟨tk, pk, sk⟩ := hk.ex
  exact ⟨_, ps_asg p (pg_sub pr pk set_list ha) hs hw h1, simS_setP s sr sk⟩
end

/-! ### list(range(..)) -/
def wLRg (wa wb : WE) : WE := fun px env Q => wa px env fun a _ env1 => wb px env1 fun b _ env2 => match a, b with
  | .int i, .int j => (-1000000 ≤ i ∧ i ≤ j ∧ j ≤ 1000000 ∧ j - i ≤ 100000) ∧ Q (.lst true (rngD i (j - i).toNat)) false env2
  | _, _ => False
end Tm

set_option Elab.async false
set_option linter.all false
set_option maxRecDepth 100000
set_option maxHeartbeats 1000000
/-! list(range), index, texts' methods, dict of pairs, two names at once -/
namespace Tm
open PySem PySem.Spec PyProof.Rows L2

/-! ### list(range(..)) -/
def rgK (a b : D) (Q : D → Prop) : Prop := match a, b with
  | .int i, .int j => (-1000000 ≤ i ∧ i ≤ 1000000 ∧ -1000000 ≤ j ∧ j ≤ 1000000 ∧ j - i ≤ 100000) ∧ Q (.lst true (rngD i (j - i).toNat))
  | _, _ => False
theorem rgK_int {i j : Int} {Q : D → Prop} : rgK (.int i) (.int j) Q = ((-1000000 ≤ i ∧ i ≤ 1000000 ∧ -1000000 ≤ j ∧ j ≤ 1000000 ∧ j - i ≤ 100000) ∧ Q (.lst true (rngD i (j - i).toNat))) := rfl
def wLR1 (wb : WE) : WE := fun px env Q => wb px env fun b _ env1 => rgK (.int 0) b fun d => Q d false env1
def wLR2 (wa wb : WE) : WE := fun px env Q => wa px env fun a _ env1 => wb px env1 fun b _ env2 => rgK a b fun d => Q d false env2
theorem rg_push {K : PySem.W.Frag} {F0 H0 F H : Hp} {σ : L2.St} {env : Env} {pv : List V} {pd : List D} {i j : Int} (S : Sta K F0 H0 F H σ env pv pd) {q : Addr} (hq : H q = none) :
    Sta K F0 H0 F (upd H q (.lst (rgV i j))) σ env (.ref q :: pv) (.lst true (rngD i (j - i).toNat) :: pd) := by
  have e1 : rgV i j = ((List.range (j - i).toNat).map fun k : Nat => i + (k : Int)).map V.int := by unfold rgV; rw [List.map_map]; rfl
  have e2 : rngD i (j - i).toNat = ((List.range (j - i).toNat).map fun k : Nat => i + (k : Int)).map D.int := by unfold rngD; rw [List.map_map]; rfl
  rw [e1, e2]
  exact S.push (A := [q]) (Ex.new hq) (.own upd_same (Reps.of_ints _)) (by simp) fun a ha => by simp at ha; subst ha; exact hq
theorem sim_lr1 {K : PySem.W.Frag} {E : EX} {wb : WE} {tb : TE} (hb : Sim K E wb tb) : Sim K E (wLR1 wb) (tLstRg (tRg1 tb)) := by
  intro px F0 H0 F H σ env pv pd L S Q' Q w k
  refine hb px F0 H0 F H σ env pv pd L S _ _ w fun b bb env1 y F1 H1 w1 eF eH R => ?_
  obtain ⟨⟨B, ry⟩, S1⟩ := R.forget
  cases b with
  | int j =>
    obtain ⟨⟨h1, h2, h3, h4, h5⟩, w2⟩ := w1
    rw [rep_int ry]
    refine ⟨j, rfl, ⟨by omega, by omega, by omega, by omega, by omega⟩, fun q hq => ?_⟩
    exact k _ false env1 (.ref q) F1 _ w2 eF (eH.trans (Ex.new hq)) (rg_push S1 hq)
  | _ => exact w1.elim
theorem sim_lr2 {K : PySem.W.Frag} {E : EX} {wa wb : WE} {ta tb : TE} (ha : Sim K E wa ta) (hb : Sim K E wb tb) : Sim K E (wLR2 wa wb) (tLstRg (tRg2 ta tb)) := by
  intro px F0 H0 F H σ env pv pd L S Q' Q w k
  refine ha px F0 H0 F H σ env pv pd L S _ _ w fun a ba env1 x F1 H1 w1 eF eH R => ?_
  obtain ⟨⟨A, rx⟩, S1⟩ := R.forget
  refine hb px F0 H0 F1 H1 σ env1 pv pd L S1 _ _ w1 fun b bb env2 y F2 H2 w2 eF2 eH2 R2 => ?_
  obtain ⟨⟨B, ry⟩, S2⟩ := R2.forget
  cases a with
  | int i =>
    cases b with
    | int j =>
      obtain ⟨⟨h1, h2, h3, h4, h5⟩, w3⟩ := w2
      rw [rep_int rx, rep_int ry]
      refine ⟨i, j, rfl, rfl, ⟨by omega, by omega, by omega, by omega, by omega⟩, fun q hq => ?_⟩
      exact k _ false env2 (.ref q) F2 _ w3 (eF.trans eF2) ((eH.trans eH2).trans (Ex.new hq)) (rg_push S2 hq)
    | _ => exact w2.elim
  | _ => exact w2.elim
section
variable {X : Cx} {E : EX} {a b : Expr} {wa wb : WE} {p pos rp rpos : Pos}
theorem d_lr1 (hc : X.calm = true) (hg : Gl X "list") (hm : X.mg "list" = none) (hg2 : Gl X "range") (hm2 : X.mg "range" = none) (hb : DE X E b wb) (na : starEach [b] X.env = (false, eval b X.env) :: starEach [] X.env := by rfl)
    (nb : starEach [.Call (.Name "range" rp) [b] [] rpos] X.env = (false, eval (.Call (.Name "range" rp) [b] [] rpos) X.env) :: starEach [] X.env := by rfl) : DE X E (.Call (.Name "list" p) [.Call (.Name "range" rp) [b] [] rpos] [] pos) (wLR1 wb) := by
  obtain ⟨t, pb, s⟩ := hb.ex
  exact ⟨_, pe_listRg hc hg hm (prg_1 hg2 hm2 pb na) nb, sim_lr1 s⟩
theorem d_lr2 (hc : X.calm = true) (hg : Gl X "list") (hm : X.mg "list" = none) (hg2 : Gl X "range") (hm2 : X.mg "range" = none) (ha : DE X E a wa) (hb : DE X E b wb) (na : starEach [a, b] X.env = (false, eval a X.env) :: starEach [b] X.env := by rfl) (na2 : starEach [b] X.env = (false, eval b X.env) :: starEach [] X.env := by rfl) (np : (backTo rpos (starEach [b] X.env)).any (·.1) = false := by rfl)
    (nb : starEach [.Call (.Name "range" rp) [a, b] [] rpos] X.env = (false, eval (.Call (.Name "range" rp) [a, b] [] rpos) X.env) :: starEach [] X.env := by rfl) : DE X E (.Call (.Name "list" p) [.Call (.Name "range" rp) [a, b] [] rpos] [] pos) (wLR2 wa wb) := by
  obtain ⟨t, pa, s⟩ := ha.ex
  obtain ⟨t2, pb, s2⟩ := hb.ex
  exact ⟨_, pe_listRg hc hg hm (prg_2 hg2 hm2 pa pb na na2 np) nb, sim_lr2 s s2⟩
end

/-! ### xs.index(y) -/
def gIndex : G2 := fun a b Q => isLs a = true ∧ shD a = true ∧ shD b = true ∧ ∃ (j : Nat) (z : D), (lsOf a)[j]? = some z ∧ eqD z b = true ∧ (∀ (m : Nat) (z' : D), m < j → (lsOf a)[m]? = some z' → eqD z' b = false) ∧ Q (.int j)
def wMI (wa wb : WE) : WE := fun px env Q => wa px env fun a _ env1 => isLs a = true ∧ wb px env1 fun b _ env2 => gIndex a b fun d => Q d false env2
theorem pys_get : ∀ {ds : List D} {j : Nat}, (pys ds)[j]? = (ds[j]?).map py
  | [], j => by simp [pys]
  | d :: ds, 0 => by simp [pys]
  | d :: ds, j + 1 => by simpa [pys] using pys_get (ds := ds) (j := j)
theorem sim_mi {K : PySem.W.Frag} {E : EX} {wa wb : WE} {ta tb : TE} (ha : Sim K E wa ta) (hb : Sim K E wb tb) : Sim K E (wMI wa wb) (tBM K "list" (rIndexD K) ta (tCons tb tNil)) := by
  intro px F0 H0 F H σ env pv pd L S Q' Q w k
  refine ha px F0 H0 F H σ env pv pd L S _ _ w fun a ba env1 x F1 H1 w1 eF eH R => ?_
  obtain ⟨⟨A, rx⟩, S1⟩ := R.forget
  obtain ⟨hl, w1⟩ := w1
  obtain ⟨p, vs, C, rfl, hq, rs⟩ := rep_ls S1.sub rx hl
  refine ⟨.inl ⟨rfl, vs, hq⟩, ?_⟩
  refine hb px F0 H0 F1 H1 σ env1 pv pd L S1 _ _ w1 fun b bb env2 y F2 H2 w2 eF2 eH2 R2 => ?_
  obtain ⟨⟨B, ry⟩, S2⟩ := R2.forget
  obtain ⟨_, h1, h2, j, z, hj, hz, hno, w3⟩ := w2
  have e := py_ls hl
  unfold shD at h1 h2
  rw [Bool.and_eq_true] at h1 h2
  have d1 := (rx.ex eF2 eH2).dp S2.sub h1.1
  rw [e] at d1
  refine ⟨p, y, py b, pys (lsOf a), j, py z, rfl, rfl, d1, ry.dp S2.sub h2.1, by rw [← e]; exact h1.2, h2.2, ?_, hz, fun m z' hm hz' => ?_, k _ false env2 _ F2 H2 w3 (eF.trans eF2) (eH.trans eH2) (S2.clean (.int _))⟩
  · rw [pys_get, hj]; rfl
  · rw [pys_get] at hz'
    cases e2 : (lsOf a)[m]? with
    | none => rw [e2] at hz'; cases hz'
    | some d => rw [e2] at hz'; cases hz'; exact hno m d hm e2
theorem d_index {X : Cx} {E : EX} {o e : Expr} {wo we : WE} {apos cpos : Pos} (hu : X.A.units + 65 < cLine) (ho : DE X E o wo) (he : DE X E e we)
    (hbase : attributeBase o "index" X.env (eval o X.env) = eval o X.env := by rfl)
    (hfew : ((backTo cpos (starEach [e] X.env)).all (fun x => !x.1) && (backToKw cpos (keywordEach [] X.env)).all (fun x => x.1.isSome) && decide ([e].length + ([] : List Keyword).length + (if ([] : List Keyword).isEmpty then 0 else 1) < 30)) = true := by rfl)
    (hline : (apos.endLine == cpos.line) = true := by rfl) (hs : starEach [e] X.env = (false, eval e X.env) :: starEach [] X.env := by rfl) (hplain : (backTo cpos (starEach [] X.env)).any (·.1) = false := by rfl) :
    DE X E (.Call (.Attribute o "index" apos) [e] [] cpos) (wMI wo we) := by
  obtain ⟨to, po, so⟩ := ho.ex
  obtain ⟨te, pe, se⟩ := he.ex
  exact ⟨_, pe_bm PySem.F.plainAttrs_list PySem.F.slot_list_index PySem.F.type_list_index (mt_indexD hu) po (pa_cons pe pa_nil hs) hbase hfew hline hs hplain, sim_mi so se⟩

/-! ### texts -/
def gStripC : G2
  | .str a, .str b, Q => a.length ≤ 100000 ∧ Q (.str (Txt.stripChars a b))
  | _, _, _ => False
def gLstripC : G2
  | .str a, .str b, Q => a.length ≤ 100000 ∧ Q (.str (Txt.lstripChars a b))
  | _, _, _ => False
def gPart : G2
  | .str a, .str b, Q => (b.length == 0) = false ∧ a.length ≤ 100000 ∧ Q (.tup [.str (Txt.partition a b).1, .str (Txt.partition a b).2.1, .str (Txt.partition a b).2.2])
  | _, _, _ => False
def gFind : G2
  | .str a, .str b, Q => Q (.int (Txt.find a b))
  | _, _, _ => False
def gRjust : G2
  | .str a, .int i, Q => PadOk i = true ∧ Q (.str (Txt.rjust a i))
  | _, _, _ => False
section
variable {a b : Str} {i : Int} {Q : D → Prop}
theorem gStripC_str : gStripC (.str a) (.str b) Q = (a.length ≤ 100000 ∧ Q (.str (Txt.stripChars a b))) := rfl
theorem gLstripC_str : gLstripC (.str a) (.str b) Q = (a.length ≤ 100000 ∧ Q (.str (Txt.lstripChars a b))) := rfl
theorem gPart_str : gPart (.str a) (.str b) Q = ((b.length == 0) = false ∧ a.length ≤ 100000 ∧ Q (.tup [.str (Txt.partition a b).1, .str (Txt.partition a b).2.1, .str (Txt.partition a b).2.2])) := rfl
theorem gFind_str : gFind (.str a) (.str b) Q = Q (.int (Txt.find a b)) := rfl
theorem gRjust_str : gRjust (.str a) (.int i) Q = (PadOk i = true ∧ Q (.str (Txt.rjust a i))) := rfl
end
section
variable {K : PySem.W.Frag}
theorem m1d_strip : M1D K gStripC (fun x xs H Q => ∃ a b, x = .str a ∧ xs = [.str b] ∧ a.length ≤ sizeLine ∧ Q (.str (Txt.stripChars a b)) H) := by
  intro F H x y dx dy A B Q' Q hs rx ry w k
  unfold gStripC at w
  split at w
  · rw [rep_str rx, rep_str ry]
    exact ⟨_, _, rfl, rfl, le_line w.1, k.same w.2 (.str _)⟩
  · exact w.elim
theorem m1d_lstrip : M1D K gLstripC (fun x xs H Q => ∃ a b, x = .str a ∧ xs = [.str b] ∧ a.length ≤ sizeLine ∧ Q (.str (Txt.lstripChars a b)) H) := by
  intro F H x y dx dy A B Q' Q hs rx ry w k
  unfold gLstripC at w
  split at w
  · rw [rep_str rx, rep_str ry]
    exact ⟨_, _, rfl, rfl, le_line w.1, k.same w.2 (.str _)⟩
  · exact w.elim
theorem m1d_find : M1D K gFind (fun x xs H Q => ∃ a b, x = .str a ∧ xs = [.str b] ∧ Q (.int (Txt.find a b)) H) := by
  intro F H x y dx dy A B Q' Q hs rx ry w k
  unfold gFind at w
  split at w
  · rw [rep_str rx, rep_str ry]
    exact ⟨_, _, rfl, rfl, k.same w (.int _)⟩
  · exact w.elim
theorem m1d_part : M1D K gPart (fun x xs H Q => ∃ a b, x = .str a ∧ xs = [.str b] ∧ (b.length == 0) = false ∧ a.length ≤ sizeLine ∧
    ∀ p, H p = none → Q (.ref p) (upd H p (.tup [.str (Txt.partition a b).1, .str (Txt.partition a b).2.1, .str (Txt.partition a b).2.2]))) := by
  intro F H x y dx dy A B Q' Q hs rx ry w k
  unfold gPart at w
  split at w
  · rw [rep_str rx, rep_str ry]
    refine ⟨_, _, rfl, rfl, w.1, le_line w.2.1, fun p hp => ?_⟩
    exact k.tup w.2.2 (.cons (.str _) (.cons (.str _) (.cons (.str _) .nil rfl) rfl) rfl) p hp
  · exact w.elim
end
section
variable {X : Cx} {E : EX} {o e : Expr} {wo we : WE} {apos pos : Pos}
theorem d_strip (ho : DE X E o wo) (he : DE X E e we) (hs : starEach [e] X.env = [(false, eval e X.env)] := by rfl) (hbase : attributeBase o "strip" X.env (eval o X.env) = eval o X.env := by rfl) (hline : (apos.endLine == pos.line) = true := by rfl) :
    DE X E (.Call (.Attribute o "strip" apos) [e] [] pos) (wM1 gStripC wo we) := by
  obtain ⟨to, po, so⟩ := ho.ex
  obtain ⟨te, pe, se⟩ := he.ex
  exact ⟨_, pe_m1 PySem.F.slot_str_strip PySem.F.type_str_strip mt_stripChars po pe hs hbase hline, sim_m1 m1d_strip so se⟩
theorem d_lstrip (ho : DE X E o wo) (he : DE X E e we) (hs : starEach [e] X.env = [(false, eval e X.env)] := by rfl) (hbase : attributeBase o "lstrip" X.env (eval o X.env) = eval o X.env := by rfl) (hline : (apos.endLine == pos.line) = true := by rfl) :
    DE X E (.Call (.Attribute o "lstrip" apos) [e] [] pos) (wM1 gLstripC wo we) := by
  obtain ⟨to, po, so⟩ := ho.ex
  obtain ⟨te, pe, se⟩ := he.ex
  exact ⟨_, pe_m1 PySem.F.slot_str_lstrip PySem.F.type_str_lstrip mt_lstripChars po pe hs hbase hline, sim_m1 m1d_lstrip so se⟩
theorem d_find (ho : DE X E o wo) (he : DE X E e we) (hs : starEach [e] X.env = [(false, eval e X.env)] := by rfl) (hbase : attributeBase o "find" X.env (eval o X.env) = eval o X.env := by rfl) (hline : (apos.endLine == pos.line) = true := by rfl) :
    DE X E (.Call (.Attribute o "find" apos) [e] [] pos) (wM1 gFind wo we) := by
  obtain ⟨to, po, so⟩ := ho.ex
  obtain ⟨te, pe, se⟩ := he.ex
  exact ⟨_, pe_m1 PySem.F.slot_str_find PySem.F.type_str_find mt_find po pe hs hbase hline, sim_m1 m1d_find so se⟩
theorem d_part (ho : DE X E o wo) (he : DE X E e we) (hs : starEach [e] X.env = [(false, eval e X.env)] := by rfl) (hbase : attributeBase o "partition" X.env (eval o X.env) = eval o X.env := by rfl) (hline : (apos.endLine == pos.line) = true := by rfl) :
    DE X E (.Call (.Attribute o "partition" apos) [e] [] pos) (wM1 gPart wo we) := by
  obtain ⟨to, po, so⟩ := ho.ex
  obtain ⟨te, pe, se⟩ := he.ex
  exact ⟨_, pe_m1 PySem.F.slot_str_partition PySem.F.type_str_partition mt_partition po pe hs hbase hline, sim_m1 m1d_part so se⟩
end

/-! ### a, b = x, y -/
def wPar (i j : Nat) (w : WA) : WS := fun P px env => w px env fun ds env1 => match ds with
  | [d, e] => P.nx ((env1.set i (some d)).set j (some e))
  | _ => False
theorem simS_par {K : PySem.W.Frag} {E : EX} {i j : Nat} {w : WA} {t : TA} (h : SimD K E w t) : SimS K E (wPar i j w) (tPar i j t) := by
  intro px F0 H0 F H σ env pv pd L S P D w1 k
  refine h px F0 H0 F H σ env pv pd L S _ _ w1 fun ds env1 vs F1 H1 w2 eF eH hl S1 => ?_
  split at w2
  · rename_i d e
    match vs, hl with
    | [v, u], _ => exact ⟨v, u, rfl, k.nx _ _ _ _ w2 (Sta.store (Sta.store S1))⟩
  · exact w2.elim
theorem s_par {X : Cx} {E : EX} {i j : Nat} {x y : Str} {a b : Expr} {w : WA} {px py pt pt2 pos : Pos} {kt k2} (hc : X.calm = true) (hN : X.N.Nodup) (hi : X.N[i]? = some x) (hj : X.N[j]? = some y) (hij : i ≠ j)
    (hx : X.env.scope.names.lookup x = some .local) (hy : X.env.scope.names.lookup y = some .local) (ha : DD X E [a, b] w)
    (hw : swappedStores [.Tuple [.Name x px, .Name y py] kt pt] (.Tuple [a, b] k2 pt2) X.env = pure (some [x, y]) := by rfl)
    (hs : swapsWithSole [.Tuple [.Name x px, .Name y py] kt pt] (.Tuple [a, b] k2 pt2) pos.line X.env = pure false := by rfl) :
    DS X E (.Assign [.Tuple [.Name x px, .Name y py] kt pt] (.Tuple [a, b] k2 pt2) pos) (wPar i j w) := by
  obtain ⟨t, p, s⟩ := ha.ex
  exact ⟨_, ps_par hc hN hi hj hij hx hy p hw hs, simS_par s⟩

/-! ### dict of a list of pairs -/
def kvD (p : L2.Key × D) : D := .tup [match p.1 with | .inl i => .int i | .inr x => .str x, p.2]
def mergeD (ps : List (L2.Key × D)) : List L2.Key × List D := ps.foldl (fun acc p => (putKs acc.1 p.1, putDs acc.1 acc.2 p.1 p.2)) ([], [])
def gDictP : GC
  | [d], Q => ∃ ps : List (L2.Key × D), asL d = some (ps.map kvD) ∧ dirtys (ps.map (·.2)) = false ∧ Q (.dct true (.k (mergeD ps).1) (mergeD ps).2)
  | _, _ => False
theorem merge_go {K : PySem.W.Frag} {F H : Hp} : ∀ (ps : List (L2.Key × D)) (us : List V) (ks : List L2.Key) (vs : List V) (ds : List D), Reps K F H us (ps.map (·.2)) [] → ks.length = vs.length → Reps K F H vs ds [] →
    ∃ vs', mergeK (ks.zip vs) ((ps.map (·.1)).zip us) = (ps.foldl (fun acc p => (putKs acc.1 p.1, putDs acc.1 acc.2 p.1 p.2)) (ks, ds)).1.zip vs' ∧ (ps.foldl (fun acc p => (putKs acc.1 p.1, putDs acc.1 acc.2 p.1 p.2)) (ks, ds)).1.length = vs'.length ∧
      Reps K F H vs' (ps.foldl (fun acc p => (putKs acc.1 p.1, putDs acc.1 acc.2 p.1 p.2)) (ks, ds)).2 []
  | [], us, ks, vs, ds, _, hl, r => ⟨vs, by simp [mergeK], hl, r⟩
  | p :: ps, us, ks, vs, ds, ru, hl, r => by
    cases ru with
    | cons h1 h2 e =>
      rename_i v us A B
      have eA : A = [] := by cases A with | nil => rfl | cons _ _ => simp at e
      have eB : B = [] := by subst eA; simpa using e.symm
      subst eA eB
      obtain ⟨vs1, g1, g2, g3⟩ := reps_put (k := p.1) HO.dK hl r h1
      obtain ⟨vs', k1, k2, k3⟩ := merge_go ps us (putKs ks p.1) vs1 (putDs ks ds p.1 p.2) h2 g2 g3
      refine ⟨vs', ?_, k2, k3⟩
      rw [List.map_cons, List.zip_cons_cons]
      unfold mergeK at k1 ⊢
      rw [List.foldl_cons, g1]
      exact k1
theorem reps_kvs {K : PySem.W.Frag} {F H : Hp} : ∀ {ps : List (L2.Key × D)} {vs : List V} {A : List Addr}, Reps K F H vs (ps.map kvD) A → dirtys (ps.map (·.2)) = false →
    ∃ (as : List Addr) (us : List V), vs = as.map V.ref ∧ Reps K F H us (ps.map (·.2)) [] ∧ Paired (fun p kv => SqT K H p [kV kv.1, kv.2]) as ((ps.map (·.1)).zip us)
  | [], _, _, .nil, _ => ⟨[], [], rfl, .nil, .nil⟩
  | p :: ps, _, _, .cons h r e, hd => by
    simp only [List.map_cons, dirtys, Bool.or_eq_false_iff] at hd
    obtain ⟨as, us, e1, r1, p1⟩ := reps_kvs r hd.2
    subst e1
    unfold kvD at h
    cases h with
    | tup hq rs =>
      rename_i a vs2
      cases rs with
      | cons ka rs2 e2 =>
        rename_i kv vs3 A1 A2
        cases rs2 with
        | cons va rs3 e3 =>
          cases rs3
          have cl := va.clean hd.1
          subst cl
          have ek : kv = kV p.1 := by
            cases hk : p.1 with
            | inl i => rw [hk] at ka; exact rep_int ka
            | inr x => rw [hk] at ka; exact rep_str ka
          subst ek
          exact ⟨a :: as, _ :: us, rfl, .cons va r1 rfl, .cons (SqT.of hq) p1⟩
theorem cd_dictP {K : PySem.W.Frag} : CallD K gDictP (fun xs H Q => ∃ (a : Addr) (ps : List Addr) (kvs : List (Key × V)), xs = [.ref a] ∧ SqL K H a (ps.map V.ref) ∧ Paired (fun p kv => SqT K H p [kV kv.1, kv.2]) ps kvs ∧
    ∀ p, H p = none → Q (.ref p) (upd H p (.dK (mergeK [] kvs)))) := by
  intro F H xs ds A Q' Q hs r w k
  unfold gDictP at w
  split at w
  · obtain ⟨ps, e, hd, w⟩ := w
    obtain ⟨v, rfl, r1⟩ := reps1 r
    obtain ⟨a, vs, B, rfl, h1, r2⟩ := rep_asL1 hs r1 e
    obtain ⟨as, us, rfl, r3, pr⟩ := reps_kvs r2 hd
    refine ⟨a, as, _, rfl, h1, pr, fun p hp => ?_⟩
    obtain ⟨vs', g1, g2, g3⟩ := merge_go ps us [] [] [] r3 rfl .nil
    rw [show mergeK [] ((ps.map (·.1)).zip us) = mergeK (([] : List L2.Key).zip ([] : List V)) ((ps.map (·.1)).zip us) from rfl, g1]
    exact k (.dct true (.k (mergeD ps).1) (mergeD ps).2) (.ref p) _ [p] w (Ex.new hp) (.dO upd_same g2 (g3.ex (Same.refl _) (Ex.new hp))) (by simp) fun a ha => by simp at ha; subst ha; exact hp
  · exact w.elim
end Tm

set_option Elab.async false
set_option linter.all false
set_option maxRecDepth 100000
set_option maxHeartbeats 1000000
/-! defs that change the list that is handed in first -/
namespace Tm
open PySem PySem.Spec PyProof.Rows L2
/-- the list ahead, the other arguments, the list behind -/
abbrev SpecM := List D → List D → (List D → Prop) → Prop
def spM (K : PySem.W.Frag) (spec : SpecM) : Sp := fun vs H Q E => ∃ (a : Addr) (ws : List V) (F : Hp) (xs ds : List D) (A : List Addr) (Qd : List D → Prop), vs = .ref a :: ws ∧ Ex F H ∧ Rep K F H (.ref a) (.pin a xs) (a :: A) ∧ (a :: A).Nodup ∧ (∀ b ∈ a :: A, F b = none) ∧
  Reps K F H ws ds [] ∧ spec xs ds Qd ∧ ∀ xs' F' H' A', Qd xs' → Ex F F' → (∀ b o, b ∉ a :: A → H b = some o → H' b = some o) → Ex F' H' → (∀ b, F' b ≠ none → F b ≠ none ∨ H b = none ∨ b ∈ a :: A) → Rep K F' H' (.ref a) (.pin a xs') (a :: A') → (a :: A').Nodup →
    (∀ b ∈ a :: A', F' b = none ∧ (H b = none ∨ b ∈ a :: A)) → Q .non H'
def PEnds.topM (a : Addr) (Q : List D → Prop) : PEnds := { nx := fun env => ∃ xs, env[0]? = some (some (.pin a xs)) ∧ Q xs, rt := fun _ => False }
theorem topM_nx {a : Addr} {Q : List D → Prop} {env : Env} : (PEnds.topM a Q).nx env = ∃ xs, env[0]? = some (some (.pin a xs)) ∧ Q xs := rfl
def startM (n : Nat) (a : Addr) (xs ds : List D) : Env := some (.pin a xs) :: (ds.map some ++ List.replicate (n - (ds.length + 1)) none)
/-- what is not owned by the list -/
def away (H : Hp) (A : List Addr) : Hp := fun b => if b ∈ A then none else H b
theorem away_ex {H : Hp} {A : List Addr} : Ex (away H A) H := fun b o q => by
  unfold away at q
  split at q
  · cases q
  · exact q
theorem away_none {H : Hp} {A : List Addr} {b : Addr} : away H A b = none ↔ b ∈ A ∨ H b = none := by
  unfold away
  split
  · simp [*]
  · simp [*]
theorem bodyM_ok {K : PySem.W.Frag} {E : XK} {E' : EX} {spec : SpecM} {w : WS} {t : TS} {N : List Str} {vs : List V} {H : Hp} {Q : VK} (hs : SimS K E' w t) (h : spM K spec vs H Q E)
    (pure : ∀ a xs ds Qd, spec xs ds Qd → w (PEnds.topM a Qd) px0 (startM N.length a xs ds)) : t { nx := fun _ H' => Q .non H', rt := Q } (L2.start N vs) H := by
  obtain ⟨a, ws, F, xs, ds, A, Qd, rfl, hF, r, hn, hA, rs, sp, back⟩ := h
  have sl : Slots K F H (L2.start N (.ref a :: ws)) (startM N.length a xs ds) (a :: A) := by
    unfold L2.start startM
    rw [List.map_cons, List.cons_append, List.length_cons, rs.length]
    exact .cons r (slots_start rs) (by simp)
  have S : Sta K F (away H (a :: A)) F H (L2.start N (.ref a :: ws)) (startM N.length a xs ds) [] [] :=
    ⟨Same.refl _, away_ex, hF, fun b q => .inl q, a :: A, [], sl, .nil, by simpa using hn, fun b hb => by
      rw [List.append_nil] at hb
      exact ⟨hA b hb, away_none.mpr (.inl hb)⟩⟩
  refine hs px0 F _ F H _ _ [] [] link0 S _ _ (pure a xs ds Qd sp) ⟨fun σ' env' F' H' q S' => ?_, fun d v F' H' σ' env' pv' pd' q _ => q.elim, fun _ _ _ _ q _ => q, fun _ _ _ _ q _ => q⟩
  obtain ⟨xs', e, q⟩ := q
  obtain ⟨A0, B, h1, h2, h3, h4⟩ := S'.own
  obtain ⟨v, A1, Ai, A2, e2, e3, r', _, _⟩ := h1.at e
  subst e3
  cases r' with
  | pin hq rs' =>
    rename_i vs' A'
    refine back xs' F' H' A' q S'.exF (fun b o hb hbo => S'.exH b o ?_) S'.sub (fun b z => ?_) (.pin hq rs') ?_ fun b hb => ?_
    · unfold away; rw [if_neg hb]; exact hbo
    · rcases S'.new b z with y | y
      · exact .inl y
      · rcases away_none.mp y with y | y
        · exact .inr (.inr y)
        · exact .inr (.inl y)
    · refine List.Nodup.sublist ?_ h3
      rw [show A1 ++ a :: A' ++ A2 ++ B = A1 ++ (a :: A') ++ (A2 ++ B) by simp]
      exact (List.sublist_append_right A1 (a :: A')).trans (List.sublist_append_left _ _)
    · have := h4 b (by simp at hb ⊢; rcases hb with hb | hb <;> simp [hb])
      refine ⟨this.1, ?_⟩
      rcases away_none.mp this.2 with y | y
      · exact .inr y
      · exact .inl y
theorem spM_len {K : PySem.W.Frag} {spec : SpecM} {n : Nat} (h : ∀ xs ds Q, spec xs ds Q → ds.length + 1 = n) : ∀ vs H Q E, spM K spec vs H Q E → vs.length = n := by
  rintro vs H Q E ⟨a, ws, F, xs, ds, A, Qd, rfl, _, _, _, _, rs, sp, _⟩
  rw [List.length_cons, rs.length]; exact h _ _ _ sp
theorem okM {P : Program} {w : World} {K : PySem.W.Frag} {mg : Str → Option Value} {base : Heap} {x qual : Str} {st : Stmt} {f : Addr} {fd : FuncData} {N ps : List Str} {k : Nat} {spec : SpecM} (F : Fun K x qual st f fd) (S : FnScope N ps (defScope st)) (len : ∀ xs ds Q, spec xs ds Q → ds.length + 1 = ps.length) {ws : WS}
    (body : ∀ (cdv : Value) (A : Around) (outer : List PySem.Env) (s : Shared) (H : Hp) (E : XK), Room k (A.deeper (envOfC qual (defScope st) s.heap.objs.size f cdv)) → DSs (cxOf CX0 P w K mg base N qual (defScope st) f cdv A outer s H E).nox (fun _ => E) (defBody st) ws)
    (pure : ∀ a xs ds Q, spec xs ds Q → ws (PEnds.topM a Q) px0 (startM N.length a xs ds)) : FnOk P w K mg base CX0 (k + 1) f fd ps (spM K spec) := by
  refine F.ok S (spM_len len) fun cdv A outer s H vs Q E hr h => ?_
  obtain ⟨t, p, sim⟩ := (body cdv A outer s H E hr).ex
  exact ⟨t, p, bodyM_ok sim h pure⟩
mutual
theorem Rep.noTup {K : PySem.W.Frag} {F H : Hp} : ∀ {v : V} {d : D} {A : List Addr}, Rep K F H v d A → ∀ a ∈ A, ∀ xs, H a ≠ some (.tup xs)
  | _, _, _, .non, a, ha => absurd ha List.not_mem_nil
  | _, _, _, .bl b, a, ha => absurd ha List.not_mem_nil
  | _, _, _, .int i, a, ha => absurd ha List.not_mem_nil
  | _, _, _, .str x, a, ha => absurd ha List.not_mem_nil
  | _, _, _, .ref b, a, ha => absurd ha List.not_mem_nil
  | _, _, _, .ty n, a, ha => absurd ha List.not_mem_nil
  | _, _, _, .tup _ r, a, ha => Reps.noTup r a ha
  | _, _, _, .fz _ _, a, ha => absurd ha List.not_mem_nil
  | _, _, _, .own h r, a, ha => (List.mem_cons.mp ha).elim (fun e xs z => by rw [e, h] at z; cases z) (fun ha => Reps.noTup r a ha)
  | _, _, _, .seq _ _, a, ha => absurd ha List.not_mem_nil
  | _, _, _, .dF _ _ _, a, ha => absurd ha List.not_mem_nil
  | _, _, _, .dO (kd := kd) h _ r, a, ha => (List.mem_cons.mp ha).elim (fun e xs z => by rw [e, h] at z; cases kd <;> cases z) (fun ha => Reps.noTup r a ha)
  | _, _, _, .pin h r, a, ha => (List.mem_cons.mp ha).elim (fun e xs z => by rw [e, h] at z; cases z) (fun ha => Reps.noTup r a ha)
  | _, _, _, .oF _ _ _ _, a, ha => absurd ha List.not_mem_nil
  | _, _, _, .oO h _ _ r, a, ha => (List.mem_cons.mp ha).elim (fun e xs z => by rw [e, h] at z; cases z) (fun ha => Reps.noTup r a ha)
  | _, _, _, .oP h _ _ r, a, ha => (List.mem_cons.mp ha).elim (fun e xs z => by rw [e, h] at z; cases z) (fun ha => Reps.noTup r a ha)
theorem Reps.noTup {K : PySem.W.Frag} {F H : Hp} : ∀ {vs : List V} {ds : List D} {A : List Addr}, Reps K F H vs ds A → ∀ a ∈ A, ∀ xs, H a ≠ some (.tup xs)
  | _, _, _, .nil, a, ha => absurd ha List.not_mem_nil
  | _, _, _, .cons h r e, a, ha => (List.mem_append.mp (by rw [← e]; exact ha)).elim (fun ha => Rep.noTup h a ha) (fun ha => Reps.noTup r a ha)
end
theorem ho_inj {kd : DKeys} {vs us : List V} (h1 : kd.len = vs.length) (h2 : kd.len = us.length) (e : kd.ho vs = kd.ho us) : vs = us := by
  have a := kids_dct h1
  have b := kids_dct h2
  rw [e, b] at a
  exact (Option.some.inj a).symm
theorem zip_inj {ns : List Str} {vs us : List V} (h1 : ns.length = vs.length) (h2 : ns.length = us.length) (e : ns.zip vs = ns.zip us) : vs = us := by
  rw [← zip_snd h1, ← zip_snd h2, e]
mutual
theorem Rep.uniq {K : PySem.W.Frag} {F H : Hp} : ∀ {v : V} {d : D} {A : List Addr}, Rep K F H v d A → ∀ {B : List Addr}, Rep K F H v d B → A = B
  | _, _, _, .non, _, s => by cases s; rfl
  | _, _, _, .bl b, _, s => by cases s; rfl
  | _, _, _, .int i, _, s => by cases s; rfl
  | _, _, _, .str x, _, s => by cases s; rfl
  | _, _, _, .ref b, _, s => by cases s; rfl
  | _, _, _, .ty n, _, s => by cases s; rfl
  | _, _, _, .tup h r, _, s => by
    cases s with
    | tup h' r' => rw [h] at h'; cases h'; exact Reps.uniq r r'
  | _, _, _, .fz _ _, _, s => by cases s; rfl
  | _, _, _, .own h r, _, s => by
    cases s with
    | own h' r' => rw [h] at h'; cases h'; rw [Reps.uniq r r']
  | _, _, _, .seq _ _, _, s => by cases s; rfl
  | _, _, _, .dF _ _ _, _, s => by cases s; rfl
  | _, _, _, .dO h e r, _, s => by
    cases s with
    | dO h' e' r' => rw [h] at h'; cases ho_inj e e' (Option.some.inj h'); rw [Reps.uniq r r']
  | _, _, _, .pin h r, _, s => by
    cases s with
    | pin h' r' => rw [h] at h'; cases h'; rw [Reps.uniq r r']
  | _, _, _, .oF _ _ _ _, _, s => by cases s; rfl
  | _, _, _, .oO h _ e r, _, s => by
    cases s with
    | oO h' _ e' r' => rw [h] at h'; injection h' with h'; injection h' with _ _ h'; cases zip_inj e e' h'; rw [Reps.uniq r r']
  | _, _, _, .oP h _ e r, _, s => by
    cases s with
    | oP h' _ e' r' => rw [h] at h'; injection h' with h'; injection h' with _ _ h'; cases zip_inj e e' h'; rw [Reps.uniq r r']
theorem Reps.uniq {K : PySem.W.Frag} {F H : Hp} : ∀ {vs : List V} {ds : List D} {A : List Addr}, Reps K F H vs ds A → ∀ {B : List Addr}, Reps K F H vs ds B → A = B
  | _, _, _, .nil, _, s => by cases s; rfl
  | _, _, _, .cons h r e, _, s => by
    cases s with
    | cons h' r' e' => rw [e, e', Rep.uniq h h', Reps.uniq r r']
end
/-- what an owner's part is put in the place of another one by a call -/
theorem Sta.swapIn {K : PySem.W.Frag} {F0 H0 F H F' H' : Hp} {σ : L2.St} {env : Env} {pv : List V} {pd : List D} {i : Nat} {e e' : D} {a : Addr} {A' A'' : List Addr} (S : Sta K F0 H0 F H σ env pv pd) (hi : env[i]? = some (some e))
    (hr : ∀ {v : V} {A : List Addr}, Rep K F H v e A → σ[i]? = some (some v) → v = .ref a ∧ A = a :: A')
    (eF : Ex F F') (keep : ∀ b o, b ∉ a :: A' → H b = some o → H' b = some o) (sub : Ex F' H') (new : ∀ b, F' b ≠ none → F b ≠ none ∨ H b = none ∨ b ∈ a :: A') (r : Rep K F' H' (.ref a) e' (a :: A'')) (nd : (a :: A'').Nodup)
    (hA : ∀ b ∈ a :: A'', F' b = none ∧ (H b = none ∨ b ∈ a :: A')) : Sta K F0 H0 F' H' σ (env.set i (some e')) pv pd := by
  obtain ⟨A0, B, h1, h2, h3, h4⟩ := S.own
  obtain ⟨v, A1, Ai, A2, e2, e3, r0, _, back⟩ := h1.at hi
  obtain ⟨rfl, rfl⟩ := hr r0 e2
  subst e3
  have hsplit : ∀ b, b ∈ A1 ++ A2 ++ B → b ∉ a :: A' := fun b hb z => by
    rw [List.nodup_append] at h3
    have h5 := List.nodup_append.mp h3.1
    have h6 := List.nodup_append.mp h5.1
    simp only [List.mem_append] at hb
    rcases hb with (hb | hb) | hb
    · exact h6.2.2 b hb b z rfl
    · exact h5.2.2 b (by simp only [List.mem_append]; exact .inr z) b hb rfl
    · exact h3.2.2 b (by simp only [List.mem_append]; exact .inl (.inr z)) b hb rfl
  have hthere : ∀ b, b ∈ A1 ++ A2 ++ B → ∃ o, H b = some o := fun b hb => by
    simp only [List.mem_append] at hb
    rcases hb with (hb | hb) | hb
    · exact h1.there b (by simp [hb])
    · exact h1.there b (by simp [hb])
    · exact h2.there b hb
  have hsame : ∀ b, b ∈ A1 ++ A2 ++ B → H' b = H b := fun b hb => by
    obtain ⟨o, ho⟩ := hthere b hb
    rw [keep b o (hsplit b hb) ho, ho]
  have hT : ∀ b xs, H b = some (.tup xs) → H' b = some (.tup xs) := fun b xs hb => keep b _ (fun z => r0.noTup b z xs hb) hb
  have sl := back (F' := F') (H' := H') eF hT (fun b hb => hsame b (by simp at hb ⊢; rcases hb with hb | hb <;> simp [hb])) r
  have ev : (σ.set i (some (V.ref a))) = σ := by
    obtain ⟨hl, hv⟩ := List.getElem?_eq_some_iff.mp e2
    rw [← hv]; exact List.set_getElem_self hl
  rw [ev] at sl
  have h0 : ∀ b, b ∈ a :: A' → H0 b = none := fun b hb => (h4 b (by simp only [List.mem_append]; exact .inl (.inl (.inr hb)))).2
  refine ⟨S.exF.trans eF, fun b o q => keep b o (fun z => by rw [h0 b z] at q; cases q) (S.exH b o q), sub, fun b z => ?_, _, B, sl, h2.mono eF hT fun b hb => hsame b (by simp [hb]), ?_, fun b hb => ?_⟩
  · rcases new b z with y | y | y
    · exact S.new b y
    · exact .inr (S.exH.none y)
    · exact .inr (h0 b y)
  · have nA : ∀ x ∈ a :: A'', ∀ y ∈ A1 ++ A2 ++ B, x ≠ y := fun x hx y hy z => by
      subst z
      rcases (hA x hx).2 with q | q
      · obtain ⟨o, ho⟩ := hthere x hy
        rw [q] at ho; cases ho
      · exact hsplit x hy q
    have n3 : (A1 ++ A2 ++ B).Nodup := by
      refine List.Nodup.sublist ?_ h3
      exact List.Sublist.append (List.Sublist.append (List.sublist_append_left _ _) (List.Sublist.refl _)) (List.Sublist.refl _)
    refine ((List.Perm.nodup_iff ?_).mpr (List.nodup_append.mpr ⟨nd, n3, nA⟩))
    rw [show A1 ++ a :: A'' ++ A2 ++ B = A1 ++ ((a :: A'') ++ (A2 ++ B)) by simp]
    refine (List.perm_append_comm_assoc A1 (a :: A'') (A2 ++ B)).trans ?_
    rw [show A1 ++ (A2 ++ B) = A1 ++ A2 ++ B by simp]
  · have hb2 : b ∈ a :: A'' ∨ b ∈ A1 ++ A2 ++ B := by
      simp only [List.mem_append] at hb ⊢
      rcases hb with ((hb | hb) | hb) | hb
      · exact .inr (.inl (.inl hb))
      · exact .inl hb
      · exact .inr (.inl (.inr hb))
      · exact .inr (.inr hb)
    rcases hb2 with hb2 | hb2
    · refine ⟨(hA b hb2).1, ?_⟩
      rcases (hA b hb2).2 with q | q
      · exact S.exH.none q
      · exact h0 b q
    · have hold := h4 b (by
        simp only [List.mem_append] at hb2 ⊢
        rcases hb2 with (hb2 | hb2) | hb2
        · exact .inl (.inl (.inl hb2))
        · exact .inl (.inr hb2)
        · exact .inr hb2)
      refine ⟨?_, hold.2⟩
      cases z : F' b with
      | none => rfl
      | some o =>
        rcases new b (by rw [z]; simp) with y | y | y
        · exact absurd hold.1 y
        · obtain ⟨o', ho⟩ := hthere b hb2
          rw [y] at ho; cases ho
        · exact absurd y (hsplit b hb2)
/-! ### such a def called -/
def wCallM (spec : SpecM) (i : Nat) (w : WA) : WS := fun P px env => onP (subE env i []) fun _ => w px env fun ds env1 => dirtys ds = false ∧ ownL (subE env1 i []) fun xs mk => spec xs ds fun xs' => P.nx (setE env1 i [] (mk xs'))
theorem subE_nil {env : Env} {i : Nat} {e : D} (h : subE env i [] = some e) : env[i]? = some (some e) := by
  unfold subE at h
  split at h
  · rename_i d hd
    rw [subP_nil] at h; cases h; exact hd
  · cases h
theorem setE_nil {env : Env} {i : Nat} {e e' : D} (h : env[i]? = some (some e)) : setE env i [] e' = env.set i (some e') := by
  unfold setE
  rw [h]
  simp only [setP_nil]
theorem simS_callM {K : PySem.W.Frag} {E : EX} {E' : XK} {spec : SpecM} {i : Nat} {w : WA} {t : TA} (h : SimA K E w t) : SimS K E (wCallM spec i w) (tDrop (tCall (spM K spec) [] E' (tCons (tVar i) t))) := by
  intro px F0 H0 F H σ env pv pd L S P D w1 k
  obtain ⟨e0, he0, w1⟩ := onP_is w1
  obtain ⟨v, A, hv, _⟩ := S.slot (subE_nil he0)
  refine ⟨v, hv, h px F0 H0 F H σ env pv pd L S _ _ w1 fun ds env1 ws F1 H1 A1 w2 eF eH rs S1 => ?_⟩
  obtain ⟨hd, w2⟩ := w2
  have := rs.clean hd
  subst this
  obtain ⟨e, xs, mk, he, ho, w3⟩ := ownL_is w2
  have hi := subE_nil he
  obtain ⟨A0, B, h1, h2, h3, h4⟩ := S1.own
  obtain ⟨v', B1, Bi, B2, e2, e3, r0, _, _⟩ := h1.at hi
  rw [hv] at e2; cases e2
  subst e3
  have key : ∃ a A', v = .ref a ∧ Bi = a :: A' ∧ Rep K F1 H1 (.ref a) (.pin a xs) (a :: A') ∧ (∀ {F' H' : Hp} {xs' : List Tm.D} {A'' : List Addr}, Rep K F' H' (.ref a) (.pin a xs') (a :: A'') → Rep K F' H' (.ref a) (mk xs') (a :: A'')) ∧
      ∀ {v : V} {A : List Addr}, Rep K F1 H1 v e A → σ[i]? = some (some v) → v = .ref a ∧ A = a :: A' := by
    rcases ho with ⟨rfl, rfl⟩ | ⟨b, rfl, rfl⟩
    · cases r0 with
      | own hq r1 =>
        refine ⟨_, _, rfl, rfl, .pin hq r1, fun r => by cases r with | pin h1 h2 => exact .own h1 h2, fun {v A} r hs => ?_⟩
        rw [hv] at hs; cases hs
        exact ⟨rfl, r.uniq (.own hq r1)⟩
    · cases r0 with
      | pin hq r1 =>
        refine ⟨_, _, rfl, rfl, .pin hq r1, fun r => r, fun {v A} r hs => ?_⟩
        rw [hv] at hs; cases hs
        exact ⟨rfl, r.uniq (.pin hq r1)⟩
  obtain ⟨a, A', rfl, rfl, rp, back, uq⟩ := key
  rw [List.append_nil]
  have hin : ∀ b ∈ a :: A', F1 b = none ∧ H0 b = none := fun b hb => h4 b (by simp only [List.mem_append]; exact .inl (.inl (.inr hb)))
  have hn : (a :: A').Nodup := by
    have h5 := List.nodup_append.mp (List.nodup_append.mp h3).1
    exact (List.nodup_append.mp h5.1).2.1
  refine ⟨a, ws, F1, xs, ds, A', _, rfl, S1.sub, rp, hn, fun b hb => (hin b hb).1, rs, w3, fun xs' F' H' A'' q eF' keep sub' new' r' nd' hA' => ?_⟩
  refine k.nx _ _ F' H' q ?_
  rw [setE_nil hi]
  exact S1.swapIn hi uq eF' keep sub' new' (back r') nd' hA'
section
variable {X : Cx} {E : EX} {k : Nat} {f : Addr} {fd : FuncData} {ps : List Str} {spec : SpecM} {ds : List Value} {x y : Str} {p q cpos pos : Pos} {es : List Expr} {w : WA} {i : Nat}
theorem s_callM (G : FnOk X.prog X.w X.K X.mg X.base CX0 k f fd ps (spM X.K spec)) (hr : Room k X.A) (hg : Gl X x) (hm : X.mg x = some (.ref f)) (hk : PySem.W.keepIn X.K (.ref f) = true) (hb : Binds X.K fd ps ds) (hd : Vals [] ds)
    (hN : X.N[i]? = some y := by rfl) (hv : Vis X.env.scope y := by first | exact Or.inl rfl | exact Or.inr (Or.inl rfl) | exact Or.inr (Or.inr rfl)) (ha : DA X E es w) (hdy : (y == ("__debug__" : Str)) = false := by decide) (hcd : (y == ("__classdict__" : Str)) = false := by decide)
    (hdb : (x == ("__debug__" : Str)) = false := by decide) (he : starEach (.Name y q :: es) X.env = (false, eval (.Name y q) X.env) :: starEach es X.env := by rfl) (hpl : (backTo cpos (starEach es X.env)).any (·.1) = false := by rfl)
    (hsw : swapsWith (.Call (.Name x p) (.Name y q :: es) [] cpos) none pos.line X.env = pure false := by rfl) :
    DS X E (.Expr (.Call (.Name x p) (.Name y q :: es) [] cpos) pos) (wCallM spec i w) := by
  obtain ⟨t, pa, sa⟩ := ha.ex
  exact ⟨_, ps_expr (pe_call G hr hg hm hk hb hd pass0 (pa_cons (pe_var hN hv hdy hcd) pa he) hdb he hpl) hsw, simS_callM sa⟩
end
end Tm

set_option Elab.async false
set_option linter.all false
set_option maxRecDepth 100000
set_option maxHeartbeats 1000000
/-! a loop over a list at a place of what a name owns; the place gets it back behind the loop -/
namespace Tm
open PySem PySem.Spec PyProof.Rows L2
def forV (o : Option (List D)) (Q : List D → Prop) : Prop := match o with
  | some ds => Q ds
  | none => False
theorem forV_some {ds : List D} {Q : List D → Prop} : forV (some ds) Q = Q ds := rfl
theorem forV_is {o : Option (List D)} {Q : List D → Prop} (h : forV o Q) : ∃ ds, o = some ds ∧ Q ds := by
  cases o with
  | some d => exact ⟨d, rfl, h⟩
  | none => exact h.elim
def backP (i : Nat) (p : List Nat) (e : D) (a : Addr) (P : PEnds) : PEnds := { P with nx := fun env2 => subE env2 i p = some (.ref a) ∧ P.nx (setE env2 i p e) }
theorem backP_nx {i : Nat} {p : List Nat} {e : D} {a : Addr} {P : PEnds} {env : Env} : (backP i p e a P).nx env = (subE env i p = some (.ref a) ∧ P.nx (setE env i p e)) := rfl
theorem backP_rt {i : Nat} {p : List Nat} {e : D} {a : Addr} {P : PEnds} : (backP i p e a P).rt = P.rt := rfl
theorem backP_bk {i : Nat} {p : List Nat} {e : D} {a : Addr} {P : PEnds} : (backP i p e a P).bk = P.bk := rfl
theorem backP_ct {i : Nat} {p : List Nat} {e : D} {a : Addr} {P : PEnds} : (backP i p e a P).ct = P.ct := rfl
def wForP (wp : WP) (g : WG) (b : WS) : WS := fun P px env => wp px env fun i p env1 => onP (subE env1 i p) fun e => forV (asL e) fun ds => dirtys ds = false ∧ ∀ a, ForW g b (backP i p e a P) px ds (setE env1 i p (.ref a))
section
variable {K : PySem.W.Frag} {F0 H0 F H : Hp} {σ : L2.St} {env : Env} {pv : List V} {pd : List D}
theorem Sta.takeP {i : Nat} {p : List Nat} {e : D} {a : Addr} (S : Sta K F0 H0 F H σ env pv pd) (h : subE env i p = some e) (hv : valE σ H i p = some (.ref a)) : Sta K F0 H0 F H σ (setE env i p (.ref a)) ([.ref a] ++ pv) ([e] ++ pd) := by
  unfold subE at h
  unfold setE
  split at h
  rotate_left
  · cases h
  rename_i d hd
  obtain ⟨A0, B, h1, h2, h3, h4⟩ := S.own
  obtain ⟨v, S1, Si, S2, g1, g2, r, s, back⟩ := h1.at hd
  subst g2
  obtain ⟨v', P1, Pe, P2, q1, q2, re, back2⟩ := r.path h
  subst q2
  unfold valE at hv
  rw [g1] at hv
  simp only at hv
  rw [hv] at q1; cases q1
  have rv := back2 (Same.refl F) (fun _ _ z => z) (fun _ _ => rfl) (.ref a)
  have sl := back (Same.refl F) (fun _ _ z => z) (fun _ _ => rfl) rv
  have ev : (σ.set i (some v)) = σ := by
    obtain ⟨hl, hv⟩ := List.getElem?_eq_some_iff.mp g1
    rw [← hv]; exact List.set_getElem_self hl
  rw [ev] at sl
  have hp : (S1 ++ (P1 ++ [] ++ P2) ++ S2 ++ (Pe ++ B)).Perm (S1 ++ (P1 ++ Pe ++ P2) ++ S2 ++ B) := List.perm_iff_count.mpr fun x => by
    simp only [List.count_append, List.count_nil]; omega
  exact ⟨S.exF, S.exH, S.sub, S.new, _, _, sl, .cons re h2 rfl, hp.nodup_iff.mpr h3, fun b hb => h4 b (hp.mem_iff.mp hb)⟩
theorem Sta.putP {i : Nat} {p : List Nat} {e : D} {a : Addr} (S : Sta K F0 H0 F H σ env ([.ref a] ++ pv) ([e] ++ pd)) (h : subE env i p = some (.ref a)) : Sta K F0 H0 F H σ (setE env i p e) pv pd := by
  unfold subE at h
  unfold setE
  split at h
  rotate_left
  · cases h
  rename_i d hd
  obtain ⟨A0, B, h1, h2, h3, h4⟩ := S.own
  obtain ⟨v, S1, Si, S2, g1, g2, r, s, back⟩ := h1.at hd
  subst g2
  obtain ⟨v', P1, Pe, P2, q1, q2, re, back2⟩ := r.path h
  subst q2
  cases re
  cases h2 with
  | cons ra rb eB =>
    subst eB
    rename_i Ad Bd
    have rv := back2 (Same.refl F) (fun _ _ z => z) (fun _ _ => rfl) ra
    have sl := back (Same.refl F) (fun _ _ z => z) (fun _ _ => rfl) rv
    have ev : (σ.set i (some v)) = σ := by
      obtain ⟨hl, hv⟩ := List.getElem?_eq_some_iff.mp g1
      rw [← hv]; exact List.set_getElem_self hl
    rw [ev] at sl
    have hp : (S1 ++ (P1 ++ Ad ++ P2) ++ S2 ++ Bd).Perm (S1 ++ (P1 ++ [] ++ P2) ++ S2 ++ (Ad ++ Bd)) := List.perm_iff_count.mpr fun x => by
      simp only [List.count_append, List.count_nil]; omega
    exact ⟨S.exF, S.exH, S.sub, S.new, _, _, sl, rb, hp.nodup_iff.mpr h3, fun b hb => h4 b (hp.mem_iff.mp hb)⟩
end
theorem simS_forP {K : PySem.W.Frag} {E : EX} {wp : WP} {g : WG} {b : WS} {tp : TE} {tg : TG} {tb : TS} (hp : SimP K E wp tp) (hg : SimG K g tg) (hb : SimS K E b tb) : SimS K E (wForP wp g b) (tFor (iList K tp) tg tb) := by
  intro px F0 H0 F H σ env pv pd L S P D w k
  refine hp px F0 H0 F H σ env pv pd L S _ _ w fun i p env1 x F1 H1 w1 eF eH S0 hx => ?_
  obtain ⟨e, he, w1⟩ := onP_is w1
  obtain ⟨ds, hd, w1, w2⟩ := forV_is w1
  obtain ⟨v, A, e1, r⟩ := S0.seen he
  rw [hx] at e1; cases e1
  obtain ⟨a, vs, B, rfl, hq, rs, _⟩ := rep_asL S0.sub r hd
  have S1 := S0.takeP he hx
  have J1 : ItD K (Itl K a) [.ref a] [e] ds := ⟨rfl, fun F H A i e hs rr he => by
    cases rr with
    | cons r1 _ _ =>
      obtain ⟨a', vs', B', e1, hq', rs', _⟩ := rep_asL hs r1 hd
      cases e1
      obtain ⟨x, C, hx, rx, _⟩ := rs'.get he
      refine ⟨⟨vs', x, hq', hx⟩, fun x' H' y => ?_⟩
      obtain ⟨e2, y⟩ := y
      subst e2
      have := y vs' hq'
      rw [hx] at this; cases this
      have cl := rx.clean (dirtys_false.mp w1 e (List.mem_of_getElem? he))
      subst cl
      exact ⟨Same.refl _, rx⟩, fun F H A hs rr => by
    cases rr with
    | cons r1 _ _ =>
      obtain ⟨a', vs', B', e1, hq', rs', _⟩ := rep_asL hs r1 hd
      cases e1
      exact ⟨vs', hq', Nat.le_of_eq rs'.length⟩⟩
  refine ⟨a, rfl, ⟨vs, hq⟩, ?_⟩
  obtain ⟨I, i0, turn, done⟩ := w2 a
  refine ⟨fun n m σ' H' => m = ds.length - n ∧ n ≤ ds.length ∧ ∃ env' F', I n env' ∧ Sta K F0 H0 F' H' σ' env' ([.ref a] ++ pv) ([e] ++ pd), ⟨ds.length, by simp, Nat.zero_le _, _, _, i0, S1⟩, ?_⟩
  rintro n m σ2 H2 ⟨rfl, hle, env2, F2, i2, S2⟩
  obtain ⟨A, rs⟩ := S2.told J1.len
  by_cases hlt : n < ds.length
  · obtain ⟨go, yl⟩ := J1.go F2 H2 A n ds[n] S2.sub rs (List.getElem?_eq_getElem hlt)
    refine .inr ⟨go, fun σ' H' => ∃ env' F', I (n + 1) env' ∧ Sta K F0 H0 F' H' σ' env' ([.ref a] ++ pv) ([e] ++ pd), fun σ' H' q => ⟨ds.length - (n + 1), by omega, rfl, hlt, q⟩, fun x H' y => ?_⟩
    obtain ⟨e3, rx⟩ := yl x H' y
    have S3 := (S2.grow e3).clean rx
    refine hg F0 H0 F2 H' σ2 env2 _ _ x _ S3 _ _ (turn n _ env2 (List.getElem?_eq_getElem hlt) i2) fun env3 σ3 w3 S4 => ?_
    exact hb px F0 H0 F2 H' σ3 env3 _ _ (L.push J1.len) S4 _ _ w3 ⟨fun σ' env' F' H' q S' => ⟨env', F', q, S'⟩, fun d v F' H' σ' env' pv' pd' q S' => k.rt d v F' H' σ' env' pv' pd' q S', fun σ' env' F' H' q S' => k.nx _ _ _ _ q.2 (S'.putP q.1), fun σ' env' F' H' q S' => ⟨env', F', q, S'⟩⟩
  · have en : n = ds.length := by omega
    subst en
    have q := done env2 i2
    exact .inl ⟨J1.stop F2 H2 A S2.sub rs, k.nx _ _ _ _ q.2 (S2.putP q.1)⟩
section
variable {X : Cx} {E : EX} {tg : Expr} {pos : Pos}
theorem s_forP {iter : Expr} {body : List Stmt} {wp : WP} {g : WG} {b : WS} (hp : PassesOwn (model X.prog X.w) X.A X.env X.xe) (hc : X.calm = true) (hi : DP X E iter wp) (hg : DG X tg g) (hb : DSs X E body b) (hs : ∀ x, foldedSetIterable iter X.env x = pure x := by intro _; rfl) :
    DS X E (.For tg iter body [] pos) (wForP wp g b) := by
  obtain ⟨t1, p1, s1⟩ := hi.ex
  obtain ⟨t2, p2, s2⟩ := hg.ex
  obtain ⟨t3, p3, s3⟩ := hb.ex
  exact ⟨_, ps_for hp hc (pi_list p1) p2 p3 hs, simS_forP s1 s2 s3⟩
end
end Tm

set_option Elab.async false
set_option linter.all false
set_option maxRecDepth 100000
set_option maxHeartbeats 1000000
namespace Tm
open PySem PySem.Spec PyProof.Rows L2
/-- what a law promises: of every script the answer is True -/
def specLaw : SpecT := fun ds _ Q => ∃ ns : List Int, ds = [.seq (ns.map D.int)] ∧ ns.length ≤ 63 ∧ (∀ z ∈ ns, Builtin.Int.intBits z ≤ 1048576) ∧ Q (.bl true)
theorem law_in {K : PySem.W.Frag} {H : Hp} {a : Addr} {ns : List Int} {E : XK} (hl : ns.length ≤ 63) (hb : ∀ z ∈ ns, Builtin.Int.intBits z ≤ 1048576) (hS : SqL K H a (ns.map V.int)) :
    spD K specLaw [.ref a] H (fun v _ => v = .bl true) E := by
  refine ⟨H, [.seq (ns.map D.int)], px0, fun d => d = .bl true, Same.refl _, .cons (.seq hS (Reps.of_ints ns)) .nil rfl, ⟨ns, rfl, hl, hb, rfl⟩, linkP0, ?_⟩
  intro d v F' H' A hd _ _ _ _ r _ _
  subst hd
  exact rep_bl r
theorem len_specLaw : ∀ ds px Q, specLaw ds px Q → ds.length = 1 := by
  rintro ds px Q ⟨ns, rfl, _⟩
  rfl
theorem fzs_ints (ns : List Int) : fzs (ns.map D.int) = ns.map D.int := by
  rw [fzs_map, List.map_map]
  congr 1
theorem dirtys_ints (ns : List Int) : dirtys (ns.map D.int) = false := by
  rw [dirtys_false]
  intro d hd
  obtain ⟨n, _, rfl⟩ := List.mem_map.mp hd
  rfl
end Tm

set_option Elab.async false
set_option linter.all false
set_option maxRecDepth 100000
set_option maxHeartbeats 4000000
namespace Law
open PySem PySem.Spec PyProof.Rows L2 Tm
def exNames : List Str := ["NoRows"]
def exPairs : List (Str × Str) := [("NoRows", "NoRows"), ("NoRows", "ValueError"), ("NoRows", "MendError")]
def exSub (n c : Str) : Bool := decide ((n, c) ∈ exPairs)
theorem ex_NoRows_NoRows : exSub "NoRows" "NoRows" = true := by decide +kernel
theorem ex_NoRows_NoName : exSub "NoRows" "NoName" = false := by decide +kernel
theorem ex_NoRows_Lacks : exSub "NoRows" "Lacks" = false := by decide +kernel
theorem ex_NoRows_Touch : exSub "NoRows" "Touch" = false := by decide +kernel
theorem ex_NoRows_NoFit : exSub "NoRows" "NoFit" = false := by decide +kernel
theorem ex_NoRows_Twice : exSub "NoRows" "Twice" = false := by decide +kernel
theorem ex_NoRows_NoMark : exSub "NoRows" "NoMark" = false := by decide +kernel
theorem ex_NoRows_NoTree : exSub "NoRows" "NoTree" = false := by decide +kernel
theorem ex_NoRows_TooMany : exSub "NoRows" "TooMany" = false := by decide +kernel
theorem ex_NoRows_NoPlace : exSub "NoRows" "NoPlace" = false := by decide +kernel
theorem ex_NoRows_NoNode : exSub "NoRows" "NoNode" = false := by decide +kernel
theorem ex_NoRows_NoText : exSub "NoRows" "NoText" = false := by decide +kernel
theorem ex_NoRows_NoMake : exSub "NoRows" "NoMake" = false := by decide +kernel
theorem ex_NoRows_NoProgram : exSub "NoRows" "NoProgram" = false := by decide +kernel
theorem ex_NoRows_ValueError : exSub "NoRows" "ValueError" = true := by decide +kernel
theorem ex_NoRows_MendError : exSub "NoRows" "MendError" = true := by decide +kernel
theorem exn_NoRows : (("NoRows" : Str) ∈ exNames) = True := eq_true (by decide +kernel)
local macro_rules | `(tactic| walk_at "tmx") => `(tactic| simp only [↓wSeq, ↓wNext, ↓wBrk, ↓wCont, ↓wRet, ↓wRetN, ↓wIf, ↓wAsg, ↓wDrop, ↓wAug, ↓wFor, ↓wTest, ↓wAnd, ↓wOr, ↓wNot, ↓wIfE, ↓asB, ↓wAndV, ↓wOrV, ↓wNotV, ↓wChain,
  then_nx, then_rt, then_bk, then_ct, turn_nx, turn_rt, turn_bk, turn_ct, mid_nx, mid_rt, mid_bk, mid_ct, top_nx, top_rt,
  ↓wVar, ↓wMov, ↓wFrz, ↓wC, ↓wOp, ↓wUn, gI_int, gAdd_int, gAdd_str, gAdd_lst, gAdd_tup, gIadd_int, gIadd_str, gMinus_int, gFdiv_int, gMod_int, gPow_int, gMul_int, gMul_lst, gMul_str, ↓wM1, gJoin_str, isStr, gNeg_int, gLt_int, gLe_int, gGt_int, gGe_int, ↓gEq, ↓gNe, eqK_some, eqK_none,
  gIs_non, gIsnt_non, gIn_str, gIn_lst, gIn_seq, gIn_tup, gNotIn_str, gNotIn_lst, gNotIn_seq, gNotIn_tup, gIx_lst, gIx_seq, gIx_tup, gIx_str, atK_some, atC_some, atI_0, atI_1, atI_2, atI_3, gSl_lst, gSl_seq, gSl_tup, gSl_str, ↓wSl, ↓wNo, ↓wPart,
  ↓wNil, ↓wArg, ↓wItm, ↓wTup, ↓wLst, ↓wCall, ↓wCall0, ↓wB, gLen_str, gLen_lst, gLen_seq, gLen_tup, gMin2_int, gMax2_int, gInt_int, gInt_bl, gList_lst, gList_seq, gList_tup, gTuple_lst, gTuple_seq, gTuple_tup, gIsi_ty, isiK_some,
  ↓gtName, ↓gtTup, ↓gtCons, ↓itsL, ↓itsT, ↓its1, ↓its2, ↓its3, ↓itsE, ↓itsE1, ↓itsES, ↓itsZ, ↓itsR, ↓itsS, ↓wRevS, ↓wRevL, ↓wLc, ↓wLcV, ↓wYes, ↓wApp, ↓wExt, ↓wClear, ↓wPop, ↓wSetL, ↓wIns, ↓atLst, ↓wIxM, ↓wFzE, ↓wNever, ↓wTry, ↓wRaise, ↓wIsE, gone_nx, gone_rt, gone_bk, gone_ct, eq_self, atM_some, gIxM_lst, ↓wCut, gLtT_is, ↓gSum, ↓gMax, ↓gMin, ↓gAny, ↓gAll, ↓gSorted, ↓gSortP, gDGet_is, gIsB_bl, gIsntB_bl, gKget_some, getK_int, getK_str, getK_tup, keysOf, keyOf, ↓wDGet1, ↓wDGet2, isDct, gGetN_is, ↓gLenD, DKeys.len, gDIn_is, gDNotIn_is, bK_some, hasK_int, hasK_str, hasK_non, hasK_tup, ↓wDNew, ↓wDisp1, kDisp_int, kDisp_str, ↓wDPut, ↓atDct, putK2_int, putK2_str, putK2_tup, tPut_some, ↓gInD, ↓gNotInD, ↓gAddL, isLs, lsOf,
  ↓wForP, forV_some, backP_nx, backP_rt, backP_bk, backP_ct, ↓wIxB, gIxB_lst, gIxB_tup, bI_some, ↓wpVar, ↓wpIx, subE, setE, subP_nil, subP_lst, subP_tup, subP_dct, stepO_some, setP_nil, setP1_lst, setP1_tup, setP1_dct, onP_some, onJ_some, ownL_some, kidI_lst, kidI_tup, ↓wAppP, ↓wExtP, ↓wClearP, ↓wInsP, ↓wSetP, ↓wLR1, ↓wLR2, rgK_int, ↓wMI, ↓gIndex, gStripC_str, gLstripC_str, gPart_str, gFind_str, gRjust_str, ↓wPar, ↓gDictP, gIxB_pin, subP_pin, subP_objT, subP_objP, setP1_pin, setP1_obj, kidI_pin, ownL_pin, ↓wCallM, topM_nx,
  scEq_int, scEq_str, scEq_bl, scEq_nn, scEq_ni, scEq_in, scEq_ns, scEq_sn, scEq_lst, scEq_tup, scEq_seq, scEq_xlst, scEq_xtup, Tm.isNon, tyD, isiT, asL, dirty, dirtys, fz, fzs, fzs_ints, dirtys_ints, selfc, selfcs, envF_cons, envF_nil, Option.map_some, Option.map_none, wipeE, cleanE,
  List.getElem?_cons_zero, List.getElem?_cons_succ, List.set_cons_zero, List.set_cons_succ, List.length_cons, List.length_nil, List.length_map, List.append_nil, List.cons_append, List.nil_append,
  true_and, and_true, true_or, or_true, or_self, and_self, decide_eq_true_eq, Bool.not_eq_true', Bool.false_eq_true, if_true, if_false, ite_true, ite_false, Bool.not_true, Bool.not_false, decide_true, decide_false, false_or, or_false, false_and, and_false, ne_eq, not_true, not_false_eq_true, Bool.true_and, Bool.false_and, Bool.and_true, Bool.and_false, Bool.or_false, Bool.false_or, Bool.true_or, Bool.or_true, reduceCtorEq, CDivB, CMul, CPow, Int.reduceLT, Int.reduceLE, Int.reduceEq, Int.reduceAdd, Int.reduceSub, Int.reduceMul, Int.reduceNeg, Int.reducePow, Int.reduceToNat, Int.reduceAbs, Nat.reduceAdd, Nat.reduceLeDiff, Nat.reduceLT, Nat.reduceMul, Nat.reducePow, Nat.reduceEqDiff, Int.cast_ofNat_Int, Nat.zero_add, Int.zero_add, Int.natCast_add, Int.ofNat_eq_natCast, ex_NoRows_NoRows, ex_NoRows_NoName, ex_NoRows_Lacks, ex_NoRows_Touch, ex_NoRows_NoFit, ex_NoRows_Twice, ex_NoRows_NoMark, ex_NoRows_NoTree, ex_NoRows_TooMany, ex_NoRows_NoPlace, ex_NoRows_NoNode, ex_NoRows_NoText, ex_NoRows_NoMake, ex_NoRows_NoProgram, ex_NoRows_ValueError, ex_NoRows_MendError, exn_NoRows])
local macro_rules | `(tactic| walk_at "tm") => `(tactic| try walk_at "tmx")
theorem tmCheck : True ∧ True := by walk_at "tmx"
def ws__law_cell_at : WS := wSeq (wIf (wTest (wOp gLt (wVar 1) (wB gLen (wArg (wVar 0) (wNil))))) (wRet (wOp gIx (wVar 0) (wVar 1))) (wNext)) (wRet (wC (.int 0)))
abbrev n__law_cell_at : Nat := 2
def cellI (ns : List Int) (k : Int) : Int := if k < ns.length then ns.getD k.toNat 0 else 0
def spec__law_cell_at : SpecT := fun ds _ Q => ∃ (ns : List Int) (k : Int), ds = [.seq (ns.map D.int), .int k] ∧ 0 ≤ k ∧ Q (.int (cellI ns k))
theorem len__law_cell_at : ∀ ds px Q, spec__law_cell_at ds px Q → ds.length = 2 := by
  rintro ds px Q ⟨a, b, rfl, _⟩; rfl
theorem atI_ints {ns : List Int} {k : Int} (h0 : 0 ≤ k) (h : k < ns.length) : atI (ns.map D.int) k = some (.int (ns.getD k.toNat 0)) := by
  have hk : k.toNat < ns.length := by omega
  have e : k = ((k.toNat : Nat) : Int) := by omega
  rw [e]
  refine atI_nat ?_
  rw [List.getElem?_map, List.getElem?_eq_getElem hk]
  rw [List.getD_eq_getElem?_getD, Int.toNat_natCast, List.getElem?_eq_getElem hk]; rfl
theorem atI_some {α : Type} {ds : List α} {k : Int} (h0 : 0 ≤ k) (h : k < ds.length) : ∃ d, atI ds k = some d := by
  have hk : k.toNat < ds.length := by omega
  have e : k = ((k.toNat : Nat) : Int) := by omega
  rw [e]
  exact ⟨_, atI_nat (List.getElem?_eq_getElem hk)⟩
theorem atI_mem {α : Type} {ds : List α} {k : Int} (h0 : 0 ≤ k) (h : k < ds.length) : ∃ d, atI ds k = some d ∧ d ∈ ds := by
  have hk : k.toNat < ds.length := by omega
  have e : k = ((k.toNat : Nat) : Int) := by omega
  rw [e]
  exact ⟨_, atI_nat (List.getElem?_eq_getElem hk), List.getElem_mem hk⟩
theorem Str.length_append1 (w : Str) (c : Nat) : (w ++ (⟨#[c]⟩ : Str)).length = w.length + 1 := by
  rw [Str.length_append]
  rfl

theorem pure__law_cell_at : ∀ ds px Q, spec__law_cell_at ds px Q → ws__law_cell_at (PEnds.top Q) px (start0 2 ds) := by
  rintro ds px Q ⟨ns, k, rfl, h0, q⟩
  show ws__law_cell_at (PEnds.top Q) px [some (.seq (ns.map D.int)), some (.int k)]
  unfold ws__law_cell_at
  walk_at "tm"
  unfold cellI at q
  by_cases h : k < (ns.length : Int)
  · rw [if_pos h] at q ⊢
    exact atK_of (atI_ints h0 h) rfl q
  · rw [if_neg h] at q ⊢
    exact q

def SG : Str := "abcdefghijklmnopqrstuvwxyz0123456789+-*=<"
def Sg (w : Str) : Prop := ∀ c ∈ w.cps.toList, c ∈ SG.cps.toList
def Wd (w : Str) : Prop := Sg w ∧ 1 ≤ w.length ∧ w.length ≤ 12
theorem Sg.app {v w : Str} (h : Sg v) (k : Sg w) : Sg (v ++ w) := fun c hc => by
  rw [show (v ++ w).cps.toList = v.cps.toList ++ w.cps.toList from Array.toList_append] at hc
  rcases List.mem_append.mp hc with hc | hc
  · exact h c hc
  · exact k c hc
theorem Sg.one {c : Nat} (h : c ∈ SG.cps.toList) : Sg ⟨#[c]⟩ := fun d hd => by
  simp at hd; subst hd; exact h
theorem Sg.rev {w : Str} (h : Sg w) : Sg (revS w) := fun c hc => h c (by simpa [revS] using hc)
theorem rev_length {w : Str} : (revS w).length = w.length := by
  show (w.cps.toList.reverse.toArray).size = w.cps.size
  simp
theorem Sg.strOk {w : Str} (h : Sg w) : PyData.strOk w = true := by
  unfold PyData.strOk
  rw [Array.all_eq_true_iff_forall_mem]
  intro c hc
  have hm := h c (by simpa using hc)
  have all : SG.cps.toList.all (fun c => decide (c < 0x110000)) = true := by decide +kernel
  exact List.all_eq_true.mp all c hm

def ws__law_word : WS := wSeq (wIf (wTest (wOp gEq (wOp gMod (wVar 0) (wC (.int 3))) (wC (.int 0)))) (wRet (wOp gIx (wLst (wItm (wC (.str "a")) (wItm (wC (.str "b")) (wItm (wC (.str "set")) (wItm (wC (.str "+")) (wNil)))))) (wOp gMod (wOp gFdiv (wVar 0) (wC (.int 3))) (wC (.int 4))))) (wNext)) (wSeq (wAsg (wC (.str "abcdefghijklmnopqrstuvwxyz0123456789+-*=<")) (gtName 1)) (wSeq (wAsg (wC (.str "")) (gtName 2)) (wSeq (wAsg (wOp gFdiv (wVar 0) (wC (.int 36))) (gtName 3)) (wSeq (wFor (its1 (wArg (wOp gAdd (wC (.int 1)) (wOp gMod (wOp gFdiv (wVar 0) (wC (.int 3))) (wC (.int 12)))) (wNil))) (gtName 4) (wSeq (wAsg (wOp gAdd (wVar 2) (wOp gIx (wVar 1) (wOp gMod (wVar 3) (wC (.int 41))))) (gtName 2)) (wAsg (wOp gMod (wOp gMul (wOp gAdd (wOp gAdd (wOp gFdiv (wVar 3) (wC (.int 41))) (wOp gMul (wC (.int 7)) (wVar 4))) (wC (.int 3))) (wC (.int 48271))) (wC (.int 2147483647))) (gtName 3)))) (wRet (wMov 2))))))
abbrev n__law_word : Nat := 5
def spec__law_word : SpecT := fun ds _ Q => ∃ n, ds = [.int n] ∧ ∀ w : Str, Wd w → Q (.str w)
theorem len__law_word : ∀ ds px Q, spec__law_word ds px Q → ds.length = 1 := by
  rintro ds px Q ⟨a, rfl, _⟩; rfl
theorem pure__law_word : ∀ ds px Q, spec__law_word ds px Q → ws__law_word (PEnds.top Q) px (start0 5 ds) := by
  rintro ds px Q ⟨n, rfl, q⟩
  show ws__law_word (PEnds.top Q) px [some (.int n), none, none, none, none]
  unfold ws__law_word
  walk_at "tm"
  by_cases h : n % 3 = 0
  · rw [if_pos h]
    obtain ⟨d, e, m⟩ := atI_mem (ds := [D.str (Str.ofString "a"), D.str (Str.ofString "b"), D.str (Str.ofString "set"), D.str (Str.ofString "+")]) (k := n / 3 % 4) (by omega) (by show n / 3 % 4 < 4; omega)
    simp only [List.mem_cons, List.mem_nil_iff, or_false] at m
    have key : ∃ w : Str, d = .str w ∧ Wd w := by
      rcases m with rfl | rfl | rfl | rfl <;> exact ⟨_, rfl, by unfold Sg; decide +kernel, by decide +kernel, by decide +kernel⟩
    obtain ⟨w, rfl, hw⟩ := key
    exact atK_of e rfl (q w hw)
  · rw [if_neg h]
    refine ⟨by omega, by omega, fun i env => ∃ (w : Str) (r : Int) (x : Option D), env = [some (.int n), some (.str SG), some (.str w), some (.int r), x] ∧ Sg w ∧ w.length = i, ⟨_, _, _, rfl, by unfold Sg; decide +kernel, by decide +kernel⟩, ?_, ?_⟩
    · rintro i d env2 hd ⟨w, r, x, rfl, hr, hw⟩
      obtain ⟨hi, rfl⟩ := rngD_get hd
      walk_at "tm"
      have hz : r % 41 < (SG.cps.toList.length : Int) := by show r % 41 < 41; omega
      obtain ⟨c, e, hc⟩ := atI_mem (ds := SG.cps.toList) (k := r % 41) (by omega) hz
      refine ⟨by decide, atC_of e ?_⟩
      have hl : (w ++ (⟨#[c]⟩ : Str)).length = w.length + 1 := Str.length_append1 w c
      refine ⟨by show w.length + 1 ≤ 100000; omega, _, _, _, rfl, hr.app (Sg.one hc), by omega⟩
    · rintro env2 ⟨w, r, x, rfl, hr, hw⟩
      walk_at "tm"
      rw [rngD_len] at hw
      exact q w ⟨hr, by omega⟩

abbrev Row := Int × Str
def rowD (r : Row) : D := .tup [.int r.1, .str r.2]
theorem rowD_eq {r : Row} : rowD r = .tup [.int r.1, .str r.2] := rfl
structure TreeL (rows : List Row) : Prop where
  first : ∃ w r, rows = (0, w) :: r
  rng : ∀ r ∈ rows, Wd r.2 ∧ 0 ≤ r.1 ∧ r.1 ≤ 30
  step : ∀ (j : Nat) r p, rows[j + 1]? = some r → rows[j]? = some p → 1 ≤ r.1 ∧ r.1 ≤ p.1 + 1
theorem TreeL.one {w : Str} (h : Wd w) : TreeL [(0, w)] := ⟨⟨w, [], rfl⟩, fun r hr => by simp at hr; subst hr; exact ⟨h, by simp, by simp⟩, fun j r p e => by simp at e⟩
theorem TreeL.push {rows : List Row} {p : Row} {d : Int} {w : Str} (h : TreeL rows) (hp : rows.getLast? = some p) (h1 : 1 ≤ d) (h2 : d ≤ 30) (h3 : d ≤ p.1 + 1) (hw : Wd w) : TreeL (rows ++ [(d, w)]) := by
  obtain ⟨w0, r0, e0⟩ := h.first
  refine ⟨⟨w0, r0 ++ [(d, w)], by rw [e0]; rfl⟩, fun r hr => ?_, fun j r q e1 e2 => ?_⟩
  · rcases List.mem_append.mp hr with hr | hr
    · exact h.rng r hr
    · simp at hr; subst hr; exact ⟨hw, by show 0 ≤ d; omega, h2⟩
  · by_cases c : j + 1 < rows.length
    · rw [List.getElem?_append_left c] at e1
      rw [List.getElem?_append_left (by omega)] at e2
      exact h.step j r q e1 e2
    · have hj : j + 1 = rows.length := by
        have := (List.getElem?_eq_some_iff.mp e1).1
        simp at this; omega
      rw [List.getElem?_append_right (by omega), hj, Nat.sub_self] at e1
      simp at e1; subst e1
      rw [List.getElem?_append_left (by omega)] at e2
      rw [List.getLast?_eq_getElem?, show rows.length - 1 = j from by omega, e2] at hp
      cases hp
      exact ⟨h1, h3⟩
theorem TreeL.last {rows : List Row} (h : TreeL rows) : ∃ p, rows.getLast? = some p ∧ 0 ≤ p.1 ∧ p.1 ≤ 30 := by
  obtain ⟨w0, r0, e0⟩ := h.first
  cases e : rows.getLast? with
  | none => rw [List.getLast?_eq_none_iff] at e; rw [e] at e0; cases e0
  | some p => exact ⟨p, rfl, (h.rng p (List.mem_of_getLast? e)).2⟩
theorem rowsD_dirty (rows : List Row) : dirtys (rows.map rowD) = false := dirtys_mapI (f := rowD) (fun _ => rfl) rows
theorem rowsD_fz (rows : List Row) : fzs (rows.map rowD) = rows.map rowD := fzs_mapI (f := rowD) (fun _ => rfl) rows
theorem rowsD_selfc (rows : List Row) : selfcs (rows.map rowD) = true := selfcs_mapI (f := rowD) (fun _ => rfl) rows
theorem rowsD_noB (rows : List Row) : noBs (rows.map rowD) = true := noBs_mapI (f := rowD) (fun _ => rfl) rows
theorem rowsD_can (rows : List Row) : cans (rows.map rowD) = rows.map rowD := cans_mapI (f := rowD) (fun _ => rfl) rows
theorem rowD_inj {a b : Row} (h : rowD a = rowD b) : a = b := by
  obtain ⟨a1, a2⟩ := a
  obtain ⟨b1, b2⟩ := b
  simp [rowD] at h
  rw [h.1, h.2]
theorem rowsD_fit {rows : List Row} {o : Bool} (h : ∀ r ∈ rows, PyData.strOk r.2 = true) : shD (.lst o (rows.map rowD)) = true := shD_of 64 (by
  simp only [okd]
  rw [okds_mapI]
  · rfl
  · intro r hr
    simp only [rowD, okd, okds, h r hr]; rfl) (by decide)
theorem rowsD_eq {a b : List Row} {o p : Bool} : eqD (.lst o (a.map rowD)) (.lst p (b.map rowD)) = decide (a = b) := eqD_dec (rowsD_noB a) (rowsD_noB b) (by
  show D.lst false _ = D.lst false _ ↔ _
  rw [D.lst.injEq, rowsD_can, rowsD_can, map_inj' (fun _ _ => rowD_inj)]; simp)
theorem rowsD_last {rows : List Row} {p : Row} (h : rows.getLast? = some p) : atI (rows.map rowD) (-1) = some (rowD p) := atI_last' (by rw [List.getLast?_map, h]; rfl)

def isW (w : Str) : Bool := decide (∀ c ∈ w.cps.toList, c ∈ SG.cps.toList) && (decide (1 ≤ w.length) && decide (w.length ≤ 12))
theorem isW_iff {w : Str} : isW w = true ↔ Wd w := by
  unfold isW Wd Sg
  simp only [Bool.and_eq_true, decide_eq_true_eq]
theorem isW_not {w : Str} {i : Nat} {c : Nat} (h : w.cps.toList[i]? = some c) (k : ¬ c ∈ SG.cps.toList) : isW w = false := by
  cases e : isW w with
  | false => rfl
  | true => exact absurd ((isW_iff.mp e).1 c (List.mem_of_getElem? h)) k
theorem isW_all {w : Str} (h : ∀ j < w.length, ∀ c, w.cps.toList[j]? = some c → c ∈ SG.cps.toList) : isW w = (decide (1 ≤ w.length) && decide (w.length ≤ 12)) := by
  unfold isW
  rw [decide_eq_true, Bool.true_and]
  intro c hc
  obtain ⟨j, hj, e⟩ := List.getElem_of_mem hc
  exact h j (by rw [← str_len]; exact hj) c (by rw [List.getElem?_eq_getElem hj, e])

def ws_is_word : WS := wSeq (wFor (itsS (wVar 0)) (gtName 1) (wIf (wTest (wOp gNotIn (wVar 1) (wC (.str "abcdefghijklmnopqrstuvwxyz0123456789+-*=<")))) (wRet (wC (.bl false))) (wNext))) (wRet (wChain gLe gLe (wC (.int 1)) (wB gLen (wArg (wVar 0) (wNil))) (wC (.int 12))))
abbrev n_is_word : Nat := 2
def spec_is_word : SpecT := fun ds _ Q => ∃ w, ds = [.str w] ∧ w.length ≤ 100000 ∧ Q (.bl (isW w))
theorem len_is_word : ∀ ds px Q, spec_is_word ds px Q → ds.length = 1 := by
  rintro ds px Q ⟨a, rfl, _⟩; rfl
theorem pure_is_word : ∀ ds px Q, spec_is_word ds px Q → ws_is_word (PEnds.top Q) px (start0 2 ds) := by
  rintro ds px Q ⟨w, rfl, hl, q⟩
  show ws_is_word (PEnds.top Q) px [some (.str w), none]
  unfold ws_is_word
  walk_at "tm"
  refine ⟨fun i env => ∃ x, env = [some (.str w), x] ∧ ∀ j < i, ∀ c, w.cps.toList[j]? = some c → c ∈ SG.cps.toList, ⟨_, rfl, fun j hj => by omega⟩, ?_, ?_⟩
  · rintro i d env2 hd ⟨x, rfl, hs⟩
    obtain ⟨c, hc, rfl⟩ := signs_get hd
    walk_at "tm"
    show if decide (c ∈ SG.cps.toList) = false then _ else _
    by_cases hm : c ∈ SG.cps.toList
    · rw [if_neg (by rw [Bool.not_eq_false]; exact decide_eq_true hm)]
      refine ⟨_, rfl, fun j hj d hd => ?_⟩
      by_cases e : j < i
      · exact hs j e d hd
      · rw [show j = i from by omega, hc] at hd; cases hd; exact hm
    · rw [if_pos (decide_eq_false hm)]
      rw [isW_not hc hm] at q; exact q
  · rintro env2 ⟨x, rfl, hs⟩
    rw [signs_len, str_len] at hs
    rw [isW_all hs] at q
    walk_at "tm"
    refine ⟨hl, ?_⟩
    by_cases h1 : 1 ≤ w.length
    · rw [decide_eq_true (p := 1 ≤ (w.length : Int)) (by omega)]
      rw [decide_eq_true h1] at q
      by_cases h2 : w.length ≤ 12
      · rw [decide_eq_true (by omega)]; rw [decide_eq_true h2] at q; exact q
      · rw [decide_eq_false (by omega)]; rw [decide_eq_false h2] at q; exact q
    · rw [decide_eq_false (p := 1 ≤ (w.length : Int)) (by omega)]
      rw [decide_eq_false h1] at q; exact q

structure TreeP (rows : List Row) : Prop where
  ne : rows ≠ []
  most : rows.length ≤ 200
  first : ∀ r, rows[0]? = some r → r.1 = 0
  rng : ∀ (j : Nat) r, rows[j]? = some r → isW r.2 = true ∧ r.1 ≤ 30
  step : ∀ (j : Nat) r p, rows[j + 1]? = some r → rows[j]? = some p → 1 ≤ r.1 ∧ r.1 ≤ p.1 + 1

def ws_is_tree : WS := wSeq (wIf (wOr (wTest (wOp gEq (wB gLen (wArg (wVar 0) (wNil))) (wC (.int 0)))) (wOr (wTest (wOp gGt (wB gLen (wArg (wVar 0) (wNil))) (wC (.int 200)))) (wTest (wOp gNe (wOp gIx (wOp gIx (wVar 0) (wC (.int 0))) (wC (.int 0))) (wC (.int 0)))))) (wRet (wC (.bl false))) (wNext)) (wSeq (wAsg (wC (.int 0)) (gtName 1)) (wSeq (wFor (itsE (wArg (wVar 0) (wNil))) (gtTup 2 (gtCons (gtName 2) (gtCons (gtName 3) (fun ds env Q => ds = [] ∧ Q env)))) (wSeq (wAsg (wVar 3) (gtTup 2 (gtCons (gtName 4) (gtCons (gtName 5) (fun ds env Q => ds = [] ∧ Q env))))) (wSeq (wIf (wOr (wNot (wTest (wCall0 spec_is_word [] (wArg (wVar 5) (wNil))))) (wTest (wOp gGt (wVar 4) (wC (.int 30))))) (wRet (wC (.bl false))) (wNext)) (wSeq (wIf (wAnd (wTest (wOp gGt (wVar 2) (wC (.int 0)))) (wOr (wTest (wOp gLt (wVar 4) (wC (.int 1)))) (wTest (wOp gGt (wVar 4) (wOp gAdd (wVar 1) (wC (.int 1))))))) (wRet (wC (.bl false))) (wNext)) (wAsg (wVar 4) (gtName 1)))))) (wRet (wC (.bl true)))))
abbrev n_is_tree : Nat := 6
def RowsOk (rows : List Row) : Prop := rows.length ≤ 10000 ∧ ∀ r ∈ rows, r.2.length ≤ 1000 ∧ PyData.strOk r.2 = true
theorem RowsOk.set {rows : List Row} {a : Nat} {r : Row} (h : RowsOk rows) (k : r.2.length ≤ 1000 ∧ PyData.strOk r.2 = true) : RowsOk (rows.set a r) := ⟨by simpa using h.1, fun s hs => by
  rcases List.mem_or_eq_of_mem_set hs with hs | rfl
  · exact h.2 s hs
  · exact k⟩
def spec_is_tree : SpecT := fun ds _ Q => ∃ rows : List Row, ds = [.lst false (rows.map rowD)] ∧ RowsOk rows ∧ ∀ c : Bool, (c = true ↔ TreeP rows) → Q (.bl c)
theorem len_is_tree : ∀ ds px Q, spec_is_tree ds px Q → ds.length = 1 := by
  rintro ds px Q ⟨a, rfl, _⟩; rfl
theorem pure_is_tree : ∀ ds px Q, spec_is_tree ds px Q → ws_is_tree (PEnds.top Q) px (start0 6 ds) := by
  rintro ds px Q ⟨rows, rfl, hw, q⟩
  have qf : ¬ TreeP rows → Q (.bl false) := fun h => q false ⟨fun z => Bool.noConfusion z, fun z => absurd z h⟩
  have qt : TreeP rows → Q (.bl true) := fun h => q true ⟨fun _ => h, fun _ => rfl⟩
  show ws_is_tree (PEnds.top Q) px [some (.lst false (rows.map rowD)), none, none, none, none, none]
  unfold ws_is_tree
  walk_at "tm"
  by_cases h0 : rows.length = 0
  · rw [if_pos (by omega)]
    exact qf fun t => t.ne (List.length_eq_zero_iff.mp h0)
  rw [if_neg (by omega)]
  by_cases h1 : 200 < (rows.length : Int)
  · rw [if_pos h1]
    exact qf fun t => by have := t.most; omega
  rw [if_neg h1]
  obtain ⟨r0, rs, e0⟩ : ∃ r0 rs, rows = r0 :: rs := by
    cases rows with
    | nil => exact absurd rfl h0
    | cons a b => exact ⟨a, b, rfl⟩
  have g0 : rows[0]? = some r0 := by rw [e0]; rfl
  refine atK_of (d := .tup [.int r0.1, .str r0.2]) (map_at (f := rowD) (j := 0) rfl g0) rfl ?_
  walk_at "tm"
  by_cases h2 : r0.1 = 0
  · rw [if_neg (by simp [h2])]
    refine ⟨rowsD_dirty rows, fun i env => ∃ (last : Int) (x2 x3 x4 x5 : Option D), env = [some (.lst false (rows.map rowD)), some (.int last), x2, x3, x4, x5] ∧ (∀ j < i, ∀ r, rows[j]? = some r → isW r.2 = true ∧ r.1 ≤ 30) ∧ (∀ j, j + 1 < i → ∀ r p, rows[j + 1]? = some r → rows[j]? = some p → 1 ≤ r.1 ∧ r.1 ≤ p.1 + 1) ∧ (0 < i → ∃ p, rows[i - 1]? = some p ∧ p.1 = last), ⟨0, _, _, _, _, rfl, fun j hj => by omega, fun j hj => by omega, fun hj => by omega⟩, ?_, ?_⟩
    · rintro i d env2 hd ⟨last, x2, x3, x4, x5, rfl, k1, k2, k3⟩
      obtain ⟨r, hr, rfl⟩ := enum_get hd
      have hrl := (hw.2 r (List.mem_of_getElem? hr)).1
      rw [rowD_eq]
      walk_at "tm"
      refine ⟨_, rfl, by omega, ?_⟩
      walk_at "tm"
      by_cases c1 : isW r.2 = true
      · rw [if_neg (by rw [c1]; simp)]
        by_cases c2 : 30 < r.1
        · rw [if_pos c2]
          exact qf fun t => by have := (t.rng i r hr).2; omega
        · rw [if_neg c2]
          by_cases c3 : 0 < i
          · obtain ⟨p, hp, rfl⟩ := k3 c3
            rw [if_pos (by omega)]
            have bad : ¬ (1 ≤ r.1 ∧ r.1 ≤ p.1 + 1) → Q (.bl false) := fun z => qf fun t => z (t.step (i - 1) r p (by rw [show i - 1 + 1 = i from by omega]; exact hr) hp)
            by_cases c4 : r.1 < 1
            · rw [if_pos c4]; exact bad (by omega)
            rw [if_neg c4]
            by_cases c5 : p.1 + 1 < r.1
            · rw [if_pos c5]; exact bad (by omega)
            rw [if_neg c5]
            refine ⟨_, _, _, _, _, rfl, fun j hj s hs => ?_, fun j hj s u hs hu => ?_, fun _ => ⟨r, hr, rfl⟩⟩
            · by_cases e : j < i
              · exact k1 j e s hs
              · rw [show j = i from by omega, hr] at hs; cases hs; exact ⟨c1, by omega⟩
            · by_cases e : j + 1 < i
              · exact k2 j e s u hs hu
              · rw [show j + 1 = i from by omega, hr] at hs; cases hs
                rw [show j = i - 1 from by omega, hp] at hu; cases hu
                exact ⟨by omega, by omega⟩
          · rw [if_neg (by omega)]
            refine ⟨_, _, _, _, _, rfl, fun j hj s hs => ?_, fun j hj s u hs hu => by omega, fun _ => ⟨r, hr, rfl⟩⟩
            rw [show j = i from by omega, hr] at hs; cases hs; exact ⟨c1, by omega⟩
      · rw [if_pos (by simpa using c1)]
        exact qf fun t => c1 (t.rng i r hr).1
    · rintro env2 ⟨last, x2, x3, x4, x5, rfl, k1, k2, k3⟩
      rw [enumD_len, List.length_map] at k1 k2 k3
      walk_at "tm"
      refine qt ⟨by rw [e0]; simp, by omega, fun r hr => by rw [g0] at hr; cases hr; exact h2, fun j r hr => k1 j (List.getElem?_eq_some_iff.mp hr).1 r hr, fun j r p hr hp => k2 j (List.getElem?_eq_some_iff.mp hr).1 r p hr hp⟩
  · rw [if_pos (by simp [h2])]
    exact qf fun t => h2 (t.first r0 g0)


theorem TreeL.p {rows : List Row} (t : TreeL rows) (hl : rows.length ≤ 200) : TreeP rows := by
  obtain ⟨w, r, e⟩ := t.first
  refine ⟨by rw [e]; simp, hl, fun r h => by rw [e] at h; cases h; rfl, fun j r h => ?_, t.step⟩
  have := t.rng r (List.mem_of_getElem? h)
  exact ⟨isW_iff.mpr this.1, this.2.2⟩

/-! kin in a tree -/
def dp (rows : List Row) (n : Nat) : Int := ((rows[n]?).map (·.1)).getD 0
theorem dp_of {rows : List Row} {n : Nat} {r : Row} (h : rows[n]? = some r) : dp rows n = r.1 := by unfold dp; rw [h]; rfl
theorem row_at {rows : List Row} {n : Nat} {k : Int} (e : k = (n : Int)) (h : n < rows.length) : ∃ w, atI (rows.map rowD) k = some (.tup [.int (dp rows n), .str w]) := by
  have g : rows[n]? = some rows[n] := List.getElem?_eq_getElem h
  exact ⟨rows[n].2, by rw [map_at (f := rowD) e g, rowD_eq, dp_of g]⟩
theorem dp_rng {rows : List Row} (t : TreeL rows) {n : Nat} (h : n < rows.length) : 0 ≤ dp rows n ∧ dp rows n ≤ 30 ∧ (0 < n → 1 ≤ dp rows n ∧ dp rows n ≤ dp rows (n - 1) + 1) ∧ (n = 0 → dp rows n = 0) := by
  have g : rows[n]? = some rows[n] := List.getElem?_eq_getElem h
  rw [dp_of g]
  have hr := t.rng rows[n] (List.getElem_mem _)
  refine ⟨hr.2.1, hr.2.2, fun h0 => ?_, fun h0 => ?_⟩
  · have g2 : rows[n - 1]? = some rows[n - 1] := List.getElem?_eq_getElem (by omega)
    rw [dp_of g2]
    exact t.step (n - 1) _ _ (by rw [show n - 1 + 1 = n from by omega]; exact g) g2
  · subst h0
    obtain ⟨w, r, e⟩ := t.first
    simp [e]

structure EndP (rows : List Row) (n s : Nat) : Prop where
  lt : n < s
  le : s ≤ rows.length
  mid : ∀ j, n < j → j < s → dp rows n < dp rows j
  stop : s < rows.length → dp rows s ≤ dp rows n
theorem EndP.uniq {rows : List Row} {n s t : Nat} (h : EndP rows n s) (k : EndP rows n t) : s = t := by
  by_cases c : s < t
  · have := k.mid s h.lt c
    have := h.stop (by have := k.le; omega)
    omega
  · by_cases d : t < s
    · have := h.mid t k.lt d
      have := k.stop (by have := h.le; omega)
      omega
    · omega

def yl (rows : List Row) (n s : Nat) : List Nat := (List.range rows.length).filter fun k => decide (n < k ∧ k < s ∧ dp rows k = dp rows n + 1)
theorem yl_len {rows : List Row} {n s : Nat} : (yl rows n s).length ≤ rows.length := by
  have h := List.length_filter_le (fun k => decide (n < k ∧ k < s ∧ dp rows k = dp rows n + 1)) (List.range rows.length)
  rw [List.length_range] at h
  exact h
theorem range_cut (a b n : Nat) (p : Nat → Bool) (hb : b ≤ n) : (List.range n).filter (fun k => decide (a ≤ k ∧ k < b) && p k) = ((List.range (b - a)).filter fun i => p (a + i)).map (a + ·) := by
  by_cases hab : a ≤ b
  · have e : List.range n = (List.range a ++ (List.range (b - a)).map (a + ·)) ++ (List.range (n - b)).map (b + ·) := by
      have e1 : List.range (a + (b - a)) = List.range a ++ (List.range (b - a)).map (a + ·) := List.range_add
      have e2 : List.range (b + (n - b)) = List.range b ++ (List.range (n - b)).map (b + ·) := List.range_add
      rw [show a + (b - a) = b from by omega] at e1
      rw [show b + (n - b) = n from by omega] at e2
      rw [e2, e1]
    rw [e, List.filter_append, List.filter_append]
    have z1 : (List.range a).filter (fun k => decide (a ≤ k ∧ k < b) && p k) = [] := List.filter_eq_nil_iff.mpr fun k hk => by
      have := List.mem_range.mp hk
      simp; omega
    have z2 : ((List.range (n - b)).map (b + ·)).filter (fun k => decide (a ≤ k ∧ k < b) && p k) = [] := List.filter_eq_nil_iff.mpr fun k hk => by
      obtain ⟨i, _, rfl⟩ := List.mem_map.mp hk
      simp; omega
    rw [z1, z2, List.nil_append, List.append_nil, List.filter_map]
    congr 1
    refine List.filter_congr fun i hi => ?_
    have := List.mem_range.mp hi
    have : (a ≤ a + i ∧ a + i < b) := by omega
    simp [this]
  · rw [show b - a = 0 from by omega]
    simp only [List.range_zero, List.filter_nil, List.map_nil]
    exact List.filter_eq_nil_iff.mpr fun k hk => by simp; omega
theorem yl_cut {rows : List Row} {n s : Nat} (hs : s ≤ rows.length) : yl rows n s = ((List.range (s - (n + 1))).filter fun i => decide (dp rows (n + 1 + i) = dp rows n + 1)).map (n + 1 + ·) := by
  rw [← range_cut (n + 1) s rows.length (fun k => decide (dp rows k = dp rows n + 1)) hs]
  unfold yl
  refine List.filter_congr fun k _ => ?_
  rw [Bool.eq_iff_iff]
  simp only [Bool.and_eq_true, decide_eq_true_eq]
  constructor
  · rintro ⟨h1, h2, h3⟩; exact ⟨⟨by omega, h2⟩, h3⟩
  · rintro ⟨⟨h1, h2⟩, h3⟩; exact ⟨by omega, h2, h3⟩
def nD (k : Nat) : D := .int k

theorem nD_dirty (xs : List Nat) : dirtys (xs.map nD) = false := dirtys_mapI (f := nD) (fun o => rfl) xs
theorem nD_fz (xs : List Nat) : fzs (xs.map nD) = xs.map nD := fzs_mapI (f := nD) (fun o => rfl) xs
theorem nD_fit {o : Bool} (xs : List Nat) : shD (.lst o (xs.map nD)) = true := shD_of 64 (by
  simp only [okd]
  rw [okds_mapI]
  · rfl
  · intro r hr; rfl) (by decide)
theorem nD_eq {o p : Bool} (a b : List Nat) : eqD (.lst o (a.map nD)) (.lst p (b.map nD)) = decide (a = b) := eqD_dec (noBs_mapI (f := nD) (fun _ => rfl) a) (noBs_mapI (f := nD) (fun _ => rfl) b) (by
  show D.lst false _ = D.lst false _ ↔ _
  rw [D.lst.injEq, cans_mapI (f := nD) (fun _ => rfl), cans_mapI (f := nD) (fun _ => rfl), map_inj' (fun x y h => by cases h; rfl)]; simp)

def oI : Option Nat → D
  | none => .non
  | some e => .int e
def Eld (rows : List Row) (n : Nat) : Option Nat → Prop
  | none => ∀ j < n, dp rows n ≤ dp rows j
  | some e => e < n ∧ dp rows e < dp rows n ∧ ∀ j, e < j → j < n → dp rows n ≤ dp rows j
theorem Eld.uniq {rows : List Row} {n : Nat} {o p : Option Nat} (h : Eld rows n o) (k : Eld rows n p) : o = p := by
  cases o with
  | none =>
    cases p with
    | none => rfl
    | some e => exact absurd (h e k.1) (by have := k.2.1; omega)
  | some e =>
    cases p with
    | none => exact absurd (k e h.1) (by have := h.2.1; omega)
    | some f =>
      obtain ⟨h1, h2, h3⟩ := h
      obtain ⟨k1, k2, k3⟩ := k
      by_cases c : e < f
      · have := h3 f c k1; omega
      · by_cases d : f < e
        · have := k3 e d h1; omega
        · rw [show e = f from by omega]

/-- the law's own walk: the elder is one less deep -/
def EldS (rows : List Row) (n : Nat) : Option Nat → Prop
  | none => ∀ j < n, dp rows n ≤ dp rows j
  | some e => e < n ∧ dp rows e + 1 = dp rows n ∧ ∀ j, e < j → j < n → dp rows n ≤ dp rows j
theorem EldS.eld {rows : List Row} {n : Nat} {o : Option Nat} (h : EldS rows n o) : Eld rows n o := by
  cases o with
  | none => exact h
  | some e => exact ⟨h.1, by have := h.2.1; omega, h.2.2⟩
structure Elders (rows : List Row) (els : List (Option Nat)) : Prop where
  len : els.length = rows.length
  ok : ∀ (n : Nat) o, els[n]? = some o → EldS rows n o
structure WayP (rows : List Row) (way : List Nat) (n : Nat) : Prop where
  lt : ∀ (k : Nat) w, way[k]? = some w → w < n ∧ dp rows w = (k : Int) ∧ ∀ j, w < j → j < n → (k : Int) < dp rows j
  len : 0 < n → (way.length : Int) = dp rows (n - 1) + 1
theorem way_step {rows : List Row} (t : TreeL rows) {way : List Nat} {n : Nat} (h : WayP rows way n) (hn : n < rows.length) : WayP rows (way.take (dp rows n).toNat ++ [n]) (n + 1) ∧ EldS rows n (way.take (dp rows n).toNat).getLast? := by
  obtain ⟨d0, d30, d1, dz⟩ := dp_rng t hn
  have hl : (way.take (dp rows n).toNat).length = (dp rows n).toNat := by
    rw [List.length_take]
    by_cases c : 0 < n
    · have := h.len c
      have := d1 c
      omega
    · have := dz (by omega); omega
  generalize hd : (dp rows n).toNat = d at hl
  have hd' : dp rows n = (d : Int) := by omega
  refine ⟨⟨fun k w hk => ?_, fun _ => ?_⟩, ?_⟩
  · by_cases c : k < d
    · rw [List.getElem?_append_left (by omega), List.getElem?_take, if_pos c] at hk
      obtain ⟨h1, h2, h3⟩ := h.lt k w hk
      refine ⟨by omega, h2, fun j hj1 hj2 => ?_⟩
      by_cases e : j = n
      · rw [e, hd']; omega
      · exact h3 j hj1 (by omega)
    · rw [List.getElem?_append_right (by omega), hl] at hk
      have hk0 : k - d = 0 := by
        have := (List.getElem?_eq_some_iff.mp hk).1
        simp at this; omega
      rw [hk0] at hk
      simp at hk; subst hk
      exact ⟨by omega, by omega, fun j hj1 hj2 => by omega⟩
  · rw [List.length_append, hl, Nat.add_sub_cancel, hd']; rfl
  · cases e : (way.take d).getLast? with
    | none =>
      rw [List.getLast?_eq_none_iff] at e
      rw [e] at hl
      simp at hl
      intro j hj
      have hjl : j < rows.length := by omega
      have := (dp_rng t hjl).1
      omega
    | some w =>
      rw [List.getLast?_eq_getElem?, hl] at e
      have hdp : 0 < d := by
        rw [List.getElem?_take] at e
        split at e
        · omega
        · cases e
      rw [List.getElem?_take, if_pos (by omega)] at e
      obtain ⟨h1, h2, h3⟩ := h.lt (d - 1) w e
      exact ⟨h1, by rw [h2, hd']; omega, fun j hj1 hj2 => by have := h3 j hj1 hj2; omega⟩
theorem oI_dirty (els : List (Option Nat)) : dirtys (els.map oI) = false := dirtys_mapI (f := oI) (fun o => by cases o <;> rfl) els
theorem oI_fz (els : List (Option Nat)) : fzs (els.map oI) = els.map oI := fzs_mapI (f := oI) (fun o => by cases o <;> rfl) els
theorem oI_selfc (els : List (Option Nat)) : selfcs (els.map oI) = true := selfcs_mapI (f := oI) (fun o => by cases o <;> rfl) els

theorem pD_eq {p : Int × Int} : pD p = .tup [.int p.1, .int p.2] := rfl
theorem pD_inj {a b : Int × Int} (h : pD a = pD b) : a = b := by
  obtain ⟨a1, a2⟩ := a
  obtain ⟨b1, b2⟩ := b
  simp [pD] at h
  rw [h.1, h.2]
theorem psD_dirty (ps : List (Int × Int)) : dirtys (ps.map pD) = false := dirtys_mapI (f := pD) (fun _ => rfl) ps
theorem psD_fz (ps : List (Int × Int)) : fzs (ps.map pD) = ps.map pD := fzs_mapI (f := pD) (fun _ => rfl) ps
theorem psD_selfc (ps : List (Int × Int)) : selfcs (ps.map pD) = true := selfcs_mapI (f := pD) (fun _ => rfl) ps
theorem psD_noB (ps : List (Int × Int)) : noBs (ps.map pD) = true := noBs_mapI (f := pD) (fun _ => rfl) ps
theorem psD_okd (ps : List (Int × Int)) : okds (ps.map pD) 10 = true := okds_mapI _ fun _ _ => rfl
theorem psD_fit {ps : List (Int × Int)} {o : Bool} : shD (.lst o (ps.map pD)) = true := shD_of 64 (by
  simp only [okd]
  rw [okds_mapI]
  · rfl
  · intro r hr; rfl) (by decide)
theorem psD_eq {a b : List (Int × Int)} {o p : Bool} : eqD (.lst o (a.map pD)) (.lst p (b.map pD)) = decide (a = b) := eqD_dec (psD_noB a) (psD_noB b) (by
  show D.lst false _ = D.lst false _ ↔ _
  rw [D.lst.injEq, cans_mapI (f := pD) (fun _ => rfl), cans_mapI (f := pD) (fun _ => rfl), map_inj' (fun _ _ => pD_inj)]; simp)
theorem pD_fit {p : Int × Int} : shD (.tup [.int p.1, .int p.2]) = true := shD_of 10 rfl (by decide)
theorem pD_eqD {a b : Int × Int} : eqD (.tup [.int a.1, .int a.2]) (.tup [.int b.1, .int b.2]) = decide (a = b) := eqD_dec rfl rfl (by
  obtain ⟨a1, a2⟩ := a
  obtain ⟨b1, b2⟩ := b
  simp [can, cans])
theorem psD_any {q : Int × Int} : ∀ {ps : List (Int × Int)}, (ps.map pD).any (fun z => eqD z (.tup [.int q.1, .int q.2])) = decide (q ∈ ps)
  | [] => rfl
  | p :: ps => by
    rw [List.map_cons, List.any_cons, psD_any, pD_eq, pD_eqD]
    by_cases c : p = q
    · simp [c]
    · have : ¬ q = p := fun z => c z.symm
      simp [c, this]
theorem psD_cut (ps : List (Int × Int)) (n : Nat) : Tm.cutD (ps.map pD) none (some (n : Int)) = (ps.take n).map pD := by rw [List.map_take]; exact cutD_to (n := n)
theorem psD_cutF (ps : List (Int × Int)) (n : Nat) : Tm.cutD (ps.map pD) (some (n : Int)) none = (ps.drop n).map pD := by rw [List.map_drop]; exact cutD_from (n := n)

--@here
def ws_elder_list : WS := wSeq (wAsg (wLst (wNil)) (gtName 1)) (wSeq (wAsg (wLst (wNil)) (gtName 2)) (wSeq (wFor (itsE (wArg (wVar 0) (wNil))) (gtTup 2 (gtCons (gtName 3) (gtCons (gtName 4) (fun ds env Q => ds = [] ∧ Q env)))) (wSeq (wAsg (wSl (wVar 2) (wNo) (wPart (wOp gIx (wVar 4) (wC (.int 0))))) (gtName 2)) (wSeq (wIf (wTest (wOp gGt (wB gLen (wArg (wVar 2) (wNil))) (wC (.int 0)))) (wApp 1 (wOp gIx (wVar 2) (wUn gNeg (wC (.int 1))))) (wApp 1 (wC .non))) (wApp 2 (wVar 3))))) (wRet (wMov 1))))
abbrev n_elder_list : Nat := 5
def spec_elder_list : SpecT := fun ds _ Q => ∃ (rows : List Row), ds = [.lst false (rows.map rowD)] ∧ TreeL rows ∧ rows.length ≤ 10000 ∧ ∀ els, Elders rows els → Q (.lst true (els.map oI))
theorem len_elder_list : ∀ ds px Q, spec_elder_list ds px Q → ds.length = 1 := by
  rintro ds px Q ⟨a, rfl, _⟩; rfl
theorem pure_elder_list : ∀ ds px Q, spec_elder_list ds px Q → ws_elder_list (PEnds.top Q) px (start0 5 ds) := by
  rintro ds px Q ⟨rows, rfl, t, hl, q⟩
  show ws_elder_list (PEnds.top Q) px [some (.lst false (rows.map rowD)), none, none, none, none]
  unfold ws_elder_list
  walk_at "tm"
  refine ⟨rowsD_dirty _, fun i env => ∃ (els : List (Option Nat)) (way : List Nat) (x3 x4 : Option D), env = [some (.lst false (rows.map rowD)), some (.lst true (els.map oI)), some (.lst true (way.map nD)), x3, x4] ∧ els.length = i ∧ (∀ (n : Nat) o, els[n]? = some o → EldS rows n o) ∧ WayP rows way i, ⟨[], [], _, _, rfl, rfl, fun n o h => by simp at h, fun k w h => by simp at h, fun h => by omega⟩, ?_, ?_⟩
  · rintro i d env2 hd ⟨els, way, x3, x4, rfl, h1, h2, h3⟩
    obtain ⟨r, hr, rfl⟩ := enum_get hd
    have hi' : i < rows.length := (List.getElem?_eq_some_iff.mp hr).1
    have hdp := dp_of hr
    obtain ⟨d0, d30, _⟩ := dp_rng t hi'
    obtain ⟨s1, s2⟩ := way_step t h3 hi'
    rw [rowD_eq, ← hdp]
    walk_at "tm"
    have ec : Tm.cutD (way.map nD) none (some (dp rows i)) = (way.take (dp rows i).toNat).map nD := by
      rw [show dp rows i = ((dp rows i).toNat : Int) from by omega, cutD_to, ← List.map_take]; rfl
    rw [ec]
    generalize way.take (dp rows i).toNat = way2 at s1 s2
    have hw := s1.len (by omega)
    rw [List.length_append, Nat.add_sub_cancel] at hw
    have hw2 : way2.length ≤ 30 := by simp at hw; omega
    have next : ∀ o, EldS rows i o → (els ++ [o]).length = i + 1 ∧ (∀ (n : Nat) p, (els ++ [o])[n]? = some p → EldS rows n p) := fun o ho => by
      refine ⟨by simp [h1], fun n p hp => ?_⟩
      by_cases c : n < els.length
      · rw [List.getElem?_append_left c] at hp
        exact h2 n p hp
      · rw [List.getElem?_append_right (by omega)] at hp
        have hz : n - els.length = 0 := by
          have := (List.getElem?_eq_some_iff.mp hp).1
          simp at this; omega
        rw [hz] at hp
        simp at hp; subst hp
        rw [show n = i from by omega]; exact ho
    have ew : way2.map nD ++ [D.int (i : Int)] = (way2 ++ [i]).map nD := by simp [nD]
    refine ⟨nD_dirty _, ?_⟩
    rw [ew]
    cases e : way2.getLast? with
    | none =>
      rw [e] at s2
      have e0 : way2 = [] := List.getLast?_eq_none_iff.mp e
      subst e0
      rw [if_neg (by simp)]
      obtain ⟨n1, n2⟩ := next none s2
      have es : els.map oI ++ [D.non] = (els ++ [none]).map oI := by simp [oI]
      rw [es]
      exact ⟨by omega, by simp, els ++ [none], _, _, _, rfl, n1, n2, s1⟩
    | some w =>
      rw [e] at s2
      have e0 : 0 < way2.length := by
        cases way2 with
        | nil => cases e
        | cons a b => simp
      rw [if_pos (by rw [List.length_map]; omega)]
      refine atK_of (d := nD w) (atI_last' (by rw [List.getLast?_map, e]; rfl)) rfl ?_
      obtain ⟨n1, n2⟩ := next (some w) s2
      have es : els.map oI ++ [nD w] = (els ++ [some w]).map oI := by simp [oI, nD]
      walk_at "tm"
      rw [es]
      exact ⟨by omega, by omega, els ++ [some w], _, _, _, rfl, n1, n2, s1⟩
  · rintro env2 ⟨els, way, x3, x4, rfl, h1, h2, h3⟩
    rw [enumD_len, List.length_map] at h1
    walk_at "tm"
    exact q els ⟨h1, h2⟩
/-! what a pairing is -/
def StepOK (one other : List Row) (ps : List (Int × Int)) (k : Nat) : Prop := ∃ (p l : Int × Int) (a b : Nat), ps[k]? = some p ∧ ps[k - 1]? = some l ∧ l.1 < p.1 ∧ l.2 < p.2 ∧ p.1 < one.length ∧ p.2 < other.length ∧ Eld one p.1.toNat (some a) ∧ Eld other p.2.toNat (some b) ∧ ((a : Int), (b : Int)) ∈ ps.take k
structure Upto (one other : List Row) (ps : List (Int × Int)) (i : Nat) : Prop where
  z : ps[0]? = some (0, 0)
  st : ∀ k, 0 < k → k ≤ i → StepOK one other ps k
def GoodP (one other : List Row) (ps : List (Int × Int)) : Prop := ps[0]? = some (0, 0) ∧ ∀ k, 0 < k → k < ps.length → StepOK one other ps k
theorem Upto.pos {one other : List Row} {ps : List (Int × Int)} {i : Nat} (h : Upto one other ps i) : ∀ (j : Nat) p, j ≤ i → ps[j]? = some p → 0 ≤ p.1 ∧ 0 ≤ p.2
  | 0, p, _, e => by rw [h.z] at e; cases e; simp
  | j + 1, p, hj, e => by
    obtain ⟨p', l, a, b, e1, e2, h1, h2, _⟩ := h.st (j + 1) (by omega) hj
    rw [e] at e1; cases e1
    have := h.pos j l (by omega) e2
    omega
theorem Upto.rise {one other : List Row} {ps : List (Int × Int)} {i : Nat} (h : Upto one other ps i) : ∀ (d j : Nat) p q, j + d ≤ i → ps[j]? = some p → ps[j + d]? = some q → p.1 ≤ q.1
  | 0, j, p, q, _, e1, e2 => by rw [Nat.add_zero, e1] at e2; cases e2; omega
  | d + 1, j, p, q, hj, e1, e2 => by
    obtain ⟨q', l, a, b, g1, g2, h1, h2, _⟩ := h.st (j + (d + 1)) (by omega) hj
    rw [e2] at g1; cases g1
    have := h.rise d j p l (by omega) e1 g2
    omega
theorem Upto.top {one other : List Row} {ps : List (Int × Int)} {i : Nat} (h : Upto one other ps i) {p l : Int × Int} (hl : ps[i]? = some l) (hp : p ∈ ps.take (i + 1)) : p.1 ≤ l.1 := by
  obtain ⟨j, hj, e⟩ := List.getElem_of_mem hp
  rw [List.length_take] at hj
  have e : ps[j]? = some p := by
    rw [List.getElem_take] at e
    rw [List.getElem?_eq_getElem (by omega), e]
  exact h.rise (i - j) j p l (by omega) e (by rw [show j + (i - j) = i from by omega]; exact hl)
theorem Upto.good {one other : List Row} {ps : List (Int × Int)} {i : Nat} (h : Upto one other ps i) (hi : ps.length ≤ i + 1) : GoodP one other ps := ⟨h.z, fun k h0 h1 => h.st k h0 (by omega)⟩
theorem Upto.one {one other : List Row} {ps : List (Int × Int)} (h : ps[0]? = some (0, 0)) : Upto one other ps 0 := ⟨h, fun k h0 h1 => by omega⟩
theorem Upto.next {one other : List Row} {ps : List (Int × Int)} {i : Nat} (h : Upto one other ps i) (s : StepOK one other ps (i + 1)) : Upto one other ps (i + 1) := ⟨h.z, fun k h0 h1 => by
  by_cases c : k ≤ i
  · exact h.st k h0 c
  · rw [show k = i + 1 from by omega]; exact s⟩
theorem eld_some {rows : List Row} (t : TreeL rows) {n : Nat} (h0 : 0 < n) (hn : n < rows.length) {o : Option Nat} (h : Eld rows n o) : ∃ a, o = some a := by
  cases o with
  | some a => exact ⟨a, rfl⟩
  | none =>
    have h1 := h 0 h0
    have h2 := (dp_rng t hn).2.2.1 h0
    have h3 := (dp_rng t (n := 0) (by omega)).2.2.2 rfl
    omega
def ws_is_pairing : WS := wSeq (wIf (wTest (wOp gNe (wB gList (wArg (wSl (wVar 2) (wNo) (wPart (wC (.int 1)))) (wNil))) (wLst (wItm (wTup (wItm (wC (.int 0)) (wItm (wC (.int 0)) (wNil)))) (wNil))))) (wRet (wC (.bl false))) (wNext)) (wSeq (wAsg (wCall0 spec_elder_list [] (wArg (wVar 0) (wNil))) (gtName 3)) (wSeq (wAsg (wCall0 spec_elder_list [] (wArg (wVar 1) (wNil))) (gtName 4)) (wSeq (wAsg (wDisp1 (wC (.int 0)) (wC (.int 0))) (gtName 5)) (wSeq (wAsg (wTup (wItm (wC (.int 0)) (wItm (wC (.int 0)) (wNil)))) (gtName 6)) (wSeq (wFor (itsL (wSl (wVar 2) (wPart (wC (.int 1))) (wNo))) (gtTup 2 (gtCons (gtName 7) (gtCons (gtName 8) (fun ds env Q => ds = [] ∧ Q env)))) (wSeq (wIf (wOr (wTest (wOp gLe (wVar 7) (wOp gIx (wVar 6) (wC (.int 0))))) (wOr (wTest (wOp gLe (wVar 8) (wOp gIx (wVar 6) (wC (.int 1))))) (wOr (wTest (wOp gGe (wVar 7) (wB gLen (wArg (wVar 0) (wNil))))) (wTest (wOp gGe (wVar 8) (wB gLen (wArg (wVar 1) (wNil)))))))) (wRet (wC (.bl false))) (wNext)) (wSeq (wIf (wTest (wOp gNe (wDGet1 (wVar 5) (wOp gIx (wVar 3) (wVar 7))) (wOp gIx (wVar 4) (wVar 8)))) (wRet (wC (.bl false))) (wNext)) (wSeq (wDPut 5 (wVar 8) (wVar 7)) (wAsg (wTup (wItm (wVar 7) (wItm (wVar 8) (wNil)))) (gtName 6)))))) (wRet (wC (.bl true))))))))
abbrev n_is_pairing : Nat := 9
def spec_is_pairing : SpecT := fun ds _ Q => ∃ (one other : List Row) (ps : List (Int × Int)), ds = [.lst false (one.map rowD), .lst false (other.map rowD), .lst false (ps.map pD)] ∧ TreeL one ∧ TreeL other ∧ one.length ≤ 10000 ∧ other.length ≤ 10000 ∧ ps.length ≤ 1000 ∧ ∀ b : Bool, (b = true ↔ GoodP one other ps) → Q (.bl b)
theorem len_is_pairing : ∀ ds px Q, spec_is_pairing ds px Q → ds.length = 3 := by
  rintro ds px Q ⟨a, b, c, rfl, _⟩; rfl
theorem take1 {ps : List (Int × Int)} : ps.take 1 = [(0, 0)] ↔ ps[0]? = some (0, 0) := by
  cases ps with
  | nil => simp
  | cons a b => simp
theorem pure_is_pairing : ∀ ds px Q, spec_is_pairing ds px Q → ws_is_pairing (PEnds.top Q) px (start0 n_is_pairing ds) := by
  rintro ds px Q ⟨one, other, ps, rfl, t1, t2, hl1, hl2, hps, q⟩
  have qf : ¬ GoodP one other ps → Q (.bl false) := fun h => q false ⟨fun z => Bool.noConfusion z, fun z => absurd z h⟩
  have qt : GoodP one other ps → Q (.bl true) := fun h => q true ⟨fun _ => h, fun _ => rfl⟩
  show ws_is_pairing (PEnds.top Q) px [some (.lst false (one.map rowD)), some (.lst false (other.map rowD)), some (.lst false (ps.map pD)), none, none, none, none, none, none]
  unfold ws_is_pairing
  walk_at "tm"
  have c1 : Tm.cutD (ps.map pD) none (some 1) = (ps.take 1).map pD := psD_cut ps 1
  have c2 : Tm.cutD (ps.map pD) (some 1) none = (ps.drop 1).map pD := psD_cutF ps 1
  have e0 : [D.tup [.int 0, .int 0]] = [((0, 0) : Int × Int)].map pD := rfl
  rw [c1, c2, e0, psD_eq]
  refine ⟨psD_dirty _, psD_dirty _, psD_fit, psD_fit, ?_⟩
  by_cases hz : ps[0]? = some (0, 0)
  · rw [if_neg (by rw [decide_eq_true (take1.mpr hz)]; simp)]
    rw [rowsD_fz, rowsD_fz]
    refine ⟨one, rfl, t1, hl1, fun ones E1 => ⟨other, rfl, t2, hl2, fun others E2 => ?_⟩⟩
    have hl0 : 0 < ps.length := (List.getElem?_eq_some_iff.mp hz).1
    refine ⟨psD_dirty _, psD_dirty _, fun i env => ∃ (ks : List L2.Key) (ds : List D) (l : Int × Int) (x7 x8 : Option D), env = [some (.lst false (one.map rowD)), some (.lst false (other.map rowD)), some (.lst false (ps.map pD)), some (.lst true (ones.map oI)), some (.lst true (others.map oI)), some (.dct true (.k ks) ds), some (.tup [.int l.1, .int l.2]), x7, x8] ∧ ps[i]? = some l ∧ Upto one other ps i ∧ ks.length = ds.length ∧ ks.length ≤ i + 1 ∧ dirtys ds = false ∧ (∀ (x : Int) d, lookD ks ds (.inl x) = some d ↔ ∃ w : Int, d = .int w ∧ (x, w) ∈ ps.take (i + 1)), ⟨[.inl 0], [.int 0], (0, 0), _, _, rfl, hz, Upto.one hz, rfl, by simp, rfl, ?_⟩, ?_, ?_⟩
    · intro x d
      rw [take1.mpr hz, lookD]
      by_cases c : x = 0
      · subst c
        simp
        exact ⟨fun h => h.symm, fun h => h.symm⟩
      · rw [if_neg (by simp; omega)]
        have : lookD ([] : List L2.Key) ([] : List D) (.inl x) = none := rfl
        rw [this]
        simp [c]
    · rintro i d env2 hd ⟨ks, ds, l, x7, x8, rfl, hl, U, hkl, hki, hds, hlook⟩
      obtain ⟨p, hp, rfl⟩ := map_get hd
      rw [List.getElem?_drop, Nat.add_comm] at hp
      have hpl := (List.getElem?_eq_some_iff.mp hp).1
      have hpos := U.pos i l (Nat.le_refl _) hl
      rw [pD_eq]
      walk_at "tm"
      have bad : (p.1 ≤ l.1 ∨ p.2 ≤ l.2 ∨ (one.length : Int) ≤ p.1 ∨ (other.length : Int) ≤ p.2) → Q (.bl false) := fun h => qf fun g => by
        obtain ⟨p', l', a, b, e1, e2, h1, h2, h3, h4, _⟩ := g.2 (i + 1) (by omega) hpl
        rw [hp] at e1; cases e1
        rw [Nat.add_sub_cancel, hl] at e2; cases e2
        omega
      by_cases b1 : p.1 ≤ l.1
      · rw [if_pos b1]; exact bad (.inl b1)
      rw [if_neg b1]
      by_cases b2 : p.2 ≤ l.2
      · rw [if_pos b2]; exact bad (.inr (.inl b2))
      rw [if_neg b2]
      by_cases b3 : (one.length : Int) ≤ p.1
      · rw [if_pos b3]; exact bad (.inr (.inr (.inl b3)))
      rw [if_neg b3]
      by_cases b4 : (other.length : Int) ≤ p.2
      · rw [if_pos b4]; exact bad (.inr (.inr (.inr b4)))
      rw [if_neg b4]
      obtain ⟨u, v⟩ := p
      simp only at b1 b2 b3 b4
      obtain ⟨u, rfl⟩ : ∃ n : Nat, u = n := ⟨u.toNat, by omega⟩
      obtain ⟨v, rfl⟩ : ∃ n : Nat, v = n := ⟨v.toNat, by omega⟩
      obtain ⟨o1, g1⟩ : ∃ o, ones[u]? = some o := ⟨_, List.getElem?_eq_getElem (by rw [E1.len]; omega)⟩
      obtain ⟨o2, g2⟩ : ∃ o, others[v]? = some o := ⟨_, List.getElem?_eq_getElem (by rw [E2.len]; omega)⟩
      have l1 := (E1.ok u o1 g1).eld
      have l2 := (E2.ok v o2 g2).eld
      obtain ⟨a, rfl⟩ := eld_some t1 (by omega) (by omega) l1
      obtain ⟨b, rfl⟩ := eld_some t2 (by omega) (by omega) l2
      refine atK_of (d := .int a) (map_at (f := oI) rfl g1) rfl ?_
      walk_at "tm"
      have bad2 : ((a : Int), (b : Int)) ∉ ps.take (i + 1) → Q (.bl false) := fun h => qf fun g => by
        obtain ⟨p', l', a', b', e1, e2, h1, h2, h3, h4, h5, h6, h7⟩ := g.2 (i + 1) (by omega) hpl
        rw [hp] at e1; cases e1
        simp only [Int.toNat_natCast] at h5 h6
        have := l1.uniq h5
        have := l2.uniq h6
        simp only [Option.some.injEq] at *
        subst_vars
        exact h h7
      cases hg : lookD ks ds (.inl (a : Int)) with
      | none =>
        simp only [Option.getD_none]
        refine ⟨rfl, atK_of (d := .int b) (map_at (f := oI) rfl g2) rfl ?_⟩
        walk_at "tm"
        refine bad2 fun h => ?_
        have := (hlook a (.int b)).mpr ⟨b, rfl, h⟩
        rw [hg] at this; cases this
      | some d =>
        obtain ⟨w, rfl, hw⟩ := (hlook a d).mp hg
        simp only [Option.getD_some]
        refine ⟨rfl, atK_of (d := .int b) (map_at (f := oI) rfl g2) rfl ?_⟩
        walk_at "tm"
        by_cases c : w = b
        · subst c
          walk_at "tm"
          have et : ps.take (i + 1 + 1) = ps.take (i + 1) ++ [((u : Int), (v : Int))] := by
            rw [List.take_succ, hp]; rfl
          have stp : StepOK one other ps (i + 1) := ⟨((u : Int), (v : Int)), l, a, b, hp, by rw [Nat.add_sub_cancel]; exact hl, by simp only; omega, by simp only; omega, by simp only; omega, by simp only; omega, l1, l2, hw⟩
          refine ⟨hds, by omega, _, _, ((u : Int), (v : Int)), _, _, rfl, hp, U.next stp, putKs_len _ _ _ _ hkl, by have := putKs_le ks (.inl (u : Int)); omega, putDs_dirty hds rfl, fun x d => ?_⟩
          rw [lookD_put hkl, et]
          by_cases cx : x = u
          · subst cx
            rw [if_pos rfl]
            constructor
            · intro h; cases h
              exact ⟨_, rfl, by simp⟩
            · rintro ⟨w, rfl, hm⟩
              rcases List.mem_append.mp hm with hm | hm
              · have := U.top hl hm
                simp only at this; omega
              · simp at hm; rw [hm]
          · rw [if_neg (by simp; exact cx), hlook x d]
            constructor
            · rintro ⟨w, e, hm⟩
              exact ⟨w, e, List.mem_append_left _ hm⟩
            · rintro ⟨w, e, hm⟩
              rcases List.mem_append.mp hm with hm | hm
              · exact ⟨w, e, hm⟩
              · simp at hm; exact absurd hm.1 cx
        · rw [if_pos (decide_eq_false c)]
          refine bad2 fun h => ?_
          have := (hlook a (.int b)).mpr ⟨b, rfl, h⟩
          rw [hg] at this; cases this
          exact c rfl
    · rintro env2 ⟨ks, ds, l, x7, x8, rfl, hl, U, _⟩
      walk_at "tm"
      refine qt (U.good ?_)
      rw [List.length_map, List.length_drop]; omega
  · rw [if_pos (by rw [decide_eq_false (fun z => hz (take1.mp z))])]
    exact qf fun g => hz g.1

def ws__law_tree : WS := wSeq (wAsg (wLst (wItm (wTup (wItm (wC (.int 0)) (wItm (wC (.str "a")) (wNil)))) (wNil))) (gtName 2)) (wSeq (wFor (its1 (wArg (wB gMin2 (wArg (wB gLen (wArg (wVar 0) (wNil))) (wArg (wVar 1) (wNil)))) (wNil))) (gtName 3) (wSeq (wAsg (wOp gMod (wOp gMul (wOp gIx (wVar 0) (wVar 3)) (wC (.int 48271))) (wC (.int 2147483647))) (gtName 4)) (wSeq (wAsg (wCall0 spec__law_word [] (wArg (wOp gMod (wOp gMul (wOp gIx (wVar 0) (wVar 3)) (wC (.int 69621))) (wC (.int 2147483629))) (wNil))) (gtName 5)) (wIf (wTest (wOp gEq (wVar 3) (wC (.int 0)))) (wAsg (wLst (wItm (wTup (wItm (wC (.int 0)) (wItm (wVar 5) (wNil)))) (wNil))) (gtName 2)) (wApp 2 (wTup (wItm (wOp gAdd (wC (.int 1)) (wOp gMod (wOp gFdiv (wVar 4) (wC (.int 7))) (wOp gAdd (wB gMin2 (wArg (wOp gIx (wOp gIx (wVar 2) (wUn gNeg (wC (.int 1)))) (wC (.int 0))) (wArg (wC (.int 29)) (wNil)))) (wC (.int 1))))) (wItm (wVar 5) (wNil))))))))) (wRet (wMov 2)))
abbrev n__law_tree : Nat := 6
def iL (ns : List Int) : D := .lst false (ns.map D.int)
def spec__law_tree : SpecT := fun ds _ Q => ∃ (ns : List Int) (m : Int), ds = [iL ns, .int m] ∧ ns.length ≤ 10000 ∧ 1 ≤ m ∧ m ≤ 10000 ∧ ∀ rows, TreeL rows → (rows.length : Int) ≤ m → Q (.lst true (rows.map rowD))
theorem len__law_tree : ∀ ds px Q, spec__law_tree ds px Q → ds.length = 2 := by
  rintro ds px Q ⟨a, b, rfl, _⟩; rfl
theorem pure__law_tree : ∀ ds px Q, spec__law_tree ds px Q → ws__law_tree (PEnds.top Q) px (start0 6 ds) := by
  rintro ds px Q ⟨ns, m, rfl, hl, hm1, hm2, q⟩
  show ws__law_tree (PEnds.top Q) px [some (.lst false (ns.map D.int)), some (.int m), none, none, none, none]
  unfold ws__law_tree
  walk_at "tm"
  obtain ⟨n, hn, en⟩ : ∃ n : Nat, n ≤ ns.length ∧ (n : Int) ≤ m ∧ (if m < (ns.length : Int) then m else (ns.length : Int)) = (n : Int) := by
    split
    · exact ⟨m.toNat, by omega, by omega, by omega⟩
    · exact ⟨ns.length, Nat.le_refl _, by omega, rfl⟩
  obtain ⟨hnm, en⟩ := en
  rw [en]
  have wa : Wd (Str.ofString "a") := ⟨by unfold Sg; decide +kernel, by decide +kernel, by decide +kernel⟩
  refine ⟨by omega, by omega, fun i env => ∃ (rows : List Row) (x3 x4 x5 : Option D), env = [some (.lst false (ns.map D.int)), some (.int m), some (.lst true (rows.map rowD)), x3, x4, x5] ∧ TreeL rows ∧ rows.length ≤ i + 1 ∧ (0 < i → rows.length ≤ i), ⟨[(0, Str.ofString "a")], _, _, _, rfl, .one wa, by simp, fun h => by omega⟩, ?_, ?_⟩
  · rintro i d env2 hd ⟨rows, x3, x4, x5, rfl, ht, hr, hr2⟩
    obtain ⟨hi, rfl⟩ := rngD_get hd
    obtain ⟨p, hp, hp0, hp30⟩ := ht.last
    have e1 := atI_ints (ns := ns) (k := 0 + (i : Int)) (by omega) (by omega)
    generalize ns.getD ((0 : Int) + (i : Int)).toNat 0 = c at e1
    rw [show ((0 : Int) + (i : Int)) = (i : Int) from by omega] at e1
    walk_at "tm"
    refine atK_of e1 rfl ?_
    walk_at "tm"
    refine atK_of e1 rfl ?_
    walk_at "tm"
    refine ⟨_, rfl, fun w hw => ?_⟩
    walk_at "tm"
    by_cases z : (i : Int) = 0
    · rw [if_pos z]
      exact ⟨[(0, w)], _, _, _, rfl, .one hw, by simp, fun _ => by simp⟩
    · rw [if_neg z]
      refine atK_of (d := .tup [.int p.1, .str p.2]) (rowsD_last hp) rfl ?_
      walk_at "tm"
      have hmn : (if (29 : Int) < p.1 then (29 : Int) else p.1) = min p.1 29 := by split <;> omega
      rw [hmn]
      have hx := Int.emod_nonneg (c * 48271 % 2147483647 / 7) (b := min p.1 29 + 1) (by omega)
      have hy := Int.emod_lt_of_pos (c * 48271 % 2147483647 / 7) (b := min p.1 29 + 1) (by omega)
      generalize c * 48271 % 2147483647 / 7 % (min p.1 29 + 1) = x at hx hy
      have em : rows.map rowD ++ [D.tup [.int (1 + x), .str w]] = (rows ++ [((1 + x, w) : Row)]).map rowD := by simp [rowD]
      rw [em]
      refine ⟨by omega, by omega, _, _, _, _, rfl, ht.push hp (by omega) (by omega) (by omega) hw, by simp; omega, fun _ => by have := hr2 (by omega); simp; omega⟩
  · rintro env2 ⟨rows, x3, x4, x5, rfl, ht, hr, hr2⟩
    rw [rngD_len] at hr hr2
    walk_at "tm"
    exact q rows ht (by omega)
def ws__law_end : WS := wSeq (wAsg (wOp gAdd (wVar 1) (wC (.int 1))) (gtName 2)) (wSeq (wWhile (wAnd (wTest (wOp gLt (wVar 2) (wB gLen (wArg (wVar 0) (wNil))))) (wTest (wOp gGt (wOp gIx (wOp gIx (wVar 0) (wVar 2)) (wC (.int 0))) (wOp gIx (wOp gIx (wVar 0) (wVar 1)) (wC (.int 0)))))) (wAsg (wOp gAdd (wVar 2) (wC (.int 1))) (gtName 2))) (wRet (wMov 2)))
abbrev n__law_end : Nat := 3
def spec__law_end : SpecT := fun ds _ Q => ∃ (rows : List Row) (n : Nat), ds = [.lst false (rows.map rowD), .int n] ∧ n < rows.length ∧ ∀ s : Nat, EndP rows n s → Q (.int s)
theorem len__law_end : ∀ ds px Q, spec__law_end ds px Q → ds.length = 2 := by
  rintro ds px Q ⟨a, b, rfl, _⟩; rfl
theorem pure__law_end : ∀ ds px Q, spec__law_end ds px Q → ws__law_end (PEnds.top Q) px (start0 3 ds) := by
  rintro ds px Q ⟨rows, n, rfl, h, q⟩
  show ws__law_end (PEnds.top Q) px [some (.lst false (rows.map rowD)), some (.int n), none]
  unfold ws__law_end
  walk_at "tm"
  refine ⟨fun m env => ∃ s : Nat, env = [some (.lst false (rows.map rowD)), some (.int n), some (.int s)] ∧ m = rows.length - s ∧ n < s ∧ s ≤ rows.length ∧ ∀ j, n < j → j < s → dp rows n < dp rows j, ⟨_, n + 1, rfl, rfl, by omega, by omega, fun j h1 h2 => by omega⟩, ?_⟩
  rintro m env2 ⟨s, rfl, rfl, h1, h2, h3⟩
  walk_at "tm"
  by_cases c1 : s < rows.length
  · rw [if_pos (by omega)]
    obtain ⟨w1, e1⟩ := row_at (rows := rows) (n := s) rfl c1
    obtain ⟨w2, e2⟩ := row_at (rows := rows) (n := n) rfl h
    refine atK_of e1 rfl ?_
    walk_at "tm"
    refine atK_of e2 rfl ?_
    walk_at "tm"
    by_cases c2 : dp rows n < dp rows s
    · rw [if_pos c2]
      refine ⟨rows.length - (s + 1), by omega, s + 1, rfl, rfl, by omega, by omega, fun j h4 h5 => ?_⟩
      by_cases e : j = s
      · rw [e]; exact c2
      · exact h3 j h4 (by omega)
    · rw [if_neg c2]
      exact q s ⟨h1, h2, h3, fun _ => by omega⟩
  · rw [if_neg (by omega)]
    exact q s ⟨h1, h2, h3, fun h => absurd h c1⟩
theorem EndP.ex {rows : List Row} {n : Nat} : ∀ (k s : Nat), k = rows.length - s → n < s → s ≤ rows.length → (∀ j, n < j → j < s → dp rows n < dp rows j) → ∃ e, EndP rows n e
  | 0, s, hk, h1, h2, h3 => ⟨s, h1, h2, h3, fun h => by omega⟩
  | k + 1, s, hk, h1, h2, h3 => by
    by_cases c : dp rows n < dp rows s
    · refine EndP.ex k (s + 1) (by omega) (by omega) (by omega) fun j h4 h5 => ?_
      by_cases e : j = s
      · rw [e]; exact c
      · exact h3 j h4 (by omega)
    · exact ⟨s, h1, h2, h3, fun _ => by omega⟩
def ws__law_young : WS := wSeq (wAsg (wOp gAdd (wOp gIx (wOp gIx (wVar 0) (wVar 1)) (wC (.int 0))) (wC (.int 1))) (gtName 2)) (wRet (wLc (its2 (wArg (wOp gAdd (wVar 1) (wC (.int 1))) (wArg (wCall0 spec__law_end [] (wArg (wVar 0) (wArg (wVar 1) (wNil)))) (wNil)))) (gtName 3) (wTest (wOp gEq (wOp gIx (wOp gIx (wVar 0) (wVar 3)) (wC (.int 0))) (wVar 2))) (wVar 3) [3]))
abbrev n__law_young : Nat := 4
def spec__law_young : SpecT := fun ds _ Q => ∃ (rows : List Row) (n : Nat), ds = [.lst false (rows.map rowD), .int n] ∧ n < rows.length ∧ rows.length ≤ 10000 ∧ ∀ s : Nat, EndP rows n s → Q (.lst true ((yl rows n s).map nD))
theorem len__law_young : ∀ ds px Q, spec__law_young ds px Q → ds.length = 2 := by
  rintro ds px Q ⟨a, b, rfl, _⟩; rfl
theorem pure__law_young : ∀ ds px Q, spec__law_young ds px Q → ws__law_young (PEnds.top Q) px (start0 4 ds) := by
  rintro ds px Q ⟨rows, n, rfl, h, hl, q⟩
  show ws__law_young (PEnds.top Q) px [some (.lst false (rows.map rowD)), some (.int n), none, none]
  unfold ws__law_young
  obtain ⟨w2, e2⟩ := row_at (rows := rows) (n := n) rfl h
  walk_at "tm"
  refine atK_of e2 rfl ?_
  walk_at "tm"
  rw [rowsD_fz]
  refine ⟨rows, n, rfl, h, fun s hs => ?_⟩
  have hs1 := hs.lt
  have hs2 := hs.le
  walk_at "tm"
  have ez : ((s : Int) - ((n : Int) + 1)).toNat = s - (n + 1) := by omega
  rw [ez]
  refine ⟨⟨by omega, by omega⟩, lcW_map (f := fun i : Nat => .int ((n : Int) + 1 + (i : Int))) (fun i => decide (dp rows (n + 1 + i) = dp rows n + 1)) (fun i : Nat => .int ((n : Int) + 1 + (i : Int))) (List.range (s - (n + 1))) [] (by simp; omega) ?_ ?_⟩
  · rintro i hi Y N hy hn
    have hi := List.mem_range.mp hi
    walk_at "tm"
    obtain ⟨w1, e1⟩ := row_at (rows := rows) (n := n + 1 + i) (k := (n : Int) + 1 + (i : Int)) (by omega) (by omega)
    refine atK_of e1 rfl ?_
    walk_at "tm"
    by_cases c : dp rows (n + 1 + i) = dp rows n + 1
    · rw [if_pos c]
      exact hy (decide_eq_true c)
    · rw [if_neg c]
      exact hn (decide_eq_false c)
  · have q := q s hs
    rw [yl_cut hs2, List.map_map] at q
    rw [List.nil_append]
    have ef : (fun i : Nat => D.int ((n : Int) + 1 + (i : Int))) = nD ∘ (n + 1 + ·) := by
      funext i
      show D.int _ = D.int _
      rw [Int.natCast_add, Int.natCast_add]; rfl
    rw [ef]; exact q
def ws__law_draw : WS := wSeq (wIf (wTest (wOp gEq (wB gLen (wArg (wVar 0) (wNil))) (wC (.int 0)))) (wRet (wC (.int 0))) (wNext)) (wRet (wOp gFdiv (wOp gMod (wOp gMul (wOp gAdd (wOp gIx (wVar 0) (wOp gMod (wVar 1) (wB gLen (wArg (wVar 0) (wNil))))) (wOp gMul (wVar 1) (wVar 1))) (wC (.int 48271))) (wC (.int 2147483647))) (wC (.int 5))))
abbrev n__law_draw : Nat := 2
def spec__law_draw : SpecT := fun ds _ Q => ∃ (ns : List Int) (k : Nat), ds = [iL ns, .int k] ∧ ns.length ≤ 10000 ∧ k ≤ 1000000000 ∧ ∀ z : Int, Q (.int z)
theorem len__law_draw : ∀ ds px Q, spec__law_draw ds px Q → ds.length = 2 := by
  rintro ds px Q ⟨a, b, rfl, _⟩; rfl
theorem pure__law_draw : ∀ ds px Q, spec__law_draw ds px Q → ws__law_draw (PEnds.top Q) px (start0 2 ds) := by
  rintro ds px Q ⟨ns, k, rfl, hl, hk, q⟩
  show ws__law_draw (PEnds.top Q) px [some (.lst false (ns.map D.int)), some (.int k)]
  unfold ws__law_draw
  walk_at "tm"
  by_cases z : (ns.length : Int) = 0
  · rw [if_pos z]; exact q 0
  · rw [if_neg z]
    have h0 := Int.emod_nonneg (k : Int) (b := (ns.length : Int)) (by omega)
    have h1 := Int.emod_lt_of_pos (k : Int) (b := (ns.length : Int)) (by omega)
    refine ⟨by omega, atK_of (atI_ints h0 h1) rfl ?_⟩
    walk_at "tm"
    exact ⟨by omega, q _⟩
def ws__law_changed : WS := wSeq (wFor (itsL (wVar 1)) (gtName 3) (wSeq (wAsg (wOp gMod (wOp gMul (wVar 3) (wC (.int 40692))) (wC (.int 2147483399))) (gtName 4)) (wSeq (wAsg (wOp gMod (wOp gFdiv (wVar 4) (wC (.int 4))) (wB gLen (wArg (wVar 0) (wNil)))) (gtName 5)) (wSeq (wAsg (wOp gIx (wOp gIx (wVar 0) (wVar 5)) (wC (.int 0))) (gtName 6)) (wSeq (wAsg (wTup (wItm (wVar 6) (wItm (wCall0 spec__law_word [] (wArg (wOp gMod (wOp gMul (wVar 3) (wC (.int 16807))) (wC (.int 2147483587))) (wNil))) (wNil)))) (gtName 7)) (wIf (wTest (wOp gEq (wOp gMod (wVar 4) (wC (.int 4))) (wC (.int 0)))) (wAsg (wOp gAdd (wOp gAdd (wSl (wVar 0) (wNo) (wPart (wVar 5))) (wLst (wItm (wVar 7) (wNil)))) (wSl (wVar 0) (wPart (wOp gAdd (wVar 5) (wC (.int 1)))) (wNo))) (gtName 0)) (wIf (wAnd (wTest (wOp gEq (wOp gMod (wVar 4) (wC (.int 4))) (wC (.int 1)))) (wTest (wOp gGt (wVar 5) (wC (.int 0))))) (wAsg (wOp gAdd (wSl (wVar 0) (wNo) (wPart (wVar 5))) (wSl (wVar 0) (wPart (wCall0 spec__law_end [] (wArg (wVar 0) (wArg (wVar 5) (wNil))))) (wNo))) (gtName 0)) (wIf (wAnd (wTest (wOp gEq (wOp gMod (wVar 4) (wC (.int 4))) (wC (.int 2)))) (wAnd (wTest (wOp gLt (wVar 6) (wC (.int 30)))) (wTest (wOp gLt (wB gLen (wArg (wVar 0) (wNil))) (wVar 2))))) (wAsg (wOp gAdd (wOp gAdd (wSl (wVar 0) (wNo) (wPart (wOp gAdd (wVar 5) (wC (.int 1))))) (wLst (wItm (wTup (wItm (wOp gAdd (wVar 6) (wC (.int 1))) (wItm (wOp gIx (wVar 7) (wC (.int 1))) (wNil)))) (wNil)))) (wSl (wVar 0) (wPart (wOp gAdd (wVar 5) (wC (.int 1)))) (wNo))) (gtName 0)) (wIf (wAnd (wTest (wOp gGt (wVar 5) (wC (.int 0)))) (wTest (wOp gLt (wB gLen (wArg (wVar 0) (wNil))) (wVar 2)))) (wAsg (wOp gAdd (wOp gAdd (wSl (wVar 0) (wNo) (wPart (wVar 5))) (wLst (wItm (wVar 7) (wNil)))) (wSl (wVar 0) (wPart (wVar 5)) (wNo))) (gtName 0)) (wNext)))))))))) (wRet (wMov 0))
abbrev n__law_changed : Nat := 8
def Steps (rows : List Row) : Prop := ∀ (j : Nat) r p, rows[j + 1]? = some r → rows[j]? = some p → 1 ≤ r.1 ∧ r.1 ≤ p.1 + 1
theorem Steps.take {rows : List Row} (h : Steps rows) (n : Nat) : Steps (rows.take n) := fun j r p h1 h2 => by
  rw [List.getElem?_take] at h1 h2
  split at h1
  · rw [if_pos (by omega)] at h2
    exact h j r p h1 h2
  · cases h1
theorem Steps.drop {rows : List Row} (h : Steps rows) (n : Nat) : Steps (rows.drop n) := fun j r p h1 h2 => by
  rw [List.getElem?_drop] at h1 h2
  exact h (n + j) r p h1 h2
theorem Steps.one (r : Row) : Steps [r] := fun j r p h1 h2 => by simp at h1
theorem Steps.app {a b : List Row} (ha : Steps a) (hb : Steps b) (hm : ∀ p r, a.getLast? = some p → b[0]? = some r → 1 ≤ r.1 ∧ r.1 ≤ p.1 + 1) : Steps (a ++ b) := fun j r p h1 h2 => by
  by_cases c : j + 1 < a.length
  · rw [List.getElem?_append_left c] at h1
    rw [List.getElem?_append_left (by omega)] at h2
    exact ha j r p h1 h2
  · by_cases d : j + 1 = a.length
    · rw [List.getElem?_append_right (by omega), d, Nat.sub_self] at h1
      rw [List.getElem?_append_left (by omega)] at h2
      refine hm p r ?_ h1
      rw [List.getLast?_eq_getElem?, show a.length - 1 = j from by omega]; exact h2
    · rw [List.getElem?_append_right (by omega)] at h1 h2
      exact hb (j - a.length) r p (by rw [show j - a.length + 1 = j + 1 - a.length from by omega]; exact h1) h2
theorem take_last {rows : List Row} {n : Nat} {p : Row} (h : (rows.take n).getLast? = some p) (hn : n ≤ rows.length) : 0 < n ∧ rows[n - 1]? = some p := by
  rw [List.getLast?_eq_getElem?, List.length_take, Nat.min_eq_left hn, List.getElem?_take] at h
  split at h
  · exact ⟨by omega, h⟩
  · cases h
theorem tree_of {rows X : List Row} (t : TreeL rows) {b c : Nat} (hb : b ≤ rows.length) (hX : ∀ r ∈ X, Wd r.2 ∧ 0 ≤ r.1 ∧ r.1 ≤ 30) (sX : Steps X) (h0 : b = 0 → ∃ w r, X = (0, w) :: r)
    (h1 : ∀ p r, 0 < b → rows[b - 1]? = some p → (X ++ rows.drop c)[0]? = some r → 1 ≤ r.1 ∧ r.1 ≤ p.1 + 1) (h2 : ∀ p r, X.getLast? = some p → rows[c]? = some r → 1 ≤ r.1 ∧ r.1 ≤ p.1 + 1) : TreeL (rows.take b ++ (X ++ rows.drop c)) := by
  have st : Steps rows := t.step
  refine ⟨?_, fun r hr => ?_, ?_⟩
  · by_cases z : b = 0
    · obtain ⟨w, r, e⟩ := h0 z
      rw [z, e]
      exact ⟨w, _, rfl⟩
    · obtain ⟨w, r, e⟩ := t.first
      obtain ⟨k, hk⟩ : ∃ k, b = k + 1 := ⟨b - 1, by omega⟩
      rw [hk, e]
      exact ⟨w, _, rfl⟩
  · rcases List.mem_append.mp hr with hr | hr
    · exact t.rng r (List.mem_of_mem_take hr)
    · rcases List.mem_append.mp hr with hr | hr
      · exact hX r hr
      · exact t.rng r (List.mem_of_mem_drop hr)
  · refine (st.take b).app (sX.app (st.drop c) fun p r e1 e2 => h2 p r e1 (by rw [List.getElem?_drop] at e2; exact e2)) fun p r e1 e2 => ?_
    obtain ⟨z, e⟩ := take_last e1 hb
    exact h1 p r z e e2
def spec__law_changed : SpecT := fun ds _ Q => ∃ (rows : List Row) (ns : List Int) (m : Int), ds = [.lst false (rows.map rowD), iL ns, .int m] ∧ TreeL rows ∧ (rows.length : Int) ≤ m ∧ m ≤ 10000 ∧ ns.length ≤ 10000 ∧ ∀ o rows', TreeL rows' → (rows'.length : Int) ≤ m → Q (.lst o (rows'.map rowD))
theorem len__law_changed : ∀ ds px Q, spec__law_changed ds px Q → ds.length = 3 := by
  rintro ds px Q ⟨a, b, c, rfl, _⟩; rfl
theorem pure__law_changed : ∀ ds px Q, spec__law_changed ds px Q → ws__law_changed (PEnds.top Q) px (start0 8 ds) := by
  rintro ds px Q ⟨rows0, ns, m, rfl, t0, hm0, hm2, hn, q⟩
  show ws__law_changed (PEnds.top Q) px [some (.lst false (rows0.map rowD)), some (.lst false (ns.map D.int)), some (.int m), none, none, none, none, none]
  unfold ws__law_changed
  walk_at "tm"
  refine ⟨fun i env => ∃ (o : Bool) (rows : List Row) (x3 x4 x5 x6 x7 : Option D), env = [some (.lst o (rows.map rowD)), some (.lst false (ns.map D.int)), some (.int m), x3, x4, x5, x6, x7] ∧ TreeL rows ∧ (rows.length : Int) ≤ m, ⟨false, rows0, _, _, _, _, _, rfl, t0, hm0⟩, ?_, ?_⟩
  · rintro i d env2 hd ⟨o, rows, x3, x4, x5, x6, x7, rfl, t, hm⟩
    obtain ⟨c, hc, rfl⟩ := map_get hd
    have hpos : 0 < rows.length := by obtain ⟨w, r, e⟩ := t.first; rw [e]; simp
    walk_at "tm"
    refine ⟨by omega, ?_⟩
    obtain ⟨a, ha, ea⟩ : ∃ a : Nat, a < rows.length ∧ c * 40692 % 2147483399 / 4 % (rows.length : Int) = (a : Int) := by
      have h0 := Int.emod_nonneg (c * 40692 % 2147483399 / 4) (b := (rows.length : Int)) (by omega)
      have h1 := Int.emod_lt_of_pos (c * 40692 % 2147483399 / 4) (b := (rows.length : Int)) (by omega)
      exact ⟨(c * 40692 % 2147483399 / 4 % (rows.length : Int)).toNat, by omega, by omega⟩
    rw [ea]
    have g : rows[a]? = some rows[a] := List.getElem?_eq_getElem ha
    have hdp := dp_of g
    have hra := t.rng rows[a] (List.getElem_mem _)
    generalize rows[a] = r at g hdp hra
    obtain ⟨e, w0⟩ := r
    simp only at hdp hra
    have e1 : atI (rows.map rowD) (a : Int) = some (.tup [.int e, .str w0]) := map_at (f := rowD) rfl g
    refine atK_of e1 rfl ?_
    walk_at "tm"
    refine ⟨_, rfl, fun w hw => ?_⟩
    walk_at "tm"
    have ea1 : (a : Int) + 1 = ((a + 1 : Nat) : Int) := by omega
    have ct : ∀ n : Nat, Tm.cutD (rows.map rowD) none (some (n : Int)) = (rows.take n).map rowD := fun n => by rw [List.map_take]; exact cutD_to (n := n)
    have cf : ∀ n : Nat, Tm.cutD (rows.map rowD) (some (n : Int)) none = (rows.drop n).map rowD := fun n => by rw [List.map_drop]; exact cutD_from (n := n)
    have rd : ∀ (x : Int), D.tup [.int x, .str w] = rowD (x, w) := fun _ => rfl
    have ap : ∀ (X Y : List Row) (x : Row), X.map rowD ++ [rowD x] ++ Y.map rowD = (X ++ ([x] ++ Y)).map rowD := fun X Y x => by simp
    have ap2 : ∀ (X Y : List Row), X.map rowD ++ Y.map rowD = (X ++ ([] ++ Y)).map rowD := fun X Y => by simp
    have dr : dirty (rowD (e, w)) = false := rfl
    have dr2 : dirty (rowD (e + 1, w)) = false := rfl
    simp only [ea1, ct, cf, rd, rowsD_dirty, rowsD_fz, dirtys_app, dirtys, dr, dr2, Bool.or_false, true_and, List.length_map, List.length_append, List.length_take, List.length_drop, List.length_singleton, ap]
    have ll : ∀ (x : Row) (b : Nat), b ≤ rows.length → (rows.take b ++ ([x] ++ rows.drop b)).length = rows.length + 1 := fun x b hb => by simp; omega
    have step_a : 0 < a → 1 ≤ e ∧ ∀ p, rows[a - 1]? = some p → e ≤ p.1 + 1 := fun z => by
      have hp : rows[a - 1]? = some rows[a - 1] := List.getElem?_eq_getElem (by omega)
      have := t.step (a - 1) _ _ (by rw [show a - 1 + 1 = a from by omega]; exact g) hp
      exact ⟨this.1, fun p e2 => by rw [hp] at e2; cases e2; exact this.2⟩
    have nextle : ∀ r, rows[a + 1]? = some r → 1 ≤ r.1 ∧ r.1 ≤ e + 1 := fun r hr => t.step a r _ hr g
    have e_zero : a = 0 → e = 0 := fun z => by
      obtain ⟨w1, r1, e1⟩ := t.first
      rw [z, e1] at g
      simp at g; exact g.1.symm
    have sib : 0 < a → TreeL (rows.take a ++ ([((e, w) : Row)] ++ rows.drop a)) := fun z => by
      refine tree_of t (by omega) (fun r hr => by simp at hr; rw [hr]; exact ⟨hw, hra.2⟩) (Steps.one _) (fun z2 => by omega) (fun p r _ hp hr => ?_) fun p r hp hr => ?_
      · simp at hr; subst hr; exact ⟨(step_a z).1, (step_a z).2 p hp⟩
      · simp at hp; subst hp
        rw [g] at hr; cases hr
        exact ⟨(step_a z).1, by show e ≤ e + 1; omega⟩
    have last2 : (rows.length : Int) < m → 0 < a → ∃ o rows_1 x3 x4 x5 x6 x7, [some (D.lst true ((rows.take a ++ ([((e, w) : Row)] ++ rows.drop a)).map rowD)), some (D.lst false (ns.map D.int)), some (D.int m), some (D.int c), some (D.int (c * 40692 % 2147483399)), some (D.int a), some (D.int e), some (rowD (e, w))] = [some (D.lst o (List.map rowD rows_1)), some (D.lst false (ns.map D.int)), some (D.int m), x3, x4, x5, x6, x7] ∧ TreeL rows_1 ∧ (rows_1.length : Int) ≤ m := fun z1 z2 =>
      ⟨true, _, _, _, _, _, _, rfl, sib z2, by rw [ll _ a (by omega)]; omega⟩
    have keep : ∃ o' rows_1 x3 x4 x5 x6 x7, [some (D.lst o (rows.map rowD)), some (D.lst false (ns.map D.int)), some (D.int m), some (D.int c), some (D.int (c * 40692 % 2147483399)), some (D.int a), some (D.int e), some (rowD (e, w))] = [some (D.lst o' (List.map rowD rows_1)), some (D.lst false (ns.map D.int)), some (D.int m), x3, x4, x5, x6, x7] ∧ TreeL rows_1 ∧ (rows_1.length : Int) ≤ m :=
      ⟨o, rows, _, _, _, _, _, rfl, t, hm⟩
    by_cases w0 : c * 40692 % 2147483399 % 4 = 0
    · rw [if_pos w0]
      refine ⟨by omega, by omega, true, _, _, _, _, _, _, rfl, ?_, by simp; omega⟩
      refine tree_of t (by omega) (fun r hr => by simp at hr; rw [hr]; exact ⟨hw, hra.2⟩) (Steps.one _) (fun z => ⟨w, [], by rw [e_zero z]⟩) (fun p r z hp hr => ?_) fun p r hp hr => ?_
      · simp at hr; subst hr; exact ⟨(step_a z).1, (step_a z).2 p hp⟩
      · simp at hp; subst hp; exact nextle r hr
    rw [if_neg w0]
    by_cases w1 : c * 40692 % 2147483399 % 4 = 1
    · rw [if_pos w1]
      by_cases z : (0 : Int) < (a : Int)
      · rw [if_pos z]
        refine ⟨rows, a, rfl, ha, fun s hs => ?_⟩
        have hs1 := hs.lt
        have hs2 := hs.le
        refine ⟨.inr rfl, ?_⟩
        simp only [cf, rowsD_dirty, List.length_map, List.length_drop, true_and]
        rw [ap2]
        refine ⟨by omega, true, _, _, _, _, _, _, rfl, ?_, by simp; omega⟩
        refine tree_of t (by omega) (fun r hr => by simp at hr) (fun j r p h1 => by simp at h1) (fun z2 => by omega) (fun p r _ hp hr => ?_) fun p r hp hr => by simp at hp
        rw [List.nil_append, List.getElem?_drop, Nat.add_zero] at hr
        have hst := hs.stop (List.getElem?_eq_some_iff.mp hr).1
        rw [dp_of hr, hdp] at hst
        have := (step_a (by omega)).2 p hp
        refine ⟨?_, by omega⟩
        have hq : rows[s - 1]? = some rows[s - 1] := List.getElem?_eq_getElem (by omega)
        exact (t.step (s - 1) r _ (by rw [show s - 1 + 1 = s from by omega]; exact hr) hq).1
      · rw [if_neg z, if_neg (by omega), if_neg z]
        exact keep
    rw [if_neg w1]
    by_cases w2 : c * 40692 % 2147483399 % 4 = 2
    · rw [if_pos w2]
      by_cases he : e < 30
      · rw [if_pos he]
        by_cases hl : (rows.length : Int) < m
        · rw [if_pos hl]
          refine ⟨by omega, by omega, true, _, _, _, _, _, _, rfl, ?_, by rw [ll _ (a + 1) (by omega)]; omega⟩
          refine tree_of t (by omega) (fun r hr => by simp at hr; rw [hr]; exact ⟨hw, by show (0 : Int) ≤ e + 1; omega, by show e + 1 ≤ (30 : Int); omega⟩) (Steps.one _) (fun z2 => by omega) (fun p r _ hp hr => ?_) fun p r hp hr => ?_
          · simp at hr; subst hr
            rw [Nat.add_sub_cancel, g] at hp; cases hp
            exact ⟨by show (1 : Int) ≤ e + 1; omega, Int.le_refl _⟩
          · simp at hp; subst hp
            have := nextle r hr
            exact ⟨this.1, by show r.1 ≤ e + 1 + 1; omega⟩
        · rw [if_neg hl]
          by_cases z : (0 : Int) < (a : Int)
          · rw [if_pos z, if_neg hl]; exact keep
          · rw [if_neg z]; exact keep
      · rw [if_neg he]
        by_cases z : (0 : Int) < (a : Int)
        · rw [if_pos z]
          by_cases hl : (rows.length : Int) < m
          · rw [if_pos hl]; exact ⟨by omega, by omega, last2 hl (by omega)⟩
          · rw [if_neg hl]; exact keep
        · rw [if_neg z]; exact keep
    rw [if_neg w2]
    by_cases z : (0 : Int) < (a : Int)
    · rw [if_pos z]
      by_cases hl : (rows.length : Int) < m
      · rw [if_pos hl]; exact ⟨by omega, by omega, last2 hl (by omega)⟩
      · rw [if_neg hl]; exact keep
    · rw [if_neg z]; exact keep
  · rintro env2 ⟨o, rows, x3, x4, x5, x6, x7, rfl, t, hm⟩
    walk_at "tm"
    exact q o rows t hm

def pairD (p : Nat × Nat) : D := .tup [.int p.1, .int p.2]
theorem pairD_eq {p : Nat × Nat} : pairD p = .tup [.int p.1, .int p.2] := rfl
theorem pairD_inj {a b : Nat × Nat} (h : pairD a = pairD b) : a = b := by
  obtain ⟨a1, a2⟩ := a
  obtain ⟨b1, b2⟩ := b
  simp [pairD] at h
  rw [show a1 = b1 from by omega, show a2 = b2 from by omega]
theorem pairsD_dirty (ps : List (Nat × Nat)) : dirtys (ps.map pairD) = false := dirtys_mapI (f := pairD) (fun _ => rfl) ps
theorem pairsD_fz (ps : List (Nat × Nat)) : fzs (ps.map pairD) = ps.map pairD := fzs_mapI (f := pairD) (fun _ => rfl) ps
theorem pairsD_selfc (ps : List (Nat × Nat)) : selfcs (ps.map pairD) = true := selfcs_mapI (f := pairD) (fun _ => rfl) ps
theorem pairsD_fit {ps : List (Nat × Nat)} {o : Bool} : shD (.lst o (ps.map pairD)) = true := shD_of 64 (by
  simp only [okd]
  rw [okds_mapI]
  · rfl
  · intro r hr; rfl) (by decide)
theorem pairsD_eq {a b : List (Nat × Nat)} {o p : Bool} : eqD (.lst o (a.map pairD)) (.lst p (b.map pairD)) = decide (a = b) := eqD_dec (noBs_mapI (f := pairD) (fun _ => rfl) a) (noBs_mapI (f := pairD) (fun _ => rfl) b) (by
  show D.lst false _ = D.lst false _ ↔ _
  rw [D.lst.injEq, cans_mapI (f := pairD) (fun _ => rfl), cans_mapI (f := pairD) (fun _ => rfl), map_inj' (fun _ _ => pairD_inj)]; simp)

/-- x is a young of a -/
structure Ch (rows : List Row) (a x : Nat) : Prop where
  lt : a < x
  le : x < rows.length
  mid : ∀ k, a < k → k < x → dp rows a < dp rows k
  dpx : dp rows x = dp rows a + 1
theorem Ch.uniq {rows : List Row} {a b x : Nat} (h : Ch rows a x) (k : Ch rows b x) : a = b := by
  by_cases c : a < b
  · have := h.mid b c k.lt; have := h.dpx; have := k.dpx; omega
  · by_cases d : b < a
    · have := k.mid a d h.lt; have := h.dpx; have := k.dpx; omega
    · omega
theorem yl_ch {rows : List Row} {n s k : Nat} (h : EndP rows n s) (hk : k ∈ yl rows n s) : Ch rows n k := by
  have hs := h.le
  unfold yl at hk
  rw [List.mem_filter, decide_eq_true_eq] at hk
  exact ⟨hk.2.1, by omega, fun j h1 h2 => h.mid j h1 (by omega), hk.2.2.2⟩
theorem yl_lt {rows : List Row} {n s i j a b : Nat} (hij : i < j) (ha : (yl rows n s)[i]? = some a) (hb : (yl rows n s)[j]? = some b) : a < b := by
  have pw : (yl rows n s).Pairwise (· < ·) := List.pairwise_lt_range.filter _
  obtain ⟨h1, rfl⟩ := List.getElem?_eq_some_iff.mp ha
  obtain ⟨h2, rfl⟩ := List.getElem?_eq_some_iff.mp hb
  exact List.pairwise_iff_getElem.mp pw i j h1 h2 hij
theorem nodup_len : ∀ (n : Nat) (l : List Nat), l.Nodup → (∀ x ∈ l, x < n) → l.length ≤ n
  | 0, l, _, h => by
    cases l with
    | nil => exact Nat.le_refl _
    | cons a b => exact absurd (h a List.mem_cons_self) (by omega)
  | n + 1, l, hd, h => by
    by_cases c : n ∈ l
    · have h1 := nodup_len n (l.erase n) (hd.erase n) fun x hx => by
        have hx' := (hd.mem_erase_iff).mp hx
        have := h x hx'.2
        omega
      have := List.length_erase_of_mem c
      omega
    · have := nodup_len n l hd fun x hx => by
        have := h x hx
        by_cases e : x = n
        · rw [e] at hx; exact absurd hx c
        · omega
      omega
/-- pairs of two trees: the roots, then young of pairs -/
structure PairsP (one other : List Row) (L : List (Nat × Nat)) (m : Nat) : Prop where
  rng : ∀ p ∈ L, p.1 < one.length ∧ p.2 < other.length
  n1 : (L.map Prod.fst).Nodup
  n2 : (L.map Prod.snd).Nodup
  z : L[0]? = some (0, 0)
  ch : ∀ (i : Nat) p, 0 < i → L[i]? = some p → ∃ (j : Nat) (q : Nat × Nat), j < m ∧ L[j]? = some q ∧ Ch one q.1 p.1 ∧ Ch other q.2 p.2
  sib : ∀ p ∈ L, ∀ q ∈ L, ∀ a, Ch one a p.1 → Ch one a q.1 → p.1 < q.1 → p.2 < q.2
theorem PairsP.len {one other : List Row} {L : List (Nat × Nat)} {m : Nat} (h : PairsP one other L m) : L.length ≤ one.length := by
  have := nodup_len one.length (L.map Prod.fst) h.n1 fun x hx => by
    obtain ⟨p, hp, rfl⟩ := List.mem_map.mp hx
    exact (h.rng p hp).1
  rwa [List.length_map] at this
/-- a round's new pairs -/
structure RoundP (xs ys : List Nat) (N : List (Nat × Nat)) (i j : Nat) : Prop where
  li : i ≤ xs.length
  lj : j ≤ ys.length
  m1 : ∀ p ∈ N, ∃ k < i, xs[k]? = some p.1
  m2 : ∀ p ∈ N, ∃ k < j, ys[k]? = some p.2
  n1 : (N.map Prod.fst).Nodup
  n2 : (N.map Prod.snd).Nodup
  sib : N.Pairwise fun p q => p.1 < q.1 ∧ p.2 < q.2
theorem nodup_snoc {l : List Nat} {x : Nat} (h : l.Nodup) (hx : x ∉ l) : (l ++ [x]).Nodup := by
  rw [List.nodup_append]
  exact ⟨h, by simp, fun a ha b hb => by simp at hb; subst hb; exact fun e => hx (e ▸ ha)⟩
theorem fst_at {L : List (Nat × Nat)} {i j : Nat} {p q : Nat × Nat} (h : (L.map Prod.fst).Nodup) (hi : L[i]? = some p) (hj : L[j]? = some q) (e : p.1 = q.1) : i = j := by
  have a1 : (L.map Prod.fst)[i]? = some p.1 := by rw [List.getElem?_map, hi]; rfl
  have a2 : (L.map Prod.fst)[j]? = some p.1 := by rw [List.getElem?_map, hj, e]; rfl
  exact (List.getElem?_inj (List.getElem?_eq_some_iff.mp a1).1 h).mp (a1.trans a2.symm)
theorem snd_at {L : List (Nat × Nat)} {i j : Nat} {p q : Nat × Nat} (h : (L.map Prod.snd).Nodup) (hi : L[i]? = some p) (hj : L[j]? = some q) (e : p.2 = q.2) : i = j := by
  have a1 : (L.map Prod.snd)[i]? = some p.2 := by rw [List.getElem?_map, hi]; rfl
  have a2 : (L.map Prod.snd)[j]? = some p.2 := by rw [List.getElem?_map, hj, e]; rfl
  exact (List.getElem?_inj (List.getElem?_eq_some_iff.mp a1).1 h).mp (a1.trans a2.symm)
theorem PairsP.round {one other : List Row} {L N : List (Nat × Nat)} {m i j s1 s2 : Nat} {p0 : Nat × Nat} (h : PairsP one other L m) (hp0 : L[m]? = some p0) (hs1 : EndP one p0.1 s1) (hs2 : EndP other p0.2 s2) (R : RoundP (yl one p0.1 s1) (yl other p0.2 s2) N i j) : PairsP one other (L ++ N) (m + 1) := by
  have c1 : ∀ q ∈ N, Ch one p0.1 q.1 := fun q hq => by
    obtain ⟨k, _, e⟩ := R.m1 q hq
    exact yl_ch hs1 (List.mem_of_getElem? e)
  have c2 : ∀ q ∈ N, Ch other p0.2 q.2 := fun q hq => by
    obtain ⟨k, _, e⟩ := R.m2 q hq
    exact yl_ch hs2 (List.mem_of_getElem? e)
  have d1 : ∀ p ∈ L, ∀ q ∈ N, ∀ a, Ch one a p.1 → Ch one a q.1 → False := fun p hp q hq a ha ha2 => by
    have e := ha2.uniq (c1 q hq)
    subst e
    obtain ⟨k, hk, ek⟩ := List.getElem_of_mem hp
    have ek : L[k]? = some p := by rw [List.getElem?_eq_getElem hk, ek]
    by_cases z : k = 0
    · rw [z, h.z] at ek; cases ek
      have := ha.lt; simp only at this; omega
    · obtain ⟨k2, r, h1, h2, h3, _⟩ := h.ch k p (by omega) ek
      have := fst_at h.n1 h2 hp0 (h3.uniq ha)
      omega
  refine ⟨fun q hq => ?_, ?_, ?_, ?_, fun k q hk hq => ?_, fun p hp q hq a ha hb hlt => ?_⟩
  rotate_right
  · rcases List.mem_append.mp hp with hp | hp <;> rcases List.mem_append.mp hq with hq | hq
    · exact h.sib p hp q hq a ha hb hlt
    · exact (d1 p hp q hq a ha hb).elim
    · exact (d1 q hq p hp a hb ha).elim
    · obtain ⟨x, hx, rfl⟩ := List.getElem_of_mem hp
      obtain ⟨y, hy, rfl⟩ := List.getElem_of_mem hq
      have pw := List.pairwise_iff_getElem.mp R.sib
      rcases Nat.lt_trichotomy x y with c | c | c
      · exact (pw x y hx hy c).2
      · subst c; omega
      · have := (pw y x hy hx c).1; omega
  · rcases List.mem_append.mp hq with hq | hq
    · exact h.rng q hq
    · exact ⟨(c1 q hq).le, (c2 q hq).le⟩
  · rw [List.map_append, List.nodup_append]
    refine ⟨h.n1, R.n1, fun x hx y hy e => ?_⟩
    obtain ⟨q, hq, rfl⟩ := List.mem_map.mp hy
    obtain ⟨p, hp, rfl⟩ := List.mem_map.mp hx
    obtain ⟨k, hk, ek⟩ := List.getElem_of_mem hp
    have ek : L[k]? = some p := by rw [List.getElem?_eq_getElem hk, ek]
    have hc := c1 q hq
    by_cases z : k = 0
    · rw [z, h.z] at ek; cases ek
      have := hc.lt; simp only at e; omega
    · obtain ⟨k2, r, h1, h2, h3, _⟩ := h.ch k p (by omega) ek
      rw [e] at h3
      have := fst_at h.n1 h2 hp0 (h3.uniq hc)
      omega
  · rw [List.map_append, List.nodup_append]
    refine ⟨h.n2, R.n2, fun x hx y hy e => ?_⟩
    obtain ⟨q, hq, rfl⟩ := List.mem_map.mp hy
    obtain ⟨p, hp, rfl⟩ := List.mem_map.mp hx
    obtain ⟨k, hk, ek⟩ := List.getElem_of_mem hp
    have ek : L[k]? = some p := by rw [List.getElem?_eq_getElem hk, ek]
    have hc := c2 q hq
    by_cases z : k = 0
    · rw [z, h.z] at ek; cases ek
      have := hc.lt; simp only at e; omega
    · obtain ⟨k2, r, h1, h2, _, h3⟩ := h.ch k p (by omega) ek
      rw [e] at h3
      have := snd_at h.n2 h2 hp0 (h3.uniq hc)
      omega
  · rw [List.getElem?_append_left (List.getElem?_eq_some_iff.mp h.z).1]; exact h.z
  · by_cases c : k < L.length
    · rw [List.getElem?_append_left c] at hq
      obtain ⟨k2, r, h1, h2, h3, h4⟩ := h.ch k q hk hq
      exact ⟨k2, r, by omega, by rw [List.getElem?_append_left (List.getElem?_eq_some_iff.mp h2).1]; exact h2, h3, h4⟩
    · rw [List.getElem?_append_right (by omega)] at hq
      have hm := List.mem_of_getElem? hq
      exact ⟨m, p0, by omega, by rw [List.getElem?_append_left (List.getElem?_eq_some_iff.mp hp0).1]; exact hp0, c1 q hm, c2 q hm⟩
theorem RoundP.push {one other : List Row} {a b s1 s2 i j x y : Nat} {N : List (Nat × Nat)} (R : RoundP (yl one a s1) (yl other b s2) N i j) (hx : (yl one a s1)[i]? = some x) (hy : (yl other b s2)[j]? = some y) : RoundP (yl one a s1) (yl other b s2) (N ++ [(x, y)]) (i + 1) (j + 1) := by
  refine ⟨(List.getElem?_eq_some_iff.mp hx).1, (List.getElem?_eq_some_iff.mp hy).1, fun p hp => ?_, fun p hp => ?_, ?_, ?_, List.pairwise_append.mpr ⟨R.sib, by simp, fun p hp q hq => ?_⟩⟩
  rotate_right
  · simp at hq; subst hq
    obtain ⟨k, h1, h2⟩ := R.m1 p hp
    obtain ⟨k', h3, h4⟩ := R.m2 p hp
    exact ⟨yl_lt h1 h2 hx, yl_lt h3 h4 hy⟩
  · rcases List.mem_append.mp hp with hp | hp
    · obtain ⟨k, h1, h2⟩ := R.m1 p hp
      exact ⟨k, by omega, h2⟩
    · simp at hp; subst hp; exact ⟨i, by omega, hx⟩
  · rcases List.mem_append.mp hp with hp | hp
    · obtain ⟨k, h1, h2⟩ := R.m2 p hp
      exact ⟨k, by omega, h2⟩
    · simp at hp; subst hp; exact ⟨j, by omega, hy⟩
  · rw [List.map_append]
    refine nodup_snoc R.n1 fun hm => ?_
    obtain ⟨p, hp, e⟩ := List.mem_map.mp hm
    obtain ⟨k, h1, h2⟩ := R.m1 p hp
    have := yl_lt h1 h2 hx
    simp only at e; omega
  · rw [List.map_append]
    refine nodup_snoc R.n2 fun hm => ?_
    obtain ⟨p, hp, e⟩ := List.mem_map.mp hm
    obtain ⟨k, h1, h2⟩ := R.m2 p hp
    have := yl_lt h1 h2 hy
    simp only at e; omega
theorem RoundP.go {xs ys : List Nat} {N : List (Nat × Nat)} {i j i2 j2 : Nat} (R : RoundP xs ys N i j) (h1 : i ≤ i2) (h2 : j ≤ j2) (h3 : i2 ≤ xs.length) (h4 : j2 ≤ ys.length) : RoundP xs ys N i2 j2 :=
  ⟨h3, h4, fun p hp => by obtain ⟨k, a, b⟩ := R.m1 p hp; exact ⟨k, by omega, b⟩, fun p hp => by obtain ⟨k, a, b⟩ := R.m2 p hp; exact ⟨k, by omega, b⟩, R.n1, R.n2, R.sib⟩
def lexN (a b : Nat × Nat) : Prop := a.1 < b.1 ∨ (a.1 = b.1 ∧ a.2 ≤ b.2)
theorem nat_pairs {L : List (Nat × Nat)} {ps : List (Int × Int)} (h : ps.Perm (L.map fun p => ((p.1 : Int), (p.2 : Int)))) (s : ps.Pairwise lexLe) : ∃ M : List (Nat × Nat), M.Perm L ∧ M.Pairwise lexN ∧ ps.map pD = M.map pairD := by
  have hm : ∀ p ∈ ps, ∃ q : Nat × Nat, p = ((q.1 : Int), (q.2 : Int)) := fun p hp => by
    obtain ⟨q, _, e⟩ := List.mem_map.mp (h.mem_iff.mp hp)
    exact ⟨q, e.symm⟩
  refine ⟨ps.map fun p => (p.1.toNat, p.2.toNat), ?_, ?_, ?_⟩
  · have := h.map (fun p : Int × Int => (p.1.toNat, p.2.toNat))
    rw [List.map_map] at this
    have e : ((fun p : Int × Int => (p.1.toNat, p.2.toNat)) ∘ fun p : Nat × Nat => ((p.1 : Int), (p.2 : Int))) = id := by
      funext p; simp
    rw [e, List.map_id] at this
    exact this
  · refine List.pairwise_map.mpr (s.imp_of_mem ?_)
    intro a b ha hb hab
    obtain ⟨q, rfl⟩ := hm a ha
    obtain ⟨r, rfl⟩ := hm b hb
    unfold lexLe at hab
    unfold lexN
    simp only [Int.toNat_natCast] at hab ⊢
    omega
  · rw [List.map_map]
    refine List.map_congr_left fun p hp => ?_
    obtain ⟨q, rfl⟩ := hm p hp
    simp [pD, pairD]
theorem PairsP.zero {one other : List Row} {L : List (Nat × Nat)} (h : PairsP one other L L.length) {p : Nat × Nat} (hp : p ∈ L) (e : p.2 = 0) : p = (0, 0) := by
  obtain ⟨k, hk, ek⟩ := List.getElem_of_mem hp
  have ek : L[k]? = some p := by rw [List.getElem?_eq_getElem hk, ek]
  have := snd_at h.n2 ek h.z e
  subst this
  rw [h.z] at ek; cases ek; rfl
theorem PairsP.up {one other : List Row} {L : List (Nat × Nat)} (h : PairsP one other L L.length) {p : Nat × Nat} (hp : p ∈ L) (h0 : 0 < p.1 ∨ 0 < p.2) : ∃ q ∈ L, Ch one q.1 p.1 ∧ Ch other q.2 p.2 := by
  obtain ⟨k, hk, ek⟩ := List.getElem_of_mem hp
  have ek : L[k]? = some p := by rw [List.getElem?_eq_getElem hk, ek]
  by_cases z : k = 0
  · rw [z, h.z] at ek; cases ek
    simp at h0
  · obtain ⟨k2, r, h1, h2, h3, h4⟩ := h.ch k p (by omega) ek
    exact ⟨r, List.mem_of_getElem? h2, h3, h4⟩
theorem PairsP.same {one other : List Row} {L : List (Nat × Nat)} (h : PairsP one other L L.length) {p q : Nat × Nat} (hp : p ∈ L) (hq : q ∈ L) (e : p.1 = q.1) : p = q := by
  obtain ⟨k, hk, ek⟩ := List.getElem_of_mem hp
  have ek : L[k]? = some p := by rw [List.getElem?_eq_getElem hk, ek]
  obtain ⟨j, hj, ej⟩ := List.getElem_of_mem hq
  have ej : L[j]? = some q := by rw [List.getElem?_eq_getElem hj, ej]
  have := fst_at h.n1 ek ej e
  subst this
  rw [ek] at ej; cases ej; rfl
theorem PairsP.deep {one other : List Row} {L : List (Nat × Nat)} (h : PairsP one other L L.length) (z1 : dp one 0 = 0) (z2 : dp other 0 = 0) : ∀ (n : Nat) (p : Nat × Nat), p ∈ L → p.1 < n → dp one p.1 = dp other p.2
  | 0, p, _, hn => by omega
  | n + 1, p, hp, hn => by
    by_cases c : 0 < p.1 ∨ 0 < p.2
    · obtain ⟨q, hq, c1, c2⟩ := h.up hp c
      have := h.deep z1 z2 n q hq (by have := c1.lt; omega)
      have := c1.dpx; have := c2.dpx; omega
    · rw [show p.1 = 0 from by omega, show p.2 = 0 from by omega, z1, z2]
/-- the pairs rise both -/
theorem PairsP.mono {one other : List Row} {L : List (Nat × Nat)} (h : PairsP one other L L.length) (z1 : dp one 0 = 0) (z2 : dp other 0 = 0) : ∀ (n : Nat) (p p' : Nat × Nat), p ∈ L → p' ∈ L → p.1 + p'.1 < n → p.1 < p'.1 → p.2 < p'.2
  | 0, _, _, _, _, hn, _ => by omega
  | n + 1, p, p', hp, hp', hn, hlt => by
    obtain ⟨q', hq', a1, a2⟩ := h.up hp' (.inl (by omega))
    have l1 := a1.lt
    have l2 := a2.lt
    rcases Nat.lt_trichotomy p.1 q'.1 with c | c | c
    · have := h.mono z1 z2 n p q' hp hq' (by omega) c
      omega
    · rw [h.same hp hq' c]; exact l2
    · obtain ⟨q, hq, b1, b2⟩ := h.up hp (.inl (by omega))
      have m1 := b1.lt
      have m2 := b2.lt
      have dpq := b1.dpx
      have in_ := a1.mid p.1 c hlt
      have hge : q'.1 ≤ q.1 := by
        rcases Nat.lt_or_ge q.1 q'.1 with d | d
        · have := b1.mid q'.1 d c; omega
        · exact d
      rcases Nat.eq_or_lt_of_le hge with d | d
      · exact h.sib p hp p' hp' q.1 b1 (d ▸ a1) hlt
      · have ih := h.mono z1 z2 n q p' hq hp' (by omega) (by omega)
        have e1 := h.deep z1 z2 (q.1 + 1) q hq (by omega)
        have e2 := h.deep z1 z2 (q'.1 + 1) q' hq' (by omega)
        have := a1.mid q.1 d (by omega)
        have := a2.dpx
        rcases Nat.lt_trichotomy p.2 p'.2 with f | f | f
        · exact f
        · have hpp : p = p' := by
            obtain ⟨k, hk, ek⟩ := List.getElem_of_mem hp
            have ek : L[k]? = some p := by rw [List.getElem?_eq_getElem hk, ek]
            obtain ⟨j, hj, ej⟩ := List.getElem_of_mem hp'
            have ej : L[j]? = some p' := by rw [List.getElem?_eq_getElem hj, ej]
            have := snd_at h.n2 ek ej f
            subst this
            rw [ek] at ej; cases ej; rfl
          rw [hpp] at hlt; omega
        · have := b2.mid p'.2 ih f; omega
def ws__law_pairing : WS := wSeq (wAsg (wLst (wItm (wTup (wItm (wC (.int 0)) (wItm (wC (.int 0)) (wNil)))) (wNil))) (gtName 3)) (wSeq (wAsg (wC (.int 0)) (gtName 4)) (wSeq (wAsg (wC (.int 0)) (gtName 5)) (wSeq (wWhile (wTest (wOp gLt (wVar 5) (wB gLen (wArg (wVar 3) (wNil))))) (wSeq (wAsg (wCall0 spec__law_young [] (wArg (wVar 0) (wArg (wOp gIx (wOp gIx (wVar 3) (wVar 5)) (wC (.int 0))) (wNil)))) (gtName 6)) (wSeq (wAsg (wCall0 spec__law_young [] (wArg (wVar 1) (wArg (wOp gIx (wOp gIx (wVar 3) (wVar 5)) (wC (.int 1))) (wNil)))) (gtName 7)) (wSeq (wAsg (wC (.int 0)) (gtName 8)) (wSeq (wAsg (wC (.int 0)) (gtName 9)) (wSeq (wWhile (wAnd (wTest (wOp gLt (wVar 8) (wB gLen (wArg (wVar 6) (wNil))))) (wTest (wOp gLt (wVar 9) (wB gLen (wArg (wVar 7) (wNil)))))) (wSeq (wAsg (wOp gMod (wCall0 spec__law_draw [] (wArg (wVar 2) (wArg (wVar 4) (wNil)))) (wC (.int 4))) (gtName 10)) (wSeq (wAsg (wOp gAdd (wVar 4) (wC (.int 1))) (gtName 4)) (wSeq (wIf (wTest (wOp gLt (wVar 10) (wC (.int 2)))) (wApp 3 (wTup (wItm (wOp gIx (wVar 6) (wVar 8)) (wItm (wOp gIx (wVar 7) (wVar 9)) (wNil))))) (wNext)) (wSeq (wAsg (wOp gAdd (wVar 8) (wB gInt (wArg (wOp gNe (wVar 10) (wC (.int 2))) (wNil)))) (gtName 8)) (wAsg (wOp gAdd (wVar 9) (wB gInt (wArg (wOp gNe (wVar 10) (wC (.int 3))) (wNil)))) (gtName 9))))))) (wAsg (wOp gAdd (wVar 5) (wC (.int 1))) (gtName 5)))))))) (wRet (wB gSortP (wArg (wVar 3) (wNil)))))))
abbrev n__law_pairing : Nat := 11
def spec__law_pairing : SpecT := fun ds _ Q => ∃ (one other : List Row) (ns : List Int), ds = [.lst false (one.map rowD), .lst false (other.map rowD), iL ns] ∧ TreeL one ∧ TreeL other ∧ one.length ≤ 1000 ∧ other.length ≤ 1000 ∧ ns.length ≤ 10000 ∧
  ∀ L M : List (Nat × Nat), PairsP one other L L.length → M.Perm L → M.Pairwise lexN → Q (.lst true (M.map pairD))
theorem len__law_pairing : ∀ ds px Q, spec__law_pairing ds px Q → ds.length = 3 := by
  rintro ds px Q ⟨a, b, c, rfl, _⟩; rfl
theorem pure__law_pairing : ∀ ds px Q, spec__law_pairing ds px Q → ws__law_pairing (PEnds.top Q) px (start0 11 ds) := by
  rintro ds px Q ⟨one, other, ns, rfl, t1, t2, hl1, hl2, hn, q⟩
  have hp1 : 0 < one.length := by obtain ⟨w, r, e⟩ := t1.first; rw [e]; simp
  have hp2 : 0 < other.length := by obtain ⟨w, r, e⟩ := t2.first; rw [e]; simp
  show ws__law_pairing (PEnds.top Q) px [some (.lst false (one.map rowD)), some (.lst false (other.map rowD)), some (.lst false (ns.map D.int)), none, none, none, none, none, none, none, none]
  unfold ws__law_pairing
  walk_at "tm"
  have P0 : PairsP one other [(0, 0)] 0 := ⟨fun p hp => by simp at hp; subst hp; exact ⟨hp1, hp2⟩, by simp, by simp, rfl, fun i p hi hp => by
    have := (List.getElem?_eq_some_iff.mp hp).1
    simp at this; omega, fun p hp q hq a ha hb hlt => by simp at hp hq; subst hp hq; omega⟩
  refine ⟨fun mm env => ∃ (L : List (Nat × Nat)) (k at_ : Nat) (x6 x7 x8 x9 x10 : Option D), env = [some (.lst false (one.map rowD)), some (.lst false (other.map rowD)), some (.lst false (ns.map D.int)), some (.lst true (L.map pairD)), some (.int k), some (.int at_), x6, x7, x8, x9, x10] ∧ mm = one.length - at_ ∧ PairsP one other L at_ ∧ at_ ≤ L.length ∧ k ≤ 2000 * at_, ⟨_, [(0, 0)], 0, 0, _, _, _, _, _, rfl, rfl, P0, by simp, by omega⟩, ?_⟩
  rintro mm env2 ⟨L, k, at_, x6, x7, x8, x9, x10, rfl, rfl, P, hat, hk⟩
  have hLl := P.len
  walk_at "tm"
  by_cases c : at_ < L.length
  · rw [if_pos (by omega)]
    have g : L[at_]? = some L[at_] := List.getElem?_eq_getElem c
    have hr := P.rng L[at_] (List.getElem_mem _)
    generalize L[at_] = p0 at g hr
    obtain ⟨a, b⟩ := p0
    simp only at hr
    have e1 : atI (L.map pairD) (at_ : Int) = some (.tup [.int a, .int b]) := map_at (f := pairD) rfl g
    refine atK_of e1 rfl ?_
    walk_at "tm"
    rw [rowsD_fz]
    refine ⟨one, a, rfl, hr.1, by omega, fun s1 hs1 => ?_⟩
    walk_at "tm"
    refine atK_of e1 rfl ?_
    walk_at "tm"
    rw [rowsD_fz]
    refine ⟨other, b, rfl, hr.2, by omega, fun s2 hs2 => ?_⟩
    have xl := yl_len (rows := one) (n := a) (s := s1)
    have yl_ := yl_len (rows := other) (n := b) (s := s2)
    generalize hxs : yl one a s1 = xs at xl
    generalize hys : yl other b s2 = ys at yl_
    walk_at "tm"
    refine ⟨fun mm env => ∃ (N : List (Nat × Nat)) (i j k2 : Nat) (x10 : Option D), env = [some (.lst false (one.map rowD)), some (.lst false (other.map rowD)), some (.lst false (ns.map D.int)), some (.lst true ((L ++ N).map pairD)), some (.int k2), some (.int at_), some (.lst true (xs.map nD)), some (.lst true (ys.map nD)), some (.int i), some (.int j), x10] ∧ mm = (xs.length - i) + (ys.length - j) ∧ RoundP xs ys N i j ∧ k2 ≤ k + i + j ∧ N.length ≤ i, ⟨_, [], 0, 0, k, _, by rw [List.append_nil]; rfl, rfl, ⟨Nat.zero_le _, Nat.zero_le _, fun p hp => by simp at hp, fun p hp => by simp at hp, by simp, by simp, by simp⟩, by omega, by simp⟩, ?_⟩
    rintro mm env3 ⟨N, i, j, k2, x10, rfl, rfl, R, hk2, hN⟩
    have hli := R.li
    have hlj := R.lj
    walk_at "tm"
    have after : ∃ m', m' < one.length - at_ ∧ ∃ (L2 : List (Nat × Nat)) (k3 at2 : Nat) (y6 y7 y8 y9 y10 : Option D), [some (D.lst false (one.map rowD)), some (.lst false (other.map rowD)), some (.lst false (ns.map D.int)), some (.lst true ((L ++ N).map pairD)), some (.int k2), some (.int ((at_ : Int) + 1)), some (.lst true (xs.map nD)), some (.lst true (ys.map nD)), some (.int i), some (.int j), x10] = [some (.lst false (one.map rowD)), some (.lst false (other.map rowD)), some (.lst false (ns.map D.int)), some (.lst true (L2.map pairD)), some (.int k3), some (.int at2), y6, y7, y8, y9, y10] ∧ m' = one.length - at2 ∧ PairsP one other L2 at2 ∧ at2 ≤ L2.length ∧ k3 ≤ 2000 * at2 := by
      refine ⟨one.length - (at_ + 1), by omega, L ++ N, k2, at_ + 1, _, _, _, _, _, rfl, rfl, ?_, by rw [List.length_append]; omega, by omega⟩
      refine P.round g hs1 hs2 (i := i) (j := j) ?_
      simp only
      rw [hxs, hys]; exact R
    by_cases c1 : i < xs.length
    · rw [if_pos (by omega)]
      by_cases c2 : j < ys.length
      · rw [if_pos (by omega)]
        refine ⟨ns, k2, rfl, hn, by omega, fun z => ?_⟩
        walk_at "tm"
        have gx : xs[i]? = some xs[i] := List.getElem?_eq_getElem c1
        have gy : ys[j]? = some ys[j] := List.getElem?_eq_getElem c2
        generalize xs[i] = x at gx
        generalize ys[j] = y at gy
        have ex : atI (xs.map nD) (i : Int) = some (.int x) := map_at (f := nD) rfl gx
        have ey : atI (ys.map nD) (j : Int) = some (.int y) := map_at (f := nD) rfl gy
        have hz : z % 4 = 0 ∨ z % 4 = 1 ∨ z % 4 = 2 ∨ z % 4 = 3 := by omega
        generalize z % 4 = way at hz
        by_cases w : way < 2
        · rw [if_pos w]
          refine atK_of ex rfl ?_
          walk_at "tm"
          refine atK_of ey rfl ?_
          walk_at "tm"
          have w2 : decide (way = 2) = false := decide_eq_false (by omega)
          have w3 : decide (way = 3) = false := decide_eq_false (by omega)
          rw [w2, w3]
          have em : L.map pairD ++ N.map pairD ++ [D.tup [.int x, .int y]] = (L ++ (N ++ [(x, y)])).map pairD := by simp [pairD]
          walk_at "tm"
          rw [List.map_append, em]
          refine ⟨by rw [List.length_append]; omega, _, ?_, N ++ [(x, y)], i + 1, j + 1, k2 + 1, _, rfl, rfl, ?_, by omega, by simp; omega⟩
          · omega
          · subst hxs hys
            exact R.push gx gy
        · rw [if_neg w]
          rcases hz with rfl | rfl | rfl | rfl
          · omega
          · omega
          · walk_at "tm"
            refine ⟨_, ?_, N, i, j + 1, k2 + 1, some (.int 2), by simp, rfl, R.go (by omega) (by omega) hli c2, by omega, hN⟩
            omega
          · walk_at "tm"
            refine ⟨_, ?_, N, i + 1, j, k2 + 1, some (.int 3), by simp, rfl, R.go (by omega) (by omega) c1 hlj, by omega, by omega⟩
            omega
      · rw [if_neg (by omega)]
        exact after
    · rw [if_neg (by omega)]
      exact after
  · rw [if_neg (by omega)]
    have e : L.map pairD = (L.map fun p => ((p.1 : Int), (p.2 : Int))).map pD := by rw [List.map_map]; rfl
    refine ⟨_, e, fun ps hps hs => ?_⟩
    obtain ⟨M, h1, h2, h3⟩ := nat_pairs hps hs
    rw [h3]
    have : at_ = L.length := by omega
    subst this
    exact q L M P h1 h2

theorem repS_one {n c : Nat} : (repS n ⟨#[c]⟩).cps.toList = List.replicate n c := by
  show (repl n [c]) = _
  unfold repl
  induction n with
  | zero => rfl
  | succ n ih => rw [List.replicate_succ, List.flatten_cons, ih]; rfl
theorem str_of {x : Str} {l : List Nat} (h : x.cps.toList = l) : x = ⟨l.toArray⟩ := by
  obtain ⟨⟨l'⟩⟩ := x
  simp at h; subst h; rfl
theorem S_codes (l : List Nat) : (SX.S l).cps.toList = l := by
  show l.toArray.toList = l
  simp
theorem S_len (l : List Nat) : (SX.S l).length = l.length := by rw [← str_len, S_codes]
theorem S_of (x : Str) : x = SX.S x.cps.toList := str_of rfl

--@here
/-! rows laid out -/
theorem str_ext {a b : Str} (h : a.cps.toList = b.cps.toList) : a = b := (str_of h).trans (str_of rfl).symm
def ind (d : Int) : Str := repS d.toNat (Str.ofString "  ")
def rowT (s : Str) (r : Row) : Str := s ++ ind r.1 ++ r.2
def minusS : Str := "-"
def plusS : Str := "+"
def pairT (a b : Row) : Str := if a.2 = b.2 then rowT " " a else rowT "~" (a.1, a.2 ++ (">" : Str) ++ b.2)
def rAt (rows : List Row) (n : Nat) : Row := rows.getD n (0, ⟨#[]⟩)
def segR (rows : List Row) (a b : Nat) : List Row := (rows.drop a).take (b - a)
def chunk (one other : List Row) (p q : Nat × Nat) : List Str := pairT (rAt one p.1) (rAt other p.2) :: ((segR one (p.1 + 1) q.1).map (rowT minusS) ++ (segR other (p.2 + 1) q.2).map (rowT plusS))
def chunks (one other : List Row) : List (Nat × Nat) → List Str
  | [] => []
  | [p] => chunk one other p (one.length, other.length)
  | p :: q :: r => chunk one other p q ++ chunks one other (q :: r)
structure RowsB (rows : List Row) : Prop where
  ok : ∀ r ∈ rows, Wd r.2 ∧ 0 ≤ r.1 ∧ r.1 ≤ 30
  pos : 0 < rows.length
  len : rows.length ≤ 200
theorem RowsB.of {rows : List Row} (t : TreeL rows) (h : rows.length ≤ 200) : RowsB rows := ⟨t.rng, by obtain ⟨w, r, e⟩ := t.first; rw [e]; simp, h⟩
theorem ind_len {d : Int} (h : d ≤ 30) : (ind d).length ≤ 60 := by
  have h1 : (repS d.toNat (Str.ofString "  ")).length = (Str.ofString "  ").length * d.toNat := by
    rw [← str_len]
    show (repl d.toNat (Str.ofString "  ").cps.toList).length = _
    unfold repl
    rw [List.length_flatten]
    simp
    rw [Nat.mul_comm]; rfl
  unfold ind
  rw [h1]
  have : (Str.ofString "  ").length = 2 := by decide +kernel
  rw [this]; omega
def ws_row_by : WS := wRet (wOp gAdd (wOp gAdd (wVar 0) (wOp gMul (wC (.str "  ")) (wVar 1))) (wVar 2))
abbrev n_row_by : Nat := 3
def spec_row_by : SpecT := fun ds _ Q => ∃ (s : Str) (d : Int) (w : Str), ds = [.str s, .int d, .str w] ∧ s.length ≤ 1 ∧ 0 ≤ d ∧ d ≤ 30 ∧ w.length ≤ 40 ∧ Q (.str (rowT s (d, w)))
theorem len_row_by : ∀ ds px Q, spec_row_by ds px Q → ds.length = 3 := by
  rintro ds px Q ⟨a, b, c, rfl, _⟩; rfl
theorem pure_row_by : ∀ ds px Q, spec_row_by ds px Q → ws_row_by (PEnds.top Q) px (start0 3 ds) := by
  rintro ds px Q ⟨s, d, w, rfl, hs, h0, h1, hw, q⟩
  have al : ∀ a b : Str, (a ++ b).length = a.length + b.length := fun a b => Str.length_append a b
  have il := ind_len h1
  have l2 : (Str.ofString "  ").length = 2 := by decide +kernel
  show ws_row_by (PEnds.top Q) px [some (.str s), some (.int d), some (.str w)]
  unfold ws_row_by
  walk_at "tm"
  unfold ind at il
  exact ⟨by omega, by omega, by rw [l2]; omega, by omega, by rw [al]; omega, q⟩
def ws_pair_row : WS := wSeq (wIf (wTest (wOp gEq (wOp gIx (wVar 0) (wC (.int 1))) (wOp gIx (wVar 1) (wC (.int 1))))) (wRet (wCall0 spec_row_by [] (wArg (wC (.str " ")) (wArg (wOp gIx (wVar 0) (wC (.int 0))) (wArg (wOp gIx (wVar 0) (wC (.int 1))) (wNil)))))) (wNext)) (wRet (wCall0 spec_row_by [] (wArg (wC (.str "~")) (wArg (wOp gIx (wVar 0) (wC (.int 0))) (wArg (wOp gAdd (wOp gAdd (wOp gIx (wVar 0) (wC (.int 1))) (wC (.str ">"))) (wOp gIx (wVar 1) (wC (.int 1)))) (wNil))))))
abbrev n_pair_row : Nat := 2
def spec_pair_row : SpecT := fun ds _ Q => ∃ (a b : Row), ds = [rowD a, rowD b] ∧ (Wd a.2 ∧ 0 ≤ a.1 ∧ a.1 ≤ 30) ∧ Wd b.2 ∧ Q (.str (pairT a b))
theorem len_pair_row : ∀ ds px Q, spec_pair_row ds px Q → ds.length = 2 := by
  rintro ds px Q ⟨a, b, rfl, _⟩; rfl
theorem pure_pair_row : ∀ ds px Q, spec_pair_row ds px Q → ws_pair_row (PEnds.top Q) px (start0 2 ds) := by
  rintro ds px Q ⟨⟨d, v⟩, ⟨d2, w⟩, rfl, ⟨hv, h0, h1⟩, hw, q⟩
  have al : ∀ a b : Str, (a ++ b).length = a.length + b.length := fun a b => Str.length_append a b
  simp only at hv h0 h1 hw
  have hv2 := hv.2.2
  have hw2 := hw.2.2
  have l1 : (Str.ofString ">").length = 1 := by decide +kernel
  show ws_pair_row (PEnds.top Q) px [some (.tup [.int d, .str v]), some (.tup [.int d2, .str w])]
  unfold ws_pair_row
  unfold pairT at q
  simp only at q
  walk_at "tm"
  by_cases c : v = w
  · rw [if_pos c] at q ⊢
    exact ⟨_, d, v, rfl, by decide +kernel, h0, h1, by omega, q⟩
  · rw [if_neg c] at q ⊢
    exact ⟨by rw [l1]; omega, by rw [al, l1]; omega, _, d, _, rfl, by decide +kernel, h0, h1, by rw [al, al, l1]; omega, q⟩
def ws_laid_out : WS := wSeq (wAsg (wLst (wNil)) (gtName 3)) (wSeq (wAsg (wOp gAdd (wSl (wVar 2) (wPart (wC (.int 1))) (wNo)) (wLst (wItm (wTup (wItm (wB gLen (wArg (wVar 0) (wNil))) (wItm (wB gLen (wArg (wVar 1) (wNil))) (wNil)))) (wNil)))) (gtName 4)) (wSeq (wFor (itsZ (wArg (wVar 2) (wArg (wFrz 4) (wNil)))) (gtTup 2 (gtCons (gtName 5) (gtCons (gtName 6) (fun ds env Q => ds = [] ∧ Q env)))) (wSeq (wAsg (wVar 5) (gtTup 2 (gtCons (gtName 7) (gtCons (gtName 8) (fun ds env Q => ds = [] ∧ Q env))))) (wSeq (wApp 3 (wCall0 spec_pair_row [] (wArg (wOp gIx (wVar 0) (wVar 7)) (wArg (wOp gIx (wVar 1) (wVar 8)) (wNil))))) (wSeq (wExt 3 (wLc (itsL (wSl (wVar 0) (wPart (wOp gAdd (wVar 7) (wC (.int 1)))) (wPart (wOp gIx (wVar 6) (wC (.int 0)))))) (gtTup 2 (gtCons (gtName 9) (gtCons (gtName 10) (fun ds env Q => ds = [] ∧ Q env)))) wYes (wCall0 spec_row_by [] (wArg (wC (.str "-")) (wArg (wVar 9) (wArg (wVar 10) (wNil))))) [9, 10])) (wExt 3 (wLc (itsL (wSl (wVar 1) (wPart (wOp gAdd (wVar 8) (wC (.int 1)))) (wPart (wOp gIx (wVar 6) (wC (.int 1)))))) (gtTup 2 (gtCons (gtName 9) (gtCons (gtName 10) (fun ds env Q => ds = [] ∧ Q env)))) wYes (wCall0 spec_row_by [] (wArg (wC (.str "+")) (wArg (wVar 9) (wArg (wVar 10) (wNil))))) [9, 10])))))) (wRet (wMov 3))))
abbrev n_laid_out : Nat := 11
def spec_laid_out : SpecT := fun ds _ Q => ∃ (one other : List Row) (M : List (Nat × Nat)), ds = [.lst false (one.map rowD), .lst false (other.map rowD), .lst false (M.map pairD)] ∧ RowsB one ∧ RowsB other ∧ M.length ≤ 200 ∧ (∀ p ∈ M, p.1 < one.length ∧ p.2 < other.length) ∧ Q (.lst true ((chunks one other M).map D.str))
theorem len_laid_out : ∀ ds px Q, spec_laid_out ds px Q → ds.length = 3 := by
  rintro ds px Q ⟨a, b, c, rfl, _⟩; rfl
theorem zipD_map {α β : Type} {f : α → D} {g : β → D} : ∀ (xs : List α) (ys : List β), zipD (xs.map f) (ys.map g) = (xs.zip ys).map fun p => .tup [f p.1, g p.2]
  | [], ys => by simp [zipD]
  | x :: xs, [] => by simp [zipD]
  | x :: xs, y :: ys => by
    rw [List.map_cons, List.map_cons, zipD, zipD_map xs ys]; rfl
def stopsL (one other : List Row) (M : List (Nat × Nat)) : List (Nat × Nat) := M.drop 1 ++ [(one.length, other.length)]
def zipL (one other : List Row) (M : List (Nat × Nat)) : List ((Nat × Nat) × (Nat × Nat)) := M.zip (stopsL one other M)
theorem zipL_len {one other : List Row} {M : List (Nat × Nat)} : (zipL one other M).length = M.length := by
  unfold zipL stopsL
  rw [List.length_zip, List.length_append, List.length_drop, List.length_singleton]
  cases M with
  | nil => rfl
  | cons a b => simp
theorem chunks_zip (one other : List Row) : ∀ (M : List (Nat × Nat)), chunks one other M = ((zipL one other M).map fun p => chunk one other p.1 p.2).flatten
  | [] => rfl
  | [p] => by simp [chunks, zipL, stopsL]
  | p :: q :: r => by
    rw [chunks, chunks_zip one other (q :: r)]
    simp [zipL, stopsL]
theorem segR_len (rows : List Row) (a b : Nat) : (segR rows a b).length ≤ rows.length := by
  unfold segR
  rw [List.length_take, List.length_drop]; omega
theorem chunk_len (one other : List Row) (p q : Nat × Nat) : (chunk one other p q).length ≤ 1 + one.length + other.length := by
  have h1 := segR_len one (p.1 + 1) q.1
  have h2 := segR_len other (p.2 + 1) q.2
  unfold chunk
  rw [List.length_cons, List.length_append, List.length_map, List.length_map]; omega
theorem flat_len (one other : List Row) : ∀ (Z : List ((Nat × Nat) × (Nat × Nat))), ((Z.map fun p => chunk one other p.1 p.2).flatten).length ≤ Z.length * (1 + one.length + other.length)
  | [] => by simp
  | z :: Z => by
    have ih := flat_len one other Z
    have h := chunk_len one other z.1 z.2
    rw [List.map_cons, List.flatten_cons, List.length_append, List.length_cons, Nat.succ_mul]; omega
theorem rAt_at {rows : List Row} {n : Nat} (h : n < rows.length) : atI (rows.map rowD) (n : Int) = some (rowD (rAt rows n)) ∧ rAt rows n ∈ rows := by
  have g : rows[n]? = some rows[n] := List.getElem?_eq_getElem h
  have e : rAt rows n = rows[n] := by unfold rAt; rw [List.getD_eq_getElem?_getD, g]; rfl
  rw [e]
  exact ⟨map_at (f := rowD) rfl g, List.getElem_mem _⟩
theorem seg_mem {rows : List Row} {a b : Nat} {r : Row} (h : r ∈ segR rows a b) : r ∈ rows := List.mem_of_mem_drop (List.mem_of_mem_take h)
theorem pure_laid_out : ∀ ds px Q, spec_laid_out ds px Q → ws_laid_out (PEnds.top Q) px (start0 11 ds) := by
  rintro ds px Q ⟨one, other, M, rfl, b1, b2, hM, hr, q⟩
  have hl1 := b1.len
  have hl2 := b2.len
  show ws_laid_out (PEnds.top Q) px [some (.lst false (one.map rowD)), some (.lst false (other.map rowD)), some (.lst false (M.map pairD)), none, none, none, none, none, none, none, none]
  unfold ws_laid_out
  walk_at "tm"
  have ec : Tm.cutD (M.map pairD) (some 1) none ++ [D.tup [.int one.length, .int other.length]] = (stopsL one other M).map pairD := by
    have : Tm.cutD (M.map pairD) (some 1) none = (M.drop 1).map pairD := by rw [List.map_drop]; exact cutD_from (n := 1)
    rw [this]
    unfold stopsL
    rw [List.map_append]; rfl
  have ec2 : Tm.cutD (M.map pairD) (some 1) none = (M.drop 1).map pairD := by rw [List.map_drop]; exact cutD_from (n := 1)
  rw [ec, pairsD_fz, ec2, zipD_map]
  have hz : (M.zip (stopsL one other M)) = zipL one other M := rfl
  rw [hz]
  have hzl := zipL_len (one := one) (other := other) (M := M)
  refine ⟨pairsD_dirty _, pairsD_dirty _, by rw [List.length_map, List.length_drop]; omega, pairsD_dirty _, pairsD_dirty _, fun i env => ∃ (acc : List Str) (x5 x6 x7 x8 : Option D), env = [some (.lst false (one.map rowD)), some (.lst false (other.map rowD)), some (.lst false (M.map pairD)), some (.lst true (acc.map D.str)), some (.lst false ((stopsL one other M).map pairD)), x5, x6, x7, x8, none, none] ∧ acc = (((zipL one other M).take i).map fun p => chunk one other p.1 p.2).flatten, ⟨[], _, _, _, _, rfl, rfl⟩, ?_, ?_⟩
  · rintro i d env2 hd ⟨acc, x5, x6, x7, x8, rfl, hacc⟩
    obtain ⟨⟨p, s⟩, hg, rfl⟩ := map_get hd
    have hi := (List.getElem?_eq_some_iff.mp hg).1
    have hp : p ∈ M := (List.of_mem_zip (List.mem_of_getElem? hg)).1
    have hpr := hr p hp
    have flen := flat_len one other ((zipL one other M).take i)
    have tlen : ((zipL one other M).take i).length = i := by rw [List.length_take]; omega
    rw [tlen] at flen
    have bound : i * (1 + one.length + other.length) ≤ 200 * 401 := Nat.mul_le_mul (by omega) (by omega)
    have enext : (((zipL one other M).take (i + 1)).map fun p => chunk one other p.1 p.2).flatten = (((zipL one other M).take i).map fun p => chunk one other p.1 p.2).flatten ++ chunk one other p s := by
      rw [List.take_succ, hg]
      simp
    rw [← hacc] at flen enext
    have s1 := segR_len one (p.1 + 1) s.1
    have s2 := segR_len other (p.2 + 1) s.2
    obtain ⟨a1, m1⟩ := rAt_at hpr.1
    obtain ⟨a2, m2⟩ := rAt_at hpr.2
    have k1 := b1.ok _ m1
    have k2 := b2.ok _ m2
    rw [show chunk one other p s = pairT (rAt one p.1) (rAt other p.2) :: ((segR one (p.1 + 1) s.1).map (rowT minusS) ++ (segR other (p.2 + 1) s.2).map (rowT plusS)) from rfl] at enext
    generalize rAt one p.1 = r1 at a1 k1 enext
    generalize rAt other p.2 = r2 at a2 k2 enext
    rw [pairD_eq, pairD_eq]
    walk_at "tm"
    refine atK_of a1 rfl ?_
    walk_at "tm"
    refine atK_of a2 rfl ?_
    walk_at "tm"
    refine ⟨r1, r2, rfl, k1, k2.1, ?_⟩
    walk_at "tm"
    have c1 : Tm.cutD (one.map rowD) (some ((p.1 : Int) + 1)) (some (s.1 : Int)) = (segR one (p.1 + 1) s.1).map rowD := by
      unfold segR
      rw [List.map_take, List.map_drop]; exact cutD_mid (n := p.1 + 1) (m := s.1)
    have c2 : Tm.cutD (other.map rowD) (some ((p.2 : Int) + 1)) (some (s.2 : Int)) = (segR other (p.2 + 1) s.2).map rowD := by
      unfold segR
      rw [List.map_take, List.map_drop]; exact cutD_mid (n := p.2 + 1) (m := s.2)
    have sd : ∀ xs : List Str, dirtys (xs.map D.str) = false := fun xs => dirtys_mapI (f := D.str) (fun _ => rfl) xs
    have e1 : ∀ (x : Str), acc.map D.str ++ [D.str x] = (acc ++ [x]).map D.str := fun x => by simp
    have e2 : ∀ (X : List Str) (Y : List Row) (t : Str), X.map D.str ++ ([] ++ (Y.filter fun _ => true).map (fun r => D.str (rowT t r))) = (X ++ Y.map (rowT t)).map D.str := fun X Y t => by
      rw [filter_yes, List.nil_append, List.map_append, List.map_map]; rfl
    have e3 : ∀ (Y : List Row) (t : Str), [] ++ (Y.filter fun _ => true).map (fun r => D.str (rowT t r)) = (Y.map (rowT t)).map D.str := fun Y t => by
      rw [filter_yes, List.nil_append, List.map_map]; rfl
    rw [c1, c2, e1]
    have q1 : ∀ (rows : List Row) (B : RowsB rows) (a b : Nat) (t : Str) (ht : t.length ≤ 1) (r : Row), r ∈ segR rows a b → ∀ K : D → Prop, K (.str (rowT t r)) → spec_row_by [.str t, .int r.1, .str r.2] px0 K := fun rows B a b t ht r hr K hK => by
      have := B.ok r (seg_mem hr)
      exact ⟨t, r.1, r.2, rfl, ht, this.2.1, this.2.2, by have := this.1.2.2; omega, hK⟩
    refine ⟨by omega, rowsD_dirty _, rowsD_dirty _, lcW_map (f := rowD) (fun _ => true) (fun r => .str (rowT minusS r)) (segR one (p.1 + 1) s.1) [] (by rw [List.length_nil]; omega) ?_ ?_⟩
    · rintro r hr' Y N hy _
      rw [rowD_eq]
      walk_at "tm"
      exact q1 one b1 _ _ minusS (by decide +kernel) r hr' _ (by
        walk_at "tm"
        exact hy rfl)
    rw [e3, ← List.map_append]
    refine ⟨sd _, sd _, by simp; omega, rowsD_dirty _, rowsD_dirty _, lcW_map (f := rowD) (fun _ => true) (fun r => .str (rowT plusS r)) (segR other (p.2 + 1) s.2) [] (by rw [List.length_nil]; omega) ?_ ?_⟩
    · rintro r hr' Y N hy _
      rw [rowD_eq]
      walk_at "tm"
      exact q1 other b2 _ _ plusS (by decide +kernel) r hr' _ (by
        walk_at "tm"
        exact hy rfl)
    rw [e3, ← List.map_append]
    refine ⟨sd _, sd _, by simp; omega, _, _, _, _, _, rfl, ?_⟩
    rw [enext]
    simp
  · rintro env2 ⟨acc, x5, x6, x7, x8, rfl, hacc⟩
    rw [List.length_map, List.take_length, ← chunks_zip] at hacc
    subst hacc
    walk_at "tm"
    exact q

--@here
theorem cutS_mid {x : Str} {a b : Nat} (hb : b ≤ x.length) : cutS x (some (a : Int)) (some (b : Int)) = ⟨((x.cps.toList.drop a).take (b - a)).toArray⟩ := by
  unfold cutS
  rw [HT.sIx_nat, HT.sIx_nat, Nat.min_eq_left hb]
  by_cases h : a ≤ x.length
  · rw [Nat.min_eq_left h]
  · rw [Nat.min_eq_right (by omega), show b - x.length = 0 from by omega, show b - a = 0 from by omega, List.take_zero, List.take_zero]
theorem cutS_from {x : Str} {a : Nat} : cutS x (some (a : Int)) none = ⟨(x.cps.toList.drop a).toArray⟩ := by
  unfold cutS
  rw [HT.sIx_nat, HT.sIx_none]
  by_cases h : a ≤ x.length
  · rw [Nat.min_eq_left h, List.take_of_length_le (by rw [List.length_drop, str_len]; omega)]
  · rw [Nat.min_eq_right (by omega), Nat.sub_self, List.take_zero, List.drop_of_length_le (by rw [str_len]; omega)]
theorem cutS_to {x : Str} {b : Nat} (hb : b ≤ x.length) : cutS x none (some (b : Int)) = ⟨(x.cps.toList.take b).toArray⟩ := by
  unfold cutS
  rw [HT.sIx_none, HT.sIx_nat, Nat.min_eq_left hb, Nat.sub_zero, List.drop_zero]

/-! rows read: what a row's text tells -/
theorem strip_codes (g : Nat → Bool) (l r : Bool) (x : Str) : (Txt.stripBy g l r x).cps.toList = (x.cps.toList.drop (stripLo g l x)).take (stripHi g r x (stripLo g l x) - stripLo g l x) := by
  rw [W.stripBy_eq]
  exact StrLaws.strSub_toList _ _ _
theorem blank_cps : (Str.ofString " ").cps = #[32] := by decide +kernel
theorem blank_in (c : Nat) : (Str.ofString " ").cps.contains c = decide (c = 32) := by
  rw [blank_cps]
  by_cases h : c = 32
  · subst h; simp
  · simp [h]
theorem tw_none {g : Nat → Bool} {w : List Nat} (h : ∀ c ∈ w, g c = false) : w.takeWhile g = [] := by
  cases w with
  | nil => rfl
  | cons a r => rw [List.takeWhile_cons, h a List.mem_cons_self]; rfl
theorem tw_rep {g : Nat → Bool} {w : List Nat} (h : ∀ c ∈ w, g c = false) (hg : g 32 = true) : ∀ k : Nat, ((List.replicate k 32 ++ w).takeWhile g).length = k
  | 0 => by rw [List.replicate_zero, List.nil_append, tw_none h]; rfl
  | k + 1 => by rw [List.replicate_succ, List.cons_append, List.takeWhile_cons, hg, if_pos rfl, List.length_cons, tw_rep h hg k]
theorem strip_row {x : Str} {k : Nat} {w : List Nat} (e : x.cps.toList = List.replicate k 32 ++ w) (h : ∀ c ∈ w, c ≠ 32) : Txt.stripChars x (Str.ofString " ") = SX.S w ∧ (Txt.lstripChars x (Str.ofString " ")).length = w.length := by
  have hg : ∀ c ∈ w, (Str.ofString " ").cps.contains c = false := fun c hc => by rw [blank_in, decide_eq_false (h c hc)]
  have h32 : (Str.ofString " ").cps.contains 32 = true := by rw [blank_in]; rfl
  have lo : stripLo (Str.ofString " ").cps.contains true x = k := by
    unfold stripLo
    rw [if_pos rfl, e, tw_rep hg h32]
  have hl : x.length = k + w.length := by rw [← str_len, e]; simp
  constructor
  · refine (str_of ?_).trans (S_of _).symm.symm
    unfold Txt.stripChars
    rw [strip_codes, lo]
    unfold stripHi
    rw [if_pos rfl, e, List.drop_left' (by simp), tw_none (w := w.reverse) (fun c hc => hg c (List.mem_reverse.mp hc)), List.length_nil, hl, show k + w.length - 0 - k = w.length from by omega, List.take_length]
  · unfold Txt.lstripChars
    rw [← str_len, strip_codes, lo]
    unfold stripHi
    rw [if_neg (by decide), e, List.drop_left' (by simp), hl, show k + w.length - k = w.length from by omega, List.take_length]
theorem gt_cps : Str.ofString ">" = ⟨#[62]⟩ := by decide +kernel
theorem part_no {x : Str} (h : 62 ∉ x.cps.toList) : Txt.partition x (Str.ofString ">") = (x, Str.empty, Str.empty) := by
  unfold Txt.partition
  rw [gt_cps]
  rcases StrLaws.occ_head x ⟨#[62]⟩ 1 (Nat.le_refl _) with ⟨e, _⟩ | ⟨i, r, e, ha, _⟩
  · rw [e]
  · exact absurd (List.mem_of_getElem? ((StrLaws.subAt_one x 62 i).mp ha)) h
theorem part_at {x : Str} {a b : List Nat} (e : x.cps.toList = a ++ 62 :: b) (h : 62 ∉ a) : Txt.partition x (Str.ofString ">") = (SX.S a, Str.ofString ">", SX.S b) := by
  have at1 : x.cps.toList[a.length]? = some 62 := by rw [e]; simp
  have hl : x.length = a.length + (b.length + 1) := by rw [← str_len, e]; simp
  unfold Txt.partition
  rw [gt_cps]
  rcases StrLaws.occ_head x ⟨#[62]⟩ 1 (Nat.le_refl _) with ⟨_, hn⟩ | ⟨i, r, e2, ha, hn⟩
  · exact absurd ((StrLaws.subAt_one x 62 _).mpr at1) (hn _)
  · have hi : i = a.length := by
      have h1 : ¬ a.length < i := fun z => hn _ z ((StrLaws.subAt_one x 62 _).mpr at1)
      have h2 : ¬ i < a.length := fun z => by
        have := (StrLaws.subAt_one x 62 i).mp ha
        rw [e, List.getElem?_append_left z] at this
        exact h (List.mem_of_getElem? this)
      omega
    subst hi
    rw [e2]
    have s1 : Builtin.Str.strSub x 0 a.length = SX.S a := by
      refine (str_of (StrLaws.strSub_toList _ _ _)).trans ?_
      rw [e]; simp [SX.S]
    have s2 : Builtin.Str.strSub x (a.length + (⟨#[62]⟩ : Str).length) x.length = SX.S b := by
      refine (str_of (StrLaws.strSub_toList _ _ _)).trans ?_
      rw [e, hl, show (⟨#[62]⟩ : Str).length = 1 from rfl, show a ++ 62 :: b = (a ++ [62]) ++ b from by simp, List.drop_left' (by simp), List.take_of_length_le (by omega)]
    show (Builtin.Str.strSub x 0 a.length, _, _) = _
    rw [s1, s2]
theorem ind_codes (d : Int) : (ind d).cps.toList = List.replicate (2 * d.toNat) 32 := by
  have e : (ind d).cps.toList = repl d.toNat (Str.ofString "  ").cps.toList := rfl
  have e2 : (Str.ofString "  ").cps.toList = List.replicate 2 32 := by decide +kernel
  rw [e, e2]
  unfold repl
  rw [List.flatten_replicate_replicate, Nat.mul_comm]
theorem sg_no {w : Str} (h : Sg w) : (∀ c ∈ w.cps.toList, c ≠ 32) ∧ 62 ∉ w.cps.toList := by
  have all : SG.cps.toList.all (fun c => decide (c ≠ 32 ∧ c ≠ 62)) = true := by decide +kernel
  have k : ∀ c ∈ w.cps.toList, c ≠ 32 ∧ c ≠ 62 := fun c hc => of_decide_eq_true (List.all_eq_true.mp all c (h c hc))
  exact ⟨fun c hc => (k c hc).1, fun hc => (k 62 hc).2 rfl⟩
/-- what `words_of` tells of a row -/
def rdW (x : Str) : Str × Int × Str × Str :=
  (cutS x none (some 1), (((cutS x (some 1) none).length : Int) - (Txt.lstripChars (cutS x (some 1) none) (Str.ofString " ")).length) / 2,
    (Txt.partition (Txt.stripChars (cutS x (some 1) none) (Str.ofString " ")) (Str.ofString ">")).1,
    if cutS x none (some 1) = Str.ofString "~" then (Txt.partition (Txt.stripChars (cutS x (some 1) none) (Str.ofString " ")) (Str.ofString ">")).2.2 else (Txt.partition (Txt.stripChars (cutS x (some 1) none) (Str.ofString " ")) (Str.ofString ">")).1)
theorem rowT_cut {c : Nat} {d : Int} {w : Str} : cutS (rowT ⟨#[c]⟩ (d, w)) none (some 1) = ⟨#[c]⟩ ∧ cutS (rowT ⟨#[c]⟩ (d, w)) (some 1) none = ind d ++ w := by
  have e : (rowT ⟨#[c]⟩ (d, w)).cps.toList = c :: (ind d ++ w).cps.toList := by
    unfold rowT
    rw [str_app, str_app, str_app]; rfl
  constructor
  · have := cutS_to (x := rowT ⟨#[c]⟩ (d, w)) (b := 1) (by rw [← str_len, e]; simp)
    rw [show ((1 : Nat) : Int) = 1 from rfl] at this
    rw [this, e]; rfl
  · have := cutS_from (x := rowT ⟨#[c]⟩ (d, w)) (a := 1)
    rw [show ((1 : Nat) : Int) = 1 from rfl] at this
    rw [this, e]
    exact (str_of rfl).symm
theorem rdW_row {c : Nat} {d : Int} {w : Str} (hc : c ≠ 126) (h0 : 0 ≤ d) (hw : Wd w) : rdW (rowT ⟨#[c]⟩ (d, w)) = (⟨#[c]⟩, d, w, w) := by
  obtain ⟨c1, c2⟩ := rowT_cut (c := c) (d := d) (w := w)
  obtain ⟨n1, n2⟩ := sg_no hw.1
  obtain ⟨s1, s2⟩ := strip_row (x := ind d ++ w) (by rw [str_app, ind_codes]) n1
  have e1 : SX.S w.cps.toList = w := (S_of w).symm
  have hl : (ind d ++ w).length = 2 * d.toNat + w.length := by rw [← str_len, str_app, ind_codes, List.length_append, List.length_replicate, str_len]
  have ne : ¬ (⟨#[c]⟩ : Str) = Str.ofString "~" := fun z => hc (by
    have := congrArg (fun s : Str => s.cps.toList) z
    rw [show (Str.ofString "~").cps.toList = [126] from by decide +kernel] at this
    simpa using this)
  unfold rdW
  rw [c1, c2, s1, s2, e1, part_no n2, if_neg ne, hl, str_len]
  simp only [Prod.mk.injEq, true_and, and_true]
  omega
theorem rdW_til {d : Int} {v w : Str} (h0 : 0 ≤ d) (hv : Wd v) (hw : Wd w) : rdW (rowT (Str.ofString "~") (d, v ++ Str.ofString ">" ++ w)) = (Str.ofString "~", d, v, w) := by
  have et : Str.ofString "~" = ⟨#[126]⟩ := by decide +kernel
  rw [et]
  obtain ⟨c1, c2⟩ := rowT_cut (c := 126) (d := d) (w := v ++ Str.ofString ">" ++ w)
  obtain ⟨n1, n2⟩ := sg_no hv.1
  obtain ⟨n3, n4⟩ := sg_no hw.1
  have ec : (v ++ Str.ofString ">" ++ w).cps.toList = v.cps.toList ++ 62 :: w.cps.toList := by
    rw [str_app, str_app, gt_cps, List.append_assoc]; rfl
  have nn : ∀ c ∈ (v ++ Str.ofString ">" ++ w).cps.toList, c ≠ 32 := fun c hc => by
    rw [ec] at hc
    rcases List.mem_append.mp hc with hc | hc
    · exact n1 c hc
    · rcases List.mem_cons.mp hc with hc | hc
      · rw [hc]; decide
      · exact n3 c hc
  obtain ⟨s1, s2⟩ := strip_row (x := ind d ++ (v ++ Str.ofString ">" ++ w)) (by rw [str_app, ind_codes]) nn
  have hl : (ind d ++ (v ++ Str.ofString ">" ++ w)).length = 2 * d.toNat + (v ++ Str.ofString ">" ++ w).cps.toList.length := by rw [← str_len, str_app, ind_codes, List.length_append, List.length_replicate]
  have pa := part_at (x := SX.S (v ++ Str.ofString ">" ++ w).cps.toList) (a := v.cps.toList) (b := w.cps.toList) (by rw [S_codes, ec]) n2
  unfold rdW
  rw [c1, c2, s1, s2, pa, et, if_pos rfl, hl, ← S_of, ← S_of]
  simp only [Prod.mk.injEq, true_and, and_true]
  omega

/-! rows read: the two trees and the pairing -/
abbrev RdS := List Row × List Row × List (Nat × Nat)
structure PF (f : Str → Str × Int × Str × Str) : Prop where
  row : ∀ {c : Nat} {d : Int} {w : Str}, c ≠ 126 → 0 ≤ d → Wd w → f (rowT ⟨#[c]⟩ (d, w)) = (⟨#[c]⟩, d, w, w)
  til : ∀ {d : Int} {v w : Str}, 0 ≤ d → Wd v → Wd w → f (rowT (Str.ofString "~") (d, v ++ Str.ofString ">" ++ w)) = (Str.ofString "~", d, v, w)
def rdStep (f : Str → Str × Int × Str × Str) (st : RdS) (x : Str) : RdS :=
  (if (f x).1 = Str.ofString "+" then st.1 else st.1 ++ [((f x).2.1, (f x).2.2.1)],
   if (f x).1 = Str.ofString "-" then st.2.1 else st.2.1 ++ [((f x).2.1, (f x).2.2.2)],
   if (f x).1 = Str.ofString " " ∨ (f x).1 = Str.ofString "~" then st.2.2 ++ [(st.1.length, st.2.1.length)] else st.2.2)
def rdAll (f : Str → Str × Int × Str × Str) (xs : List Str) : RdS := xs.foldl (rdStep f) ([], [], [])
theorem rd_minus {f : Str → Str × Int × Str × Str} (pf : PF f) : ∀ (l : List Row) (ok : ∀ r ∈ l, Wd r.2 ∧ 0 ≤ r.1) (st : RdS), (l.map (rowT minusS)).foldl (rdStep f) st = (st.1 ++ l, st.2.1, st.2.2)
  | [], _, st => by simp
  | r :: l, ok, st => by
    have k := ok r List.mem_cons_self
    have e : minusS = ⟨#[45]⟩ := by decide +kernel
    have h : f (rowT minusS r) = (⟨#[45]⟩, r.1, r.2, r.2) := by rw [e]; exact pf.row (by decide) k.2 k.1
    rw [List.map_cons, List.foldl_cons, rd_minus pf l (fun s hs => ok s (List.mem_cons_of_mem _ hs))]
    unfold rdStep
    rw [h]
    simp only
    rw [if_neg (by decide +kernel), if_pos (by decide +kernel), if_neg (by decide +kernel)]
    simp
theorem rd_plus {f : Str → Str × Int × Str × Str} (pf : PF f) : ∀ (l : List Row) (ok : ∀ r ∈ l, Wd r.2 ∧ 0 ≤ r.1) (st : RdS), (l.map (rowT plusS)).foldl (rdStep f) st = (st.1, st.2.1 ++ l, st.2.2)
  | [], _, st => by simp
  | r :: l, ok, st => by
    have k := ok r List.mem_cons_self
    have e : plusS = ⟨#[43]⟩ := by decide +kernel
    have h : f (rowT plusS r) = (⟨#[43]⟩, r.1, r.2, r.2) := by rw [e]; exact pf.row (by decide) k.2 k.1
    rw [List.map_cons, List.foldl_cons, rd_plus pf l (fun s hs => ok s (List.mem_cons_of_mem _ hs))]
    unfold rdStep
    rw [h]
    simp only
    rw [if_pos (by decide +kernel), if_neg (by decide +kernel), if_neg (by decide +kernel)]
    simp
theorem rd_pair {f : Str → Str × Int × Str × Str} (pf : PF f) {a b : Row} (ha : Wd a.2 ∧ 0 ≤ a.1) (hb : Wd b.2) (e : a.1 = b.1) (st : RdS) : rdStep f st (pairT a b) = (st.1 ++ [a], st.2.1 ++ [b], st.2.2 ++ [(st.1.length, st.2.1.length)]) := by
  unfold pairT
  by_cases c : a.2 = b.2
  · rw [if_pos c]
    have h : f (rowT (Str.ofString " ") a) = (⟨#[32]⟩, a.1, a.2, a.2) := by
      rw [show Str.ofString " " = ⟨#[32]⟩ from by decide +kernel]
      exact pf.row (by decide) ha.2 ha.1
    have eb : (a.1, a.2) = b := by rw [c, e]
    unfold rdStep
    rw [h]
    simp only
    rw [if_neg (by decide +kernel), if_neg (by decide +kernel), if_pos (by decide +kernel), eb]
    rw [show b = a from by rw [← eb]]
  · rw [if_neg c]
    have h : f (rowT (Str.ofString "~") (a.1, a.2 ++ Str.ofString ">" ++ b.2)) = (Str.ofString "~", a.1, a.2, b.2) := pf.til ha.2 ha.1 hb
    unfold rdStep
    rw [h]
    simp only
    rw [if_neg (by decide +kernel), if_neg (by decide +kernel), if_pos (.inr trivial), e]
    rw [show (b.1, b.2) = b from rfl, ← e]
def Chain (one other : List Row) : List (Nat × Nat) → Prop
  | [] => True
  | [p] => (p.1 < one.length ∧ p.2 < other.length) ∧ (rAt one p.1).1 = (rAt other p.2).1
  | p :: q :: r => (p.1 < q.1 ∧ p.2 < q.2 ∧ (p.1 < one.length ∧ p.2 < other.length) ∧ (rAt one p.1).1 = (rAt other p.2).1) ∧ Chain one other (q :: r)
theorem take_seg {rows : List Row} {a b : Nat} (h1 : a < b) (h2 : a < rows.length) : rows.take a ++ [rAt rows a] ++ segR rows (a + 1) b = rows.take b := by
  have e : rows.take a ++ [rAt rows a] = rows.take (a + 1) := by
    rw [List.take_succ, List.getElem?_eq_getElem h2]
    unfold rAt
    rw [List.getD_eq_getElem?_getD, List.getElem?_eq_getElem h2]; rfl
  rw [e]
  unfold segR
  obtain ⟨c, rfl⟩ : ∃ c, b = (a + 1) + c := ⟨b - (a + 1), by omega⟩
  rw [List.take_add (i := a + 1), show a + 1 + c - (a + 1) = c from by omega]
theorem rd_chunk {f : Str → Str × Int × Str × Str} (pf : PF f) {one other : List Row} (b1 : RowsB one) (b2 : RowsB other) {p q : Nat × Nat} (h1 : p.1 < q.1) (h2 : p.2 < q.2) (hp : p.1 < one.length ∧ p.2 < other.length) (e : (rAt one p.1).1 = (rAt other p.2).1) (acc : List (Nat × Nat)) : (chunk one other p q).foldl (rdStep f) (one.take p.1, other.take p.2, acc) = (one.take q.1, other.take q.2, acc ++ [p]) := by
  have k1 := b1.ok _ (rAt_at hp.1).2
  have k2 := b2.ok _ (rAt_at hp.2).2
  have o1 : ∀ r ∈ segR one (p.1 + 1) q.1, Wd r.2 ∧ 0 ≤ r.1 := fun r hr => ⟨(b1.ok r (seg_mem hr)).1, (b1.ok r (seg_mem hr)).2.1⟩
  have o2 : ∀ r ∈ segR other (p.2 + 1) q.2, Wd r.2 ∧ 0 ≤ r.1 := fun r hr => ⟨(b2.ok r (seg_mem hr)).1, (b2.ok r (seg_mem hr)).2.1⟩
  unfold chunk
  rw [List.foldl_cons, rd_pair pf ⟨k1.1, k1.2.1⟩ k2.1 e, List.foldl_append, rd_minus pf _ o1, rd_plus pf _ o2]
  simp only
  rw [take_seg h1 hp.1, take_seg h2 hp.2, List.length_take, List.length_take, Nat.min_eq_left (by omega), Nat.min_eq_left (by omega)]
theorem rd_chunks {f : Str → Str × Int × Str × Str} (pf : PF f) {one other : List Row} (b1 : RowsB one) (b2 : RowsB other) : ∀ (M : List (Nat × Nat)) (p : Nat × Nat) (acc : List (Nat × Nat)), Chain one other (p :: M) → (chunks one other (p :: M)).foldl (rdStep f) (one.take p.1, other.take p.2, acc) = (one, other, acc ++ p :: M)
  | [], p, acc, h => by
    rw [chunks, rd_chunk pf b1 b2 h.1.1 h.1.2 h.1 h.2, List.take_length, List.take_length]
  | q :: M, p, acc, h => by
    rw [chunks, List.foldl_append, rd_chunk pf b1 b2 h.1.1 h.1.2.1 h.1.2.2.1 h.1.2.2.2, rd_chunks pf b1 b2 M q _ h.2]
    simp
theorem rd_all {f : Str → Str × Int × Str × Str} (pf : PF f) {one other : List Row} (b1 : RowsB one) (b2 : RowsB other) {M : List (Nat × Nat)} (h : Chain one other ((0, 0) :: M)) : rdAll f (chunks one other ((0, 0) :: M)) = (one, other, (0, 0) :: M) := by
  have := rd_chunks pf b1 b2 M (0, 0) [] h
  exact this

--@here
theorem okS_of {x : Str} (h : ∀ c ∈ x.cps.toList, c < 1114112) : PyData.strOk x = true := by
  unfold PyData.strOk
  rw [Array.all_eq_true_iff_forall_mem]
  intro c hc
  exact decide_eq_true (h c (by simpa using hc))
theorem sg_lt {w : Str} (h : Sg w) : ∀ c ∈ w.cps.toList, c < 1114112 := fun c hc => by
  have all : SG.cps.toList.all (fun c => decide (c < 1114112)) = true := by decide +kernel
  exact of_decide_eq_true (List.all_eq_true.mp all c (h c hc))
theorem ind_lt (d : Int) : ∀ c ∈ (ind d).cps.toList, c < 1114112 := fun c hc => by
  have e : (ind d).cps.toList = repl d.toNat (Str.ofString "  ").cps.toList := rfl
  rw [e] at hc
  unfold repl at hc
  obtain ⟨l, hl, hc⟩ := List.mem_flatten.mp hc
  rw [(List.mem_replicate.mp hl).2] at hc
  have all : (Str.ofString "  ").cps.toList.all (fun c => decide (c < 1114112)) = true := by decide +kernel
  exact of_decide_eq_true (List.all_eq_true.mp all c hc)
theorem app_lt {a b : Str} (ha : ∀ c ∈ a.cps.toList, c < 1114112) (hb : ∀ c ∈ b.cps.toList, c < 1114112) : ∀ c ∈ (a ++ b).cps.toList, c < 1114112 := fun c hc => by
  rw [str_app] at hc
  rcases List.mem_append.mp hc with hc | hc
  · exact ha c hc
  · exact hb c hc
theorem lit_lt {x : Str} (h : x.cps.toList.all (fun c => decide (c < 1114112)) = true) : ∀ c ∈ x.cps.toList, c < 1114112 := fun c hc => of_decide_eq_true (List.all_eq_true.mp h c hc)
theorem rowT_lt {s : Str} {r : Row} (hs : ∀ c ∈ s.cps.toList, c < 1114112) (hr : ∀ c ∈ r.2.cps.toList, c < 1114112) : ∀ c ∈ (rowT s r).cps.toList, c < 1114112 := app_lt (app_lt hs (ind_lt _)) hr
theorem rAt_mem {rows : List Row} {n : Nat} (h : n < rows.length) : rAt rows n ∈ rows := (rAt_at h).2
theorem chunk_ok {one other : List Row} (b1 : RowsB one) (b2 : RowsB other) {p q : Nat × Nat} (hp : p.1 < one.length ∧ p.2 < other.length) : ∀ x ∈ chunk one other p q, PyData.strOk x = true := fun x hx => by
  have w1 : ∀ r ∈ one, ∀ c ∈ r.2.cps.toList, c < 1114112 := fun r hr => sg_lt (b1.ok r hr).1.1
  have w2 : ∀ r ∈ other, ∀ c ∈ r.2.cps.toList, c < 1114112 := fun r hr => sg_lt (b2.ok r hr).1.1
  unfold chunk at hx
  rcases List.mem_cons.mp hx with rfl | hx
  · unfold pairT
    split
    · exact okS_of (rowT_lt (lit_lt (by decide +kernel)) (w1 _ (rAt_mem hp.1)))
    · exact okS_of (rowT_lt (lit_lt (by decide +kernel)) (app_lt (app_lt (w1 _ (rAt_mem hp.1)) (lit_lt (by decide +kernel))) (w2 _ (rAt_mem hp.2))))
  · rcases List.mem_append.mp hx with hx | hx
    · obtain ⟨r, hr, rfl⟩ := List.mem_map.mp hx
      exact okS_of (rowT_lt (lit_lt (by decide +kernel)) (w1 r (seg_mem hr)))
    · obtain ⟨r, hr, rfl⟩ := List.mem_map.mp hx
      exact okS_of (rowT_lt (lit_lt (by decide +kernel)) (w2 r (seg_mem hr)))
theorem chunks_ok {one other : List Row} (b1 : RowsB one) (b2 : RowsB other) : ∀ (M : List (Nat × Nat)), (∀ p ∈ M, p.1 < one.length ∧ p.2 < other.length) → ∀ x ∈ chunks one other M, PyData.strOk x = true
  | [], _, x, hx => by simp [chunks] at hx
  | [p], h, x, hx => chunk_ok b1 b2 (h p List.mem_cons_self) x hx
  | p :: q :: r, h, x, hx => by
    rw [chunks] at hx
    rcases List.mem_append.mp hx with hx | hx
    · exact chunk_ok b1 b2 (h p List.mem_cons_self) x hx
    · exact chunks_ok b1 b2 (q :: r) (fun p hp => h p (List.mem_cons_of_mem _ hp)) x hx
theorem strs_fit {xs : List Str} {o : Bool} (h : ∀ x ∈ xs, PyData.strOk x = true) : shD (.lst o (xs.map D.str)) = true := shD_slst (f := id) xs h
theorem strs_eq {xs : List Str} {o p : Bool} : eqD (.lst o (xs.map D.str)) (.lst p (xs.map D.str)) = true := by
  have e : ∀ o, noB (.lst o (xs.map D.str)) = true := fun o => noBs_mapI (f := D.str) (fun _ => rfl) xs
  exact eqD_true (e o) (e p) rfl

/-! rows of drawn signs -/
def LtS (x : Str) : Prop := ∀ c ∈ x.cps.toList, c < 1114112
theorem LtS.ok {x : Str} (h : LtS x) : PyData.strOk x = true := okS_of h
theorem LtS.app {a b : Str} (ha : LtS a) (hb : LtS b) : LtS (a ++ b) := app_lt ha hb
theorem LtS.of_ok {x : Str} (h : PyData.strOk x = true) : LtS x := fun c hc => by
  unfold PyData.strOk at h
  exact of_decide_eq_true (Array.all_eq_true_iff_forall_mem.mp h c (by simpa using hc))
theorem cutS_to_mem {x : Str} {n : Nat} (h : n ≤ x.length) : (cutS x none (some (n : Int))).length = n ∧ ∀ c ∈ (cutS x none (some (n : Int))).cps.toList, c ∈ x.cps.toList := by
  rw [cutS_to h]
  refine ⟨?_, fun c hc => List.mem_of_mem_take (by simpa using hc)⟩
  rw [← str_len]
  show (x.cps.toList.take n).toArray.toList.length = n
  rw [List.length_take, str_len]; omega
theorem cutS_from_mem {x : Str} {n : Nat} : (cutS x (some (n : Int)) none).length = x.length - n ∧ ∀ c ∈ (cutS x (some (n : Int)) none).cps.toList, c ∈ x.cps.toList := by
  rw [cutS_from]
  refine ⟨?_, fun c hc => List.mem_of_mem_drop (by simpa using hc)⟩
  rw [← str_len]
  show (x.cps.toList.drop n).toArray.toList.length = _
  rw [List.length_drop, str_len]

theorem strip_le (g : Nat → Bool) (l r : Bool) (x : Str) : (Txt.stripBy g l r x).length ≤ x.length := by
  rw [← str_len, strip_codes, List.length_take, List.length_drop, str_len]; omega
theorem cutS_f1 {x : Str} : (cutS x (some 1) none).length ≤ x.length := by
  have := cutS_from (x := x) (a := 1)
  rw [show ((1 : Nat) : Int) = 1 from rfl] at this
  rw [this, ← str_len, ← str_len]
  show (x.cps.toList.drop 1).toArray.toList.length ≤ _
  rw [List.length_drop]; omega

def toI (p : Nat × Nat) : Int × Int := ((p.1 : Int), (p.2 : Int))
theorem toI_map (M : List (Nat × Nat)) : M.map pairD = (M.map toI).map pD := by rw [List.map_map]; rfl
theorem Ch.eld {rows : List Row} {a x : Nat} (h : Ch rows a x) : Eld rows x (some a) := ⟨h.lt, by have := h.dpx; omega, fun j h1 h2 => by have := h.mid j h1 h2; have := h.dpx; omega⟩
theorem good_of {one other : List Row} {L M : List (Nat × Nat)} (t1 : TreeL one) (t2 : TreeL other) (P : PairsP one other L L.length) (hp : M.Perm L) (hs : M.Pairwise lexN) : GoodP one other (M.map toI) := by
  have h1 : 0 < one.length := by obtain ⟨w, r, e⟩ := t1.first; rw [e]; simp
  have h2 : 0 < other.length := by obtain ⟨w, r, e⟩ := t2.first; rw [e]; simp
  have z1 := (dp_rng t1 h1).2.2.2 rfl
  have z2 := (dp_rng t2 h2).2.2.2 rfl
  have nd : (M.map Prod.fst).Nodup := (hp.map Prod.fst).nodup_iff.mpr P.n1
  have ri : ∀ (i j : Nat) p q, i < j → M[i]? = some p → M[j]? = some q → p.1 < q.1 := fun i j p q hij hi hj => by
    obtain ⟨hi', rfl⟩ := List.getElem?_eq_some_iff.mp hi
    obtain ⟨hj', rfl⟩ := List.getElem?_eq_some_iff.mp hj
    have := List.pairwise_iff_getElem.mp hs i j hi' hj' hij
    unfold lexN at this
    rcases this with h | h
    · exact h
    · have := fst_at nd hi hj h.1; omega
  have mem : ∀ {i : Nat} {p}, M[i]? = some p → p ∈ L := fun h => hp.mem_iff.mp (List.mem_of_getElem? h)
  have zL : ((0, 0) : Nat × Nat) ∈ L := List.mem_of_getElem? P.z
  obtain ⟨k0, hk0, e0⟩ := List.getElem_of_mem (hp.mem_iff.mpr zL)
  have e0 : M[k0]? = some (0, 0) := by rw [List.getElem?_eq_getElem hk0, e0]
  have k00 : k0 = 0 := by
    rcases Nat.eq_zero_or_pos k0 with h | h
    · exact h
    · have := ri 0 k0 _ _ h (List.getElem?_eq_getElem (by omega)) e0
      simp only at this; omega
  subst k00
  refine ⟨by rw [List.getElem?_map, e0]; rfl, fun k hk hkl => ?_⟩
  rw [List.length_map] at hkl
  obtain ⟨p, ep⟩ : ∃ p, M[k]? = some p := ⟨_, List.getElem?_eq_getElem hkl⟩
  obtain ⟨l, el⟩ : ∃ p, M[k - 1]? = some p := ⟨_, List.getElem?_eq_getElem (by omega)⟩
  have r1 := ri (k - 1) k l p (by omega) el ep
  have r2 := P.mono z1 z2 (l.1 + p.1 + 1) l p (mem el) (mem ep) (by omega) r1
  have rg := P.rng p (mem ep)
  obtain ⟨q, hq, c1, c2⟩ := P.up (mem ep) (.inl (by omega))
  obtain ⟨j, hj, ej⟩ := List.getElem_of_mem (hp.mem_iff.mpr hq)
  have ej : M[j]? = some q := by rw [List.getElem?_eq_getElem hj, ej]
  have jk : j < k := by
    rcases Nat.lt_trichotomy j k with h | h | h
    · exact h
    · rw [h, ep] at ej; cases ej; have := c1.lt; omega
    · have := ri k j p q h ep ej; have := c1.lt; omega
  refine ⟨toI p, toI l, q.1, q.2, by rw [List.getElem?_map, ep]; rfl, by rw [List.getElem?_map, el]; rfl, by simp only [toI]; omega, by simp only [toI]; omega, by simp only [toI]; omega, by simp only [toI]; omega, c1.eld, c2.eld, ?_⟩
  rw [← List.map_take]
  refine List.mem_map.mpr ⟨q, ?_, rfl⟩
  refine List.mem_of_getElem? (i := j) ?_
  rw [List.getElem?_take, if_pos jk]; exact ej

theorem Eld.dpx2 {rows : List Row} (t : TreeL rows) {n e : Nat} (hn : n < rows.length) (h : Eld rows n (some e)) : dp rows n = dp rows e + 1 := by
  obtain ⟨h1, h2, h3⟩ := h
  obtain ⟨a, ha⟩ : ∃ a, rows[e + 1]? = some a := ⟨_, List.getElem?_eq_getElem (by omega)⟩
  obtain ⟨b, hb⟩ : ∃ b, rows[e]? = some b := ⟨_, List.getElem?_eq_getElem (by omega)⟩
  have s := t.step e a b ha hb
  rw [← dp_of ha, ← dp_of hb] at s
  by_cases c : e + 1 = n
  · rw [c] at s; omega
  · have := h3 (e + 1) (by omega) (by omega); omega
theorem rAt_dp {rows : List Row} {n : Nat} (h : n < rows.length) : (rAt rows n).1 = dp rows n := by
  have g : rows[n]? = some rows[n] := List.getElem?_eq_getElem h
  rw [dp_of g]
  unfold rAt
  rw [List.getD_eq_getElem?_getD, g]; rfl
theorem toI_get {M : List (Nat × Nat)} {k : Nat} {p : Int × Int} (h : (M.map toI)[k]? = some p) : ∃ q, M[k]? = some q ∧ p = toI q := by
  rw [List.getElem?_map] at h
  cases e : M[k]? with
  | none => rw [e] at h; cases h
  | some q => rw [e] at h; exact ⟨q, rfl, by cases h; rfl⟩
theorem toI_inj {a b : Nat × Nat} (h : toI a = toI b) : a = b := by
  obtain ⟨a1, a2⟩ := a
  obtain ⟨b1, b2⟩ := b
  simp [toI] at h
  rw [show a1 = b1 from by omega, show a2 = b2 from by omega]
theorem GoodP.zero {one other : List Row} {M : List (Nat × Nat)} (g : GoodP one other (M.map toI)) : M[0]? = some (0, 0) := by
  obtain ⟨q, h1, h2⟩ := toI_get g.1
  have : q = (0, 0) := toI_inj h2.symm
  rw [h1, this]
theorem GoodP.step {one other : List Row} {M : List (Nat × Nat)} (g : GoodP one other (M.map toI)) {k : Nat} {p : Nat × Nat} (h0 : 0 < k) (hp : M[k]? = some p) : ∃ (l : Nat × Nat) (a b : Nat), M[k - 1]? = some l ∧ l.1 < p.1 ∧ l.2 < p.2 ∧ p.1 < one.length ∧ p.2 < other.length ∧ Eld one p.1 (some a) ∧ Eld other p.2 (some b) ∧ ∃ j, j < k ∧ M[j]? = some (a, b) := by
  have hk : k < M.length := (List.getElem?_eq_some_iff.mp hp).1
  obtain ⟨p', l', a, b, e1, e2, h1, h2, h3, h4, h5, h6, h7⟩ := g.2 k h0 (by rw [List.length_map]; exact hk)
  obtain ⟨q, hq, rfl⟩ := toI_get e1
  rw [hp] at hq; cases hq
  obtain ⟨l, hl, rfl⟩ := toI_get e2
  rw [← List.map_take] at h7
  obtain ⟨r, hr, er⟩ := List.mem_map.mp h7
  have er : r = (a, b) := toI_inj er
  subst er
  obtain ⟨j, hj, ej⟩ := List.getElem_of_mem hr
  rw [List.length_take] at hj
  rw [List.getElem_take] at ej
  simp only [toI] at h1 h2 h3 h4 h5 h6
  exact ⟨l, a, b, hl, by omega, by omega, by omega, by omega, by simpa using h5, by simpa using h6, j, by omega, by rw [List.getElem?_eq_getElem (by omega), ej]⟩
theorem GoodP.swap {one other : List Row} {M : List (Nat × Nat)} (g : GoodP one other (M.map toI)) : GoodP other one ((M.map Prod.swap).map toI) := by
  refine ⟨by rw [List.getElem?_map, List.getElem?_map, g.zero]; rfl, fun k h0 hk => ?_⟩
  rw [List.length_map, List.length_map] at hk
  obtain ⟨p, hp⟩ : ∃ p, M[k]? = some p := ⟨_, List.getElem?_eq_getElem hk⟩
  obtain ⟨l, a, b, hl, h1, h2, h3, h4, h5, h6, j, hj, ej⟩ := g.step h0 hp
  refine ⟨toI p.swap, toI l.swap, b, a, by rw [List.getElem?_map, List.getElem?_map, hp]; rfl, by rw [List.getElem?_map, List.getElem?_map, hl]; rfl, by simp only [toI, Prod.fst_swap]; omega, by simp only [toI, Prod.snd_swap]; omega, by simp only [toI, Prod.fst_swap]; omega, by simp only [toI, Prod.snd_swap]; omega, h6, h5, ?_⟩
  rw [← List.map_take, ← List.map_take]
  refine List.mem_map.mpr ⟨(b, a), List.mem_map.mpr ⟨(a, b), ?_, rfl⟩, rfl⟩
  refine List.mem_of_getElem? (i := j) ?_
  rw [List.getElem?_take, if_pos hj]; exact ej
theorem GoodP.rng {one other : List Row} {M : List (Nat × Nat)} (g : GoodP one other (M.map toI)) (h1 : 0 < one.length) (h2 : 0 < other.length) {k : Nat} {p : Nat × Nat} (hp : M[k]? = some p) : p.1 < one.length ∧ p.2 < other.length := by
  by_cases z : k = 0
  · subst z; rw [g.zero] at hp; cases hp; exact ⟨h1, h2⟩
  · obtain ⟨l, a, b, _, _, _, h3, h4, _⟩ := g.step (by omega) hp
    exact ⟨h3, h4⟩
theorem GoodP.deep {one other : List Row} {M : List (Nat × Nat)} (t1 : TreeL one) (t2 : TreeL other) (h1 : 0 < one.length) (h2 : 0 < other.length) (g : GoodP one other (M.map toI)) : ∀ (n k : Nat) p, k ≤ n → M[k]? = some p → dp one p.1 = dp other p.2
  | n, k, p, hk, hp => by
    by_cases z : k = 0
    · subst z; rw [g.zero] at hp; cases hp
      rw [(dp_rng t1 h1).2.2.2 rfl, (dp_rng t2 h2).2.2.2 rfl]
    · obtain ⟨l, a, b, _, _, _, h3, h4, h5, h6, j, hj, ej⟩ := g.step (by omega) hp
      cases n with
      | zero => omega
      | succ n =>
        have := g.deep t1 t2 h1 h2 n j _ (by omega) ej
        rw [h5.dpx2 t1 h3, h6.dpx2 t2 h4, this]
theorem chain_of {one other : List Row} : ∀ M : List (Nat × Nat), (∀ (k : Nat) p, M[k]? = some p → (p.1 < one.length ∧ p.2 < other.length) ∧ (rAt one p.1).1 = (rAt other p.2).1) → (∀ (k : Nat) p q, M[k]? = some p → M[k + 1]? = some q → p.1 < q.1 ∧ p.2 < q.2) → Chain one other M
  | [], _, _ => trivial
  | [p], h, _ => h 0 p rfl
  | p :: q :: r, h, h2 => ⟨⟨(h2 0 p q rfl rfl).1, (h2 0 p q rfl rfl).2, h 0 p rfl⟩, chain_of (q :: r) (fun k p hp => h (k + 1) p hp) (fun k a b ha hb => h2 (k + 1) a b ha hb)⟩
theorem GoodP.chain {one other : List Row} {M : List (Nat × Nat)} (t1 : TreeL one) (t2 : TreeL other) (g : GoodP one other (M.map toI)) : Chain one other M := by
  have h1 : 0 < one.length := by obtain ⟨w, r, e⟩ := t1.first; rw [e]; simp
  have h2 : 0 < other.length := by obtain ⟨w, r, e⟩ := t2.first; rw [e]; simp
  refine chain_of M (fun k p hp => ?_) fun k p q hp hq => ?_
  · have := g.rng h1 h2 hp
    refine ⟨this, ?_⟩
    rw [rAt_dp this.1, rAt_dp this.2]
    exact g.deep t1 t2 h1 h2 k k p (Nat.le_refl _) hp
  · obtain ⟨l, a, b, hl, r1, r2, _⟩ := g.step (k := k + 1) (by omega) hq
    rw [Nat.add_sub_cancel, hp] at hl; cases hl
    exact ⟨r1, r2⟩
theorem GoodP.read {f : Str → Str × Int × Str × Str} (pf : PF f) {one other : List Row} {M : List (Nat × Nat)} (t1 : TreeL one) (t2 : TreeL other) (b1 : RowsB one) (b2 : RowsB other) (g : GoodP one other (M.map toI)) : rdAll f (chunks one other M) = (one, other, M) := by
  obtain ⟨r, e⟩ : ∃ r, M = (0, 0) :: r := by
    have := g.zero
    cases M with
    | nil => cases this
    | cons a r => cases this; exact ⟨r, rfl⟩
  have := g.chain t1 t2
  rw [e] at this ⊢
  exact rd_all pf b1 b2 this
theorem GoodP.len {one other : List Row} {M : List (Nat × Nat)} (h1 : 0 < one.length) (h2 : 0 < other.length) (g : GoodP one other (M.map toI)) : M.length ≤ one.length := by
  have key : ∀ (k : Nat) p, M[k]? = some p → k ≤ p.1 := fun k => by
    induction k with
    | zero => intro p _; omega
    | succ k ih =>
      intro p hp
      obtain ⟨l, a, b, hl, r1, _⟩ := g.step (k := k + 1) (by omega) hp
      rw [Nat.add_sub_cancel] at hl
      have := ih l hl
      omega
  by_cases z : M.length = 0
  · omega
  · obtain ⟨p, hp⟩ : ∃ p, M[M.length - 1]? = some p := ⟨_, List.getElem?_eq_getElem (by omega)⟩
    have := key _ p hp
    have := (g.rng h1 h2 hp).1
    omega
theorem rd_len (f : Str → Str × Int × Str × Str) : ∀ (xs : List Str) (st : RdS), (xs.foldl (rdStep f) st).1.length ≤ st.1.length + xs.length ∧ (xs.foldl (rdStep f) st).2.1.length ≤ st.2.1.length + xs.length ∧ (xs.foldl (rdStep f) st).2.2.length ≤ st.2.2.length + xs.length
  | [], st => ⟨by simp, by simp, by simp⟩
  | x :: xs, st => by
    obtain ⟨h1, h2, h3⟩ := rd_len f xs (rdStep f st x)
    have k1 : (rdStep f st x).1.length ≤ st.1.length + 1 := by unfold rdStep; simp only; split <;> simp
    have k2 : (rdStep f st x).2.1.length ≤ st.2.1.length + 1 := by unfold rdStep; simp only; split <;> simp
    have k3 : (rdStep f st x).2.2.length ≤ st.2.2.length + 1 := by unfold rdStep; simp only; split <;> simp
    rw [List.foldl_cons, List.length_cons]
    omega
theorem PF.rd : PF rdW := ⟨fun h1 h2 h3 => rdW_row h1 h2 h3, fun h1 h2 h3 => rdW_til h1 h2 h3⟩
structure Rise (st : RdS) : Prop where
  rng : ∀ p ∈ st.2.2, p.1 < st.1.length ∧ p.2 < st.2.1.length
  up : st.2.2.Pairwise fun p q => p.1 < q.1 ∧ p.2 < q.2
  len : st.2.2.length ≤ st.1.length
theorem Rise.nil : Rise ([], [], []) := ⟨fun p h => by simp at h, .nil, by simp⟩
theorem Rise.step {f : Str → Str × Int × Str × Str} {st : RdS} {x : Str} (h : Rise st) : Rise (rdStep f st x) := by
  have g1 : st.1.length ≤ (rdStep f st x).1.length := by unfold rdStep; simp only; split <;> simp
  have g2 : st.2.1.length ≤ (rdStep f st x).2.1.length := by unfold rdStep; simp only; split <;> simp
  by_cases c : (f x).1 = Str.ofString " " ∨ (f x).1 = Str.ofString "~"
  · have n1 : ¬ (f x).1 = Str.ofString "+" := fun z => by
      rcases c with c | c <;> (rw [z] at c; revert c; decide +kernel)
    have n2 : ¬ (f x).1 = Str.ofString "-" := fun z => by
      rcases c with c | c <;> (rw [z] at c; revert c; decide +kernel)
    have e : rdStep f st x = (st.1 ++ [((f x).2.1, (f x).2.2.1)], st.2.1 ++ [((f x).2.1, (f x).2.2.2)], st.2.2 ++ [(st.1.length, st.2.1.length)]) := by
      unfold rdStep
      rw [if_neg n1, if_neg n2, if_pos c]
    rw [e]
    refine ⟨fun p hp => ?_, ?_, by have := h.len; simp; omega⟩
    · simp only [List.length_append, List.length_singleton]
      rcases List.mem_append.mp hp with hp | hp
      · have := h.rng p hp; omega
      · rw [List.mem_singleton.mp hp]; simp only; omega
    · refine List.pairwise_append.mpr ⟨h.up, List.pairwise_singleton _ _, fun p hp q hq => ?_⟩
      rw [List.mem_singleton.mp hq]
      exact h.rng p hp
  · have e : (rdStep f st x).2.2 = st.2.2 := by
      unfold rdStep
      simp only
      rw [if_neg c]
    refine ⟨fun p hp => ?_, by rw [e]; exact h.up, by rw [e]; have := h.len; omega⟩
    rw [e] at hp
    have := h.rng p hp
    omega
theorem Rise.all {f : Str → Str × Int × Str × Str} : ∀ (xs : List Str) {st : RdS}, Rise st → Rise (xs.foldl (rdStep f) st)
  | [], _, h => h
  | x :: xs, _, h => Rise.all xs h.step
theorem rd_ok {f : Str → Str × Int × Str × Str} {L : Nat} : ∀ (xs : List Str) {st : RdS}, (∀ x ∈ xs, ((f x).2.2.1.length ≤ L ∧ LtS (f x).2.2.1) ∧ (f x).2.2.2.length ≤ L ∧ LtS (f x).2.2.2) → (∀ r ∈ st.1, r.2.length ≤ L ∧ LtS r.2) → (∀ r ∈ st.2.1, r.2.length ≤ L ∧ LtS r.2) →
    (∀ r ∈ (xs.foldl (rdStep f) st).1, r.2.length ≤ L ∧ LtS r.2) ∧ ∀ r ∈ (xs.foldl (rdStep f) st).2.1, r.2.length ≤ L ∧ LtS r.2
  | [], _, _, h1, h2 => ⟨h1, h2⟩
  | x :: xs, st, hx, h1, h2 => by
    have k := hx x List.mem_cons_self
    refine rd_ok xs (fun y hy => hx y (List.mem_cons_of_mem _ hy)) (fun r hr => ?_) fun r hr => ?_
    · unfold rdStep at hr
      simp only at hr
      split at hr
      · exact h1 r hr
      · rcases List.mem_append.mp hr with hr | hr
        · exact h1 r hr
        · rw [List.mem_singleton.mp hr]; exact k.1
    · unfold rdStep at hr
      simp only at hr
      split at hr
      · exact h2 r hr
      · rcases List.mem_append.mp hr with hr | hr
        · exact h2 r hr
        · rw [List.mem_singleton.mp hr]; exact k.2
theorem part_sub (x y : Str) : ((Txt.partition x y).1.length ≤ x.length ∧ ∀ c ∈ (Txt.partition x y).1.cps.toList, c ∈ x.cps.toList) ∧ (Txt.partition x y).2.2.length ≤ x.length ∧ ∀ c ∈ (Txt.partition x y).2.2.cps.toList, c ∈ x.cps.toList := by
  have sub : ∀ i j, (Builtin.Str.strSub x i j).length ≤ x.length ∧ ∀ c ∈ (Builtin.Str.strSub x i j).cps.toList, c ∈ x.cps.toList := fun i j => by
    rw [← str_len, ← str_len, StrLaws.strSub_toList]
    exact ⟨by rw [List.length_take, List.length_drop]; omega, fun c hc => List.mem_of_mem_drop (List.mem_of_mem_take hc)⟩
  unfold Txt.partition
  split
  · exact ⟨sub _ _, sub _ _⟩
  · exact ⟨⟨Nat.le_refl _, fun c hc => hc⟩, Nat.zero_le _, fun c hc => by simp [Str.empty] at hc⟩
theorem rdW_sub {x : Str} (hx : LtS x) : ((rdW x).2.2.1.length ≤ x.length ∧ LtS (rdW x).2.2.1) ∧ (rdW x).2.2.2.length ≤ x.length ∧ LtS (rdW x).2.2.2 := by
  have c1 := cutS_from_mem (x := x) (n := 1)
  rw [show ((1 : Nat) : Int) = 1 from rfl] at c1
  have s1 := strip_le (Str.ofString " ").cps.contains true true (cutS x (some 1) none)
  have s2 : ∀ c ∈ (Txt.stripChars (cutS x (some 1) none) (Str.ofString " ")).cps.toList, c ∈ (cutS x (some 1) none).cps.toList := fun c hc => by
    unfold Txt.stripChars at hc
    rw [strip_codes] at hc
    exact List.mem_of_mem_drop (List.mem_of_mem_take hc)
  have p := part_sub (Txt.stripChars (cutS x (some 1) none) (Str.ofString " ")) (Str.ofString ">")
  have lt : ∀ c ∈ (Txt.stripChars (cutS x (some 1) none) (Str.ofString " ")).cps.toList, c < 1114112 := fun c hc => hx c (c1.2 c (s2 c hc))
  have le : (Txt.stripChars (cutS x (some 1) none) (Str.ofString " ")).length ≤ x.length := by unfold Txt.stripChars; omega
  unfold rdW
  simp only
  refine ⟨⟨by have := p.1.1; omega, fun c hc => lt c (p.1.2 c hc)⟩, ?_⟩
  split
  · exact ⟨by have := p.2.1; omega, fun c hc => lt c (p.2.2 c hc)⟩
  · exact ⟨by have := p.1.1; omega, fun c hc => lt c (p.1.2 c hc)⟩
def RowsP (rs : List Str) (one other : List Row) (M : List (Nat × Nat)) : Prop := TreeL one ∧ TreeL other ∧ one.length ≤ 200 ∧ other.length ≤ 200 ∧ GoodP one other (M.map toI) ∧ chunks one other M = rs
theorem RowsP.rd {f : Str → Str × Int × Str × Str} (pf : PF f) {rs : List Str} {one other : List Row} {M : List (Nat × Nat)} (h : RowsP rs one other M) : rdAll f rs = (one, other, M) := by
  obtain ⟨t1, t2, h1, h2, g, rfl⟩ := h
  exact g.read pf t1 t2 (RowsB.of t1 h1) (RowsB.of t2 h2)
theorem TreeP.l {rows : List Row} (h : TreeP rows) : TreeL rows := by
  obtain ⟨r0, rs, e⟩ : ∃ r0 rs, rows = r0 :: rs := by
    cases rows with
    | nil => exact absurd rfl h.ne
    | cons a b => exact ⟨a, b, rfl⟩
  have z := h.first r0 (by rw [e]; rfl)
  refine ⟨⟨r0.2, rs, by rw [e, ← z]⟩, fun r hr => ?_, h.step⟩
  obtain ⟨j, hj, ej⟩ := List.getElem_of_mem hr
  have ej : rows[j]? = some r := by rw [List.getElem?_eq_getElem hj, ej]
  have k := h.rng j r ej
  refine ⟨isW_iff.mp k.1, ?_, k.2⟩
  cases j with
  | zero => rw [h.first r ej]; omega
  | succ j =>
    have := h.step j r _ ej (List.getElem?_eq_getElem (by omega))
    omega
theorem strs_eqd {a b : List Str} {o p : Bool} : eqD (.lst o (a.map D.str)) (.lst p (b.map D.str)) = decide (a = b) := eqD_dec (noBs_mapI (f := D.str) (fun _ => rfl) a) (noBs_mapI (f := D.str) (fun _ => rfl) b) (by
  show D.lst false _ = D.lst false _ ↔ _
  rw [D.lst.injEq, cans_mapI (f := D.str) (fun _ => rfl), cans_mapI (f := D.str) (fun _ => rfl), map_inj' (fun x y h => by cases h; rfl)]; simp)

--@here
def ws__law_laid : WS := wSeq (wAsg (wLst (wNil)) (gtName 3)) (wSeq (wFor (its1 (wArg (wB gLen (wArg (wVar 2) (wNil))) (wNil))) (gtName 4) (wSeq (wAsg (wOp gIx (wVar 2) (wVar 4)) (gtTup 2 (gtCons (gtName 5) (gtCons (gtName 6) (fun ds env Q => ds = [] ∧ Q env))))) (wSeq (wAsg (wOp gIx (wOp gAdd (wVar 2) (wLst (wItm (wTup (wItm (wB gLen (wArg (wVar 0) (wNil))) (wItm (wB gLen (wArg (wVar 1) (wNil))) (wNil)))) (wNil)))) (wOp gAdd (wVar 4) (wC (.int 1)))) (gtName 7)) (wSeq (wAsg (wOp gAdd (wOp gAdd (wC (.str " ")) (wOp gMul (wC (.str "  ")) (wOp gIx (wOp gIx (wVar 0) (wVar 5)) (wC (.int 0))))) (wOp gIx (wOp gIx (wVar 0) (wVar 5)) (wC (.int 1)))) (gtName 8)) (wCut (wIf (wTest (wOp gNe (wOp gIx (wOp gIx (wVar 0) (wVar 5)) (wC (.int 1))) (wOp gIx (wOp gIx (wVar 1) (wVar 6)) (wC (.int 1))))) (wAsg (wOp gAdd (wOp gAdd (wOp gAdd (wC (.str "~")) (wSl (wVar 8) (wPart (wC (.int 1))) (wNo))) (wC (.str ">"))) (wOp gIx (wOp gIx (wVar 1) (wVar 6)) (wC (.int 1)))) (gtName 8)) (wNext)) (wSeq (wApp 3 (wVar 8)) (wSeq (wFor (its2 (wArg (wOp gAdd (wVar 5) (wC (.int 1))) (wArg (wOp gIx (wVar 7) (wC (.int 0))) (wNil)))) (gtName 9) (wApp 3 (wOp gAdd (wOp gAdd (wC (.str "-")) (wOp gMul (wC (.str "  ")) (wOp gIx (wOp gIx (wVar 0) (wVar 9)) (wC (.int 0))))) (wOp gIx (wOp gIx (wVar 0) (wVar 9)) (wC (.int 1)))))) (wFor (its2 (wArg (wOp gAdd (wVar 6) (wC (.int 1))) (wArg (wOp gIx (wVar 7) (wC (.int 1))) (wNil)))) (gtName 9) (wApp 3 (wOp gAdd (wOp gAdd (wC (.str "+")) (wOp gMul (wC (.str "  ")) (wOp gIx (wOp gIx (wVar 1) (wVar 9)) (wC (.int 0))))) (wOp gIx (wOp gIx (wVar 1) (wVar 9)) (wC (.int 1))))))))))))) (wRet (wMov 3)))
abbrev n__law_laid : Nat := 10
def spec__law_laid : SpecT := spec_laid_out
theorem len__law_laid : ∀ ds px Q, spec__law_laid ds px Q → ds.length = 3 := len_laid_out
theorem pure__law_laid : ∀ ds px Q, spec__law_laid ds px Q → ws__law_laid (PEnds.top Q) px (start0 10 ds) := by
  rintro ds px Q ⟨one, other, M, rfl, b1, b2, hM, hr, q⟩
  have hl1 := b1.len
  have hl2 := b2.len
  show ws__law_laid (PEnds.top Q) px [some (.lst false (one.map rowD)), some (.lst false (other.map rowD)), some (.lst false (M.map pairD)), none, none, none, none, none, none, none]
  unfold ws__law_laid
  walk_at "tm"
  have hzl := zipL_len (one := one) (other := other) (M := M)
  refine ⟨by omega, by omega, fun i env => ∃ (acc : List Str) (x4 x5 x6 x7 x8 x9 : Option D), env = [some (.lst false (one.map rowD)), some (.lst false (other.map rowD)), some (.lst false (M.map pairD)), some (.lst true (acc.map D.str)), x4, x5, x6, x7, x8, x9] ∧ acc = (((zipL one other M).take i).map fun p => chunk one other p.1 p.2).flatten, ⟨[], _, _, _, _, _, _, rfl, rfl⟩, ?_, ?_⟩
  · rintro i d env2 hd ⟨acc, x4, x5, x6, x7, x8, x9, rfl, hacc⟩
    obtain ⟨hi, rfl⟩ := rngD_get hd
    have hi : i < M.length := by omega
    have gp : M[i]? = some M[i] := List.getElem?_eq_getElem hi
    have hp : M[i] ∈ M := List.getElem_mem _
    generalize M[i] = p at gp hp
    have hpr := hr p hp
    obtain ⟨s, gs⟩ : ∃ s, (stopsL one other M)[i]? = some s := ⟨_, List.getElem?_eq_getElem (by unfold stopsL; rw [List.length_append, List.length_drop, List.length_singleton]; omega)⟩
    have hg : (zipL one other M)[i]? = some (p, s) := List.getElem?_zip_eq_some.mpr ⟨gp, gs⟩
    have flen := flat_len one other ((zipL one other M).take i)
    have tlen : ((zipL one other M).take i).length = i := by rw [List.length_take]; omega
    rw [tlen] at flen
    have bound : i * (1 + one.length + other.length) ≤ 200 * 401 := Nat.mul_le_mul (by omega) (by omega)
    have enext : (((zipL one other M).take (i + 1)).map fun p => chunk one other p.1 p.2).flatten = (((zipL one other M).take i).map fun p => chunk one other p.1 p.2).flatten ++ chunk one other p s := by
      rw [List.take_succ, hg]
      simp
    rw [← hacc] at flen enext
    have ei : (0 : Int) + (i : Int) = (i : Int) := by omega
    rw [ei]
    have e1 : atI (M.map pairD) (i : Int) = some (.tup [.int p.1, .int p.2]) := map_at (f := pairD) rfl gp
    have es : M.map pairD ++ [D.tup [.int one.length, .int other.length]] = (M ++ [(one.length, other.length)]).map pairD := by rw [List.map_append]; rfl
    have gs2 : (M ++ [(one.length, other.length)])[i + 1]? = some s := by
      unfold stopsL at gs
      by_cases c : i + 1 < M.length
      · rw [List.getElem?_append_left c]
        rw [List.getElem?_append_left (by rw [List.length_drop]; omega), List.getElem?_drop, Nat.add_comm 1 i] at gs
        exact gs
      · rw [List.getElem?_append_right (by omega)]
        rw [List.getElem?_append_right (by rw [List.length_drop]; omega), List.length_drop] at gs
        rw [show i + 1 - M.length = i - (M.length - 1) from by omega]
        exact gs
    have e3 : atI ((M ++ [(one.length, other.length)]).map pairD) ((i : Int) + 1) = some (.tup [.int s.1, .int s.2]) := map_at (f := pairD) (j := i + 1) (by omega) gs2
    obtain ⟨a1, m1⟩ := rAt_at hpr.1
    obtain ⟨a2, m2⟩ := rAt_at hpr.2
    have k1 := b1.ok _ m1
    have k2 := b2.ok _ m2
    rw [show chunk one other p s = pairT (rAt one p.1) (rAt other p.2) :: ((segR one (p.1 + 1) s.1).map (rowT minusS) ++ (segR other (p.2 + 1) s.2).map (rowT plusS)) from rfl] at enext
    generalize rAt one p.1 = r1 at a1 k1 enext
    generalize rAt other p.2 = r2 at a2 k2 enext
    have s1 := segR_len one (p.1 + 1) s.1
    have s2 := segR_len other (p.2 + 1) s.2
    have al : ∀ a b : Str, (a ++ b).length = a.length + b.length := fun a b => Str.length_append a b
    have w1 := k1.1.2.2
    have w2 := k2.1.2.2
    have i1 := ind_len k1.2.2
    rw [rowD_eq] at a1 a2
    walk_at "tm"
    refine atK_of e1 rfl ?_
    walk_at "tm"
    rw [es]
    refine ⟨pairsD_dirty _, by omega, atK_of e3 rfl ?_⟩
    walk_at "tm"
    refine atK_of a1 rfl ?_
    walk_at "tm"
    have l2 : (Str.ofString "  ").length = 2 := by decide +kernel
    have l1 : (Str.ofString " ").length = 1 := by decide +kernel
    have l1t : (Str.ofString "~").length = 1 := by decide +kernel
    have l1g : (Str.ofString ">").length = 1 := by decide +kernel
    have l1m : (Str.ofString "-").length = 1 := by decide +kernel
    have l1p : (Str.ofString "+").length = 1 := by decide +kernel
    have eind : repS r1.1.toNat (Str.ofString "  ") = ind r1.1 := rfl
    rw [eind]
    refine ⟨by omega, by omega, by rw [l2]; omega, by omega, atK_of a1 rfl ?_⟩
    walk_at "tm"
    have hsb : s.1 ≤ one.length ∧ s.2 ≤ other.length := by
      have hm := List.mem_of_getElem? gs
      unfold stopsL at hm
      rcases List.mem_append.mp hm with hm | hm
      · have := hr s (List.mem_of_mem_drop hm); omega
      · simp at hm; rw [hm]; exact ⟨Nat.le_refl _, Nat.le_refl _⟩
    refine ⟨by rw [al]; omega, fun env => env = [some (.lst false (one.map rowD)), some (.lst false (other.map rowD)), some (.lst false (M.map pairD)), some (.lst true (acc.map D.str)), some (.int i), some (.int p.1), some (.int p.2), some (.tup [.int s.1, .int s.2]), some (.str (pairT r1 r2)), x9], ?_, ?_⟩
    · refine atK_of a1 rfl ?_
      walk_at "tm"
      refine atK_of a2 rfl ?_
      walk_at "tm"
      have efr : cutS (Str.ofString " " ++ ind r1.1 ++ r1.2) (some (1 : Int)) none = ind r1.1 ++ r1.2 := by
        have := cutS_from (x := Str.ofString " " ++ ind r1.1 ++ r1.2) (a := 1)
        rw [show ((1 : Nat) : Int) = 1 from rfl] at this
        rw [this, str_app, str_app]
        refine (str_of ?_).symm
        rw [str_app]; rfl
      unfold pairT
      by_cases c : r1.2 = r2.2
      · rw [if_neg (by simp [c]), if_pos c]
        rfl
      · rw [if_pos (by simp [c]), if_neg c, efr]
        walk_at "tm"
        have assoc : Str.ofString "~" ++ (ind r1.1 ++ r1.2) ++ Str.ofString ">" ++ r2.2 = rowT (Str.ofString "~") (r1.1, r1.2 ++ Str.ofString ">" ++ r2.2) := by
          refine str_ext ?_
          unfold rowT
          simp only [str_app, List.append_assoc]
        refine ⟨by rw [al, al]; omega, by rw [al, l1t]; omega, by rw [al, al, l1t, l1g]; omega, atK_of a2 rfl ?_⟩
        walk_at "tm"
        rw [assoc]
        exact ⟨by rw [al, al, al, l1t, l1g]; omega, rfl⟩
    rintro env3 rfl
    have e1 : ∀ (X : List Str) (x : Str), X.map D.str ++ [D.str x] = (X ++ [x]).map D.str := fun X x => by simp
    have rowlen : ∀ (t : Str) (r : Row), t.length ≤ 1 → Wd r.2 → r.1 ≤ 30 → (t ++ ind r.1).length ≤ 61 ∧ (t ++ ind r.1 ++ r.2).length ≤ 80 := fun t r ht hw h => by
      have := ind_len h
      have := hw.2.2
      rw [al, al, al]; omega
    walk_at "tm"
    rw [e1]
    refine ⟨by omega, ⟨by omega, by omega⟩, fun k env => ∃ x9, env = [some (.lst false (one.map rowD)), some (.lst false (other.map rowD)), some (.lst false (M.map pairD)), some (.lst true ((acc ++ [pairT r1 r2] ++ ((segR one (p.1 + 1) s.1).take k).map (rowT minusS)).map D.str)), some (.int i), some (.int p.1), some (.int p.2), some (.tup [.int s.1, .int s.2]), some (.str (pairT r1 r2)), x9], ⟨_, by rw [List.take_zero, List.map_nil, List.append_nil]⟩, ?_, ?_⟩
    · rintro k d env2 hd ⟨x9, rfl⟩
      obtain ⟨hk, rfl⟩ := rngD_get hd
      have hk2 : p.1 + 1 + k < one.length := by omega
      obtain ⟨a3, m3⟩ := rAt_at hk2
      have k3 := b1.ok _ m3
      have gk : (segR one (p.1 + 1) s.1)[k]? = some (rAt one (p.1 + 1 + k)) := by
        unfold segR rAt
        rw [List.getElem?_take, if_pos (by omega), List.getElem?_drop, List.getD_eq_getElem?_getD, List.getElem?_eq_getElem hk2]; rfl
      have enx : ((segR one (p.1 + 1) s.1).take (k + 1)).map (rowT minusS) = ((segR one (p.1 + 1) s.1).take k).map (rowT minusS) ++ [rowT minusS (rAt one (p.1 + 1 + k))] := by
        rw [List.take_succ, gk, List.map_append]; rfl
      generalize rAt one (p.1 + 1 + k) = r3 at a3 k3 enx
      have rl := rowlen (Str.ofString "-") r3 (by decide +kernel) k3.1 k3.2.2
      have i3 := ind_len k3.2.2
      have ek : ((p.1 : Int) + 1 + (k : Int)) = ((p.1 + 1 + k : Nat) : Int) := by omega
      rw [rowD_eq] at a3
      rw [ek]
      walk_at "tm"
      refine atK_of a3 rfl ?_
      walk_at "tm"
      have eind3 : repS r3.1.toNat (Str.ofString "  ") = ind r3.1 := rfl
      rw [eind3]
      refine ⟨by omega, by omega, by rw [l2]; omega, by omega, atK_of a3 rfl ?_⟩
      walk_at "tm"
      have tl : ((segR one (p.1 + 1) s.1).take k).length ≤ 200 := by rw [List.length_take]; omega
      rw [e1]
      refine ⟨by have := k3.1.2.2; omega, by simp; omega, some (.int ((p.1 : Int) + 1 + (k : Int))), ?_⟩
      rw [enx, ← List.append_assoc]
      rfl
    rintro env2 ⟨x9b, rfl⟩
    rw [rngD_len, show ((s.1 : Int) - ((p.1 : Int) + 1)).toNat = s.1 - (p.1 + 1) from by omega]
    have tk1 : (segR one (p.1 + 1) s.1).take (s.1 - (p.1 + 1)) = segR one (p.1 + 1) s.1 := List.take_of_length_le (by unfold segR; rw [List.length_take]; omega)
    rw [tk1]
    walk_at "tm"
    refine ⟨⟨by omega, by omega⟩, fun k env => ∃ x9, env = [some (.lst false (one.map rowD)), some (.lst false (other.map rowD)), some (.lst false (M.map pairD)), some (.lst true ((acc ++ [pairT r1 r2] ++ (segR one (p.1 + 1) s.1).map (rowT minusS) ++ ((segR other (p.2 + 1) s.2).take k).map (rowT plusS)).map D.str)), some (.int i), some (.int p.1), some (.int p.2), some (.tup [.int s.1, .int s.2]), some (.str (pairT r1 r2)), x9], ⟨_, by rw [List.take_zero, List.map_nil, List.append_nil]⟩, ?_, ?_⟩
    · rintro k d env2 hd ⟨x9, rfl⟩
      obtain ⟨hk, rfl⟩ := rngD_get hd
      have hk2 : p.2 + 1 + k < other.length := by omega
      obtain ⟨a3, m3⟩ := rAt_at hk2
      have k3 := b2.ok _ m3
      have gk : (segR other (p.2 + 1) s.2)[k]? = some (rAt other (p.2 + 1 + k)) := by
        unfold segR rAt
        rw [List.getElem?_take, if_pos (by omega), List.getElem?_drop, List.getD_eq_getElem?_getD, List.getElem?_eq_getElem hk2]; rfl
      have enx : ((segR other (p.2 + 1) s.2).take (k + 1)).map (rowT plusS) = ((segR other (p.2 + 1) s.2).take k).map (rowT plusS) ++ [rowT plusS (rAt other (p.2 + 1 + k))] := by
        rw [List.take_succ, gk, List.map_append]; rfl
      generalize rAt other (p.2 + 1 + k) = r3 at a3 k3 enx
      have rl := rowlen (Str.ofString "+") r3 (by decide +kernel) k3.1 k3.2.2
      have i3 := ind_len k3.2.2
      have ek : ((p.2 : Int) + 1 + (k : Int)) = ((p.2 + 1 + k : Nat) : Int) := by omega
      rw [rowD_eq] at a3
      rw [ek]
      walk_at "tm"
      refine atK_of a3 rfl ?_
      walk_at "tm"
      have eind3 : repS r3.1.toNat (Str.ofString "  ") = ind r3.1 := rfl
      rw [eind3]
      refine ⟨by omega, by omega, by rw [l2]; omega, by omega, atK_of a3 rfl ?_⟩
      walk_at "tm"
      have tl : ((segR other (p.2 + 1) s.2).take k).length ≤ 200 := by rw [List.length_take]; omega
      rw [e1]
      refine ⟨by have := k3.1.2.2; omega, by simp; omega, some (.int ((p.2 : Int) + 1 + (k : Int))), ?_⟩
      rw [enx, ← List.append_assoc]
      rfl
    rintro env2 ⟨x9c, rfl⟩
    rw [rngD_len, show ((s.2 : Int) - ((p.2 : Int) + 1)).toNat = s.2 - (p.2 + 1) from by omega]
    have tk2 : (segR other (p.2 + 1) s.2).take (s.2 - (p.2 + 1)) = segR other (p.2 + 1) s.2 := List.take_of_length_le (by unfold segR; rw [List.length_take]; omega)
    rw [tk2]
    walk_at "tm"
    refine ⟨_, _, _, _, _, _, _, rfl, ?_⟩
    rw [enext]
    simp
  · rintro env2 ⟨acc, x4, x5, x6, x7, x8, x9, rfl, hacc⟩
    rw [rngD_len, show ((M.length : Int)).toNat = (zipL one other M).length from by omega, List.take_length, ← chunks_zip] at hacc
    subst hacc
    walk_at "tm"
    exact q

--@here
theorem chunk_cases {one other : List Row} {p q : Nat × Nat} (hp : p.1 < one.length ∧ p.2 < other.length) : ∀ x ∈ chunk one other p q, (∃ a ∈ one, ∃ b ∈ other, x = pairT a b) ∨ (∃ r ∈ one, x = rowT minusS r) ∨ ∃ r ∈ other, x = rowT plusS r := fun x hx => by
  unfold chunk at hx
  rcases List.mem_cons.mp hx with rfl | hx
  · exact .inl ⟨_, (rAt_at hp.1).2, _, (rAt_at hp.2).2, rfl⟩
  · rcases List.mem_append.mp hx with hx | hx
    · obtain ⟨r, hr, rfl⟩ := List.mem_map.mp hx
      exact .inr (.inl ⟨r, seg_mem hr, rfl⟩)
    · obtain ⟨r, hr, rfl⟩ := List.mem_map.mp hx
      exact .inr (.inr ⟨r, seg_mem hr, rfl⟩)
theorem chunks_cases {one other : List Row} : ∀ (M : List (Nat × Nat)), (∀ p ∈ M, p.1 < one.length ∧ p.2 < other.length) → ∀ x ∈ chunks one other M, (∃ a ∈ one, ∃ b ∈ other, x = pairT a b) ∨ (∃ r ∈ one, x = rowT minusS r) ∨ ∃ r ∈ other, x = rowT plusS r
  | [], _, x, hx => by simp [chunks] at hx
  | [p], h, x, hx => chunk_cases (h p List.mem_cons_self) x hx
  | p :: q :: r, h, x, hx => by
    rw [chunks] at hx
    rcases List.mem_append.mp hx with hx | hx
    · exact chunk_cases (h p List.mem_cons_self) x hx
    · exact chunks_cases (q :: r) (fun p hp => h p (List.mem_cons_of_mem _ hp)) x hx
theorem chunks_row {one other : List Row} (b1 : RowsB one) (b2 : RowsB other) (M : List (Nat × Nat)) (h : ∀ p ∈ M, p.1 < one.length ∧ p.2 < other.length) : ∀ x ∈ chunks one other M, x.length ≤ 100 := fun x hx => by
  have al : ∀ a b : Str, (a ++ b).length = a.length + b.length := fun a b => Str.length_append a b
  have l1 : (Str.ofString ">").length = 1 := by decide +kernel
  have row : ∀ (s : Str) (d : Int) (w : Str), s.length ≤ 1 → d ≤ 30 → w.length ≤ 30 → (rowT s (d, w)).length ≤ 100 := fun s d w h1 h2 h3 => by
    have := ind_len h2
    unfold rowT
    rw [al, al]; simp only; omega
  rcases chunks_cases M h x hx with ⟨a, ha, b, hb, rfl⟩ | ⟨r, hr, rfl⟩ | ⟨r, hr, rfl⟩
  · have k1 := b1.ok a ha
    have k2 := b2.ok b hb
    have w1 := k1.1.2.2
    have w2 := k2.1.2.2
    unfold pairT
    split
    · exact row _ _ _ (by decide +kernel) k1.2.2 (by omega)
    · exact row _ _ _ (by decide +kernel) k1.2.2 (by rw [al, al, show ((">" : Str)).length = 1 from l1]; omega)
  · have k1 := b1.ok r hr
    exact row _ _ _ (by decide +kernel) k1.2.2 (by have := k1.1.2.2; omega)
  · have k1 := b2.ok r hr
    exact row _ _ _ (by decide +kernel) k1.2.2 (by have := k1.1.2.2; omega)
theorem chunks_le {one other : List Row} (b1 : RowsB one) (b2 : RowsB other) {M : List (Nat × Nat)} (h : M.length ≤ 200) : (chunks one other M).length ≤ 80200 := by
  have hl1 := b1.len
  have hl2 := b2.len
  rw [chunks_zip]
  have h1 := flat_len one other (zipL one other M)
  have h2 := zipL_len (one := one) (other := other) (M := M)
  have h3 : (zipL one other M).length * (1 + one.length + other.length) ≤ 200 * 401 := Nat.mul_le_mul (by omega) (by omega)
  omega

def ws__law_row : WS := wSeq (wAsg (wC (.str " ~-+>a0=x z*(.A\n")) (gtName 2)) (wSeq (wAsg (wOp gMod (wOp gFdiv (wVar 1) (wC (.int 8))) (wOp gAdd (wB gLen (wArg (wVar 0) (wNil))) (wC (.int 1)))) (gtName 3)) (wSeq (wIf (wTest (wOp gEq (wOp gMod (wVar 1) (wC (.int 8))) (wC (.int 0)))) (wRet (wOp gAdd (wOp gIx (wVar 2) (wOp gMod (wOp gFdiv (wVar 1) (wC (.int 512))) (wB gLen (wArg (wVar 2) (wNil))))) (wSl (wVar 0) (wPart (wC (.int 1))) (wNo)))) (wNext)) (wSeq (wIf (wTest (wOp gEq (wOp gMod (wVar 1) (wC (.int 8))) (wC (.int 1)))) (wRet (wOp gAdd (wOp gAdd (wSl (wVar 0) (wNo) (wPart (wVar 3))) (wC (.str " "))) (wSl (wVar 0) (wPart (wVar 3)) (wNo)))) (wNext)) (wSeq (wIf (wTest (wOp gEq (wOp gMod (wVar 1) (wC (.int 8))) (wC (.int 2)))) (wRet (wOp gAdd (wSl (wVar 0) (wNo) (wPart (wVar 3))) (wSl (wVar 0) (wPart (wOp gAdd (wVar 3) (wC (.int 1)))) (wNo)))) (wNext)) (wSeq (wIf (wTest (wOp gLt (wOp gMod (wVar 1) (wC (.int 8))) (wC (.int 5)))) (wRet (wOp gAdd (wOp gAdd (wSl (wVar 0) (wNo) (wPart (wVar 3))) (wOp gIx (wVar 2) (wOp gMod (wOp gFdiv (wVar 1) (wC (.int 512))) (wB gLen (wArg (wVar 2) (wNil)))))) (wSl (wVar 0) (wPart (wOp gAdd (wVar 3) (wC (.int 1)))) (wNo)))) (wNext)) (wSeq (wIf (wTest (wOp gLt (wOp gMod (wVar 1) (wC (.int 8))) (wC (.int 7)))) (wRet (wOp gAdd (wOp gAdd (wSl (wVar 0) (wNo) (wPart (wVar 3))) (wOp gIx (wVar 2) (wOp gMod (wOp gFdiv (wVar 1) (wC (.int 512))) (wB gLen (wArg (wVar 2) (wNil)))))) (wSl (wVar 0) (wPart (wVar 3)) (wNo)))) (wNext)) (wRet (wOp gAdd (wVar 0) (wOp gIx (wLst (wItm (wC (.str "  ")) (wItm (wC (.str ">a")) (wItm (wC (.str "")) (wNil))))) (wOp gMod (wOp gFdiv (wVar 1) (wC (.int 512))) (wC (.int 3))))))))))))
abbrev n__law_row : Nat := 4
def spec__law_row : SpecT := fun ds _ Q => ∃ (x : Str) (n : Int), ds = [.str x, .int n] ∧ x.length ≤ 1000 ∧ LtS x ∧ ∀ y : Str, y.length ≤ x.length + 2 → LtS y → Q (.str y)
theorem len__law_row : ∀ ds px Q, spec__law_row ds px Q → ds.length = 2 := by
  rintro ds px Q ⟨a, b, rfl, _⟩; rfl
def signsK : Str := " ~-+>a0=x z*(.A\n"
theorem signsK_at (n : Int) : ∃ c, atI signsK.cps.toList (n % 16) = some c ∧ LtS ⟨#[c]⟩ := by
  obtain ⟨c, e, hc⟩ := atI_mem (ds := signsK.cps.toList) (k := n % 16) (by omega) (by show n % 16 < 16; omega)
  refine ⟨c, e, fun d hd => ?_⟩
  have : d = c := by simpa using hd
  subst this
  have all : signsK.cps.toList.all (fun c => decide (c < 1114112)) = true := by decide +kernel
  exact of_decide_eq_true (List.all_eq_true.mp all d hc)
theorem pure__law_row : ∀ ds px Q, spec__law_row ds px Q → ws__law_row (PEnds.top Q) px (start0 n__law_row ds) := by
  rintro ds px Q ⟨x, n, rfl, hl, hx, q⟩
  show ws__law_row (PEnds.top Q) px [some (.str x), some (.int n), none, none]
  unfold ws__law_row
  walk_at "tm"
  have al : ∀ a b : Str, (a ++ b).length = a.length + b.length := fun a b => Str.length_append a b
  have l16 : (Str.ofString " ~-+>a0=x z*(.A\n").length = 16 := by decide +kernel
  have l16' : ((Str.ofString " ~-+>a0=x z*(.A\n").length : Int) = 16 := by rw [l16]; rfl
  have l1 : (Str.ofString " ").length = 1 := by decide +kernel
  have b1 : LtS (Str.ofString " ") := lit_lt (by decide +kernel)
  have z0 := Int.emod_nonneg (n / 8) (b := (x.length : Int) + 1) (by omega)
  have z1 := Int.emod_lt_of_pos (n / 8) (b := (x.length : Int) + 1) (by omega)
  obtain ⟨a, ha, ea⟩ : ∃ a : Nat, a ≤ x.length ∧ n / 8 % ((x.length : Int) + 1) = (a : Int) := ⟨(n / 8 % ((x.length : Int) + 1)).toNat, by omega, by omega⟩
  rw [ea]
  have e1 : (a : Int) + 1 = ((a + 1 : Nat) : Int) := by omega
  simp only [e1, l16, l16']
  obtain ⟨T1, T2⟩ := cutS_to_mem (x := x) ha
  obtain ⟨F1, F2⟩ := cutS_from_mem (x := x) (n := a)
  obtain ⟨G1, G2⟩ := cutS_from_mem (x := x) (n := a + 1)
  obtain ⟨O1, O2⟩ := cutS_from_mem (x := x) (n := 1)
  rw [show ((1 : Nat) : Int) = 1 from rfl] at O1 O2
  have T2 : LtS _ := fun c hc => hx c (T2 c hc)
  have F2 : LtS _ := fun c hc => hx c (F2 c hc)
  have G2 : LtS _ := fun c hc => hx c (G2 c hc)
  have O2 : LtS _ := fun c hc => hx c (O2 c hc)
  obtain ⟨c, hc, hS⟩ := signsK_at (n / 512)
  have hc : atI (Str.ofString " ~-+>a0=x z*(.A\n").cps.toList (n / 512 % 16) = some c := hc
  have lc : (⟨#[c]⟩ : Str).length = 1 := rfl
  generalize cutS x none (some (a : Int)) = t at T1 T2 ⊢
  generalize cutS x (some (a : Int)) none = f at F1 F2 ⊢
  generalize cutS x (some ((a + 1 : Nat) : Int)) none = g at G1 G2 ⊢
  generalize cutS x (some 1) none = o at O1 O2 ⊢
  refine ⟨by omega, by omega, ?_⟩
  by_cases c0 : n % 8 = 0
  · rw [if_pos c0]
    refine ⟨by omega, by omega, by omega, atC_of hc ?_⟩
    walk_at "tm"
    exact ⟨by omega, by omega, q _ (by rw [al]; omega) (hS.app O2)⟩
  rw [if_neg c0]
  by_cases c1 : n % 8 = 1
  · rw [if_pos c1]
    exact ⟨by omega, by omega, by omega, by rw [al]; omega, q _ (by rw [al, al]; omega) ((T2.app b1).app F2)⟩
  rw [if_neg c1]
  by_cases c2 : n % 8 = 2
  · rw [if_pos c2]
    exact ⟨by omega, by omega, by omega, q _ (by rw [al]; omega) (T2.app G2)⟩
  rw [if_neg c2]
  by_cases c3 : n % 8 < 5
  · rw [if_pos c3]
    refine ⟨by omega, by omega, by omega, by omega, atC_of hc ?_⟩
    walk_at "tm"
    exact ⟨by omega, by omega, by rw [al]; omega, q _ (by rw [al, al]; omega) ((T2.app hS).app G2)⟩
  rw [if_neg c3]
  by_cases c4 : n % 8 < 7
  · rw [if_pos c4]
    refine ⟨by omega, by omega, by omega, by omega, atC_of hc ?_⟩
    walk_at "tm"
    exact ⟨by omega, by omega, by rw [al]; omega, q _ (by rw [al, al]; omega) ((T2.app hS).app F2)⟩
  rw [if_neg c4]
  obtain ⟨d, e, m⟩ := atI_mem (ds := [D.str (Str.ofString "  "), D.str (Str.ofString ">a"), D.str (Str.ofString "")]) (k := n / 512 % 3) (by omega) (by show n / 512 % 3 < 3; omega)
  simp only [List.mem_cons, List.mem_nil_iff, or_false] at m
  have key : ∃ w : Str, d = .str w ∧ w.length ≤ 2 ∧ LtS w := by
    rcases m with rfl | rfl | rfl <;> exact ⟨_, rfl, by decide +kernel, lit_lt (by decide +kernel)⟩
  obtain ⟨w, rfl, hw, hw2⟩ := key
  refine atK_of e rfl ?_
  walk_at "tm"
  exact ⟨by omega, q _ (by rw [al]; omega) (hx.app hw2)⟩
--@here
def ws__law_spoilt : WS := wSeq (wAsg (wOp gMod (wOp gMul (wVar 1) (wC (.int 40692))) (wC (.int 2147483399))) (gtName 2)) (wSeq (wAsg (wOp gMod (wOp gFdiv (wVar 2) (wC (.int 8))) (wOp gAdd (wB gLen (wArg (wVar 0) (wNil))) (wC (.int 1)))) (gtName 3)) (wSeq (wIf (wTest (wOp gEq (wOp gMod (wVar 2) (wC (.int 8))) (wC (.int 0)))) (wRet (wOp gAdd (wSl (wVar 0) (wNo) (wPart (wVar 3))) (wSl (wVar 0) (wPart (wOp gAdd (wVar 3) (wC (.int 1)))) (wNo)))) (wNext)) (wSeq (wIf (wTest (wOp gEq (wOp gMod (wVar 2) (wC (.int 8))) (wC (.int 1)))) (wRet (wOp gAdd (wOp gAdd (wSl (wVar 0) (wNo) (wPart (wVar 3))) (wSl (wVar 0) (wPart (wVar 3)) (wPart (wOp gAdd (wVar 3) (wC (.int 1)))))) (wSl (wVar 0) (wPart (wVar 3)) (wNo)))) (wNext)) (wSeq (wIf (wTest (wOp gEq (wOp gMod (wVar 2) (wC (.int 8))) (wC (.int 2)))) (wRet (wOp gAdd (wOp gAdd (wSl (wVar 0) (wNo) (wPart (wVar 3))) (wRevL (wSl (wVar 0) (wPart (wVar 3)) (wPart (wOp gAdd (wVar 3) (wC (.int 2))))))) (wSl (wVar 0) (wPart (wOp gAdd (wVar 3) (wC (.int 2)))) (wNo)))) (wNext)) (wSeq (wIf (wTest (wOp gEq (wOp gMod (wVar 2) (wC (.int 8))) (wC (.int 3)))) (wSeq (wAsg (wCall0 spec__law_row [] (wArg (wC (.str "-  a")) (wArg (wOp gMod (wOp gMul (wVar 1) (wC (.int 16807))) (wC (.int 2147483587))) (wNil)))) (gtName 4)) (wRet (wOp gAdd (wOp gAdd (wSl (wVar 0) (wNo) (wPart (wVar 3))) (wLst (wItm (wVar 4) (wNil)))) (wSl (wVar 0) (wPart (wVar 3)) (wNo))))) (wNext)) (wSeq (wIf (wAnd (wTest (wOp gLt (wVar 3) (wB gLen (wArg (wVar 0) (wNil))))) (wTest (wOp gLt (wOp gMod (wVar 2) (wC (.int 8))) (wC (.int 7))))) (wRet (wOp gAdd (wOp gAdd (wSl (wVar 0) (wNo) (wPart (wVar 3))) (wLst (wItm (wCall0 spec__law_row [] (wArg (wOp gIx (wVar 0) (wVar 3)) (wArg (wOp gMod (wOp gMul (wVar 1) (wC (.int 16807))) (wC (.int 2147483587))) (wNil)))) (wNil)))) (wSl (wVar 0) (wPart (wOp gAdd (wVar 3) (wC (.int 1)))) (wNo)))) (wNext)) (wRet (wVar 0))))))))
abbrev n__law_spoilt : Nat := 5
def RowsL (N L : Nat) (rs : List Str) : Prop := rs.length ≤ N ∧ ∀ x ∈ rs, x.length ≤ L ∧ LtS x
def spec__law_spoilt : SpecT := fun ds _ Q => ∃ (rs : List Str) (n : Int) (N L : Nat), ds = [.lst false (rs.map D.str), .int n] ∧ RowsL N L rs ∧ N ≤ 3000 ∧ 4 ≤ L ∧ L ≤ 400 ∧ ∀ o rs', RowsL (N + 1) (L + 2) rs' → Q (.lst o (rs'.map D.str))
theorem len__law_spoilt : ∀ ds px Q, spec__law_spoilt ds px Q → ds.length = 2 := by
  rintro ds px Q ⟨a, b, _, _, rfl, _⟩; rfl
theorem pure__law_spoilt : ∀ ds px Q, spec__law_spoilt ds px Q → ws__law_spoilt (PEnds.top Q) px (start0 n__law_spoilt ds) := by
  rintro ds px Q ⟨rs, n, N, L, rfl, hr, hN, h4, hL, q⟩
  show ws__law_spoilt (PEnds.top Q) px [some (.lst false (rs.map D.str)), some (.int n), none, none, none]
  unfold ws__law_spoilt
  walk_at "tm"
  generalize n * 40692 % 2147483399 = m
  have z0 := Int.emod_nonneg (m / 8) (b := (rs.length : Int) + 1) (by omega)
  have z1 := Int.emod_lt_of_pos (m / 8) (b := (rs.length : Int) + 1) (by omega)
  obtain ⟨a, ha, ea⟩ : ∃ a : Nat, a ≤ rs.length ∧ m / 8 % ((rs.length : Int) + 1) = (a : Int) := ⟨(m / 8 % ((rs.length : Int) + 1)).toNat, by omega, by omega⟩
  rw [ea]
  have e1 : (a : Int) + 1 = ((a + 1 : Nat) : Int) := by omega
  have e2 : (a : Int) + 2 = ((a + 2 : Nat) : Int) := by omega
  have k1 : ∀ b : Nat, Tm.cutD (rs.map D.str) none (some (b : Int)) = (rs.take b).map D.str := fun b => by rw [List.map_take]; exact cutD_to (n := b)
  have k2 : ∀ b : Nat, Tm.cutD (rs.map D.str) (some (b : Int)) none = (rs.drop b).map D.str := fun b => by rw [List.map_drop]; exact cutD_from (n := b)
  have k3 : ∀ b c : Nat, Tm.cutD (rs.map D.str) (some (b : Int)) (some (c : Int)) = ((rs.drop b).take (c - b)).map D.str := fun b c => by rw [List.map_take, List.map_drop]; exact cutD_mid (n := b) (m := c)
  have sd : ∀ xs : List Str, dirtys (xs.map D.str) = false := fun xs => dirtys_mapI (f := D.str) (fun _ => rfl) xs
  have one : ∀ y : Str, [D.str y] = [y].map D.str := fun y => rfl
  simp only [e1, e2, k1, k2, k3, ← List.map_reverse, ← List.map_append, sd, List.length_map]
  have hN2 := hr.1
  have fin : ∀ o (rs' : List Str), rs'.length ≤ rs.length + 1 → (∀ x ∈ rs', x ∈ rs ∨ (x.length ≤ L + 2 ∧ LtS x)) → Q (.lst o (rs'.map D.str)) := fun o rs' h1 h2 => q o rs' ⟨by omega, fun x hx => by
    rcases h2 x hx with h | h
    · exact ⟨by have := (hr.2 x h).1; omega, (hr.2 x h).2⟩
    · exact h⟩
  have tk : ∀ (x : Str) (k : Nat), x ∈ rs.take k → x ∈ rs := fun x k h => List.mem_of_mem_take h
  have dr : ∀ (x : Str) (k : Nat), x ∈ rs.drop k → x ∈ rs := fun x k h => List.mem_of_mem_drop h
  have md : ∀ (x : Str) (k j : Nat), x ∈ (rs.drop k).take j → x ∈ rs := fun x k j h => List.mem_of_mem_drop (List.mem_of_mem_take h)
  simp only [true_and]
  refine ⟨by omega, ?_⟩
  by_cases c0 : m % 8 = 0
  · rw [if_pos c0]
    exact ⟨by simp only [List.length_take, List.length_drop]; omega, fin _ _ (by simp only [List.length_append, List.length_take, List.length_drop]; omega) fun x hx => .inl ((List.mem_append.mp hx).elim (tk x _) (dr x _))⟩
  rw [if_neg c0]
  by_cases c1 : m % 8 = 1
  · rw [if_pos c1]
    refine ⟨by simp only [List.length_take, List.length_drop]; omega, by simp only [List.length_append, List.length_take, List.length_drop]; omega, fin _ _ (by simp only [List.length_append, List.length_take, List.length_drop]; omega) fun x hx => .inl ?_⟩
    rcases List.mem_append.mp hx with hx | hx
    · exact (List.mem_append.mp hx).elim (tk x _) (md x _ _)
    · exact dr x _ hx
  rw [if_neg c1]
  by_cases c2 : m % 8 = 2
  · rw [if_pos c2]
    refine ⟨by simp only [List.length_take, List.length_drop, List.length_reverse]; omega, by simp only [List.length_append, List.length_take, List.length_drop, List.length_reverse]; omega, fin _ _ (by simp only [List.length_append, List.length_take, List.length_drop, List.length_reverse]; omega) fun x hx => .inl ?_⟩
    rcases List.mem_append.mp hx with hx | hx
    · exact (List.mem_append.mp hx).elim (tk x _) (fun h => md x _ _ (List.mem_reverse.mp h))
    · exact dr x _ hx
  rw [if_neg c2]
  have eY : ∀ (k j : Nat) (y : Str), (rs.take k).map D.str ++ [D.str y] ++ (rs.drop j).map D.str = (rs.take k ++ [y] ++ rs.drop j).map D.str := fun k j y => by simp
  by_cases c3 : m % 8 = 3
  · rw [if_pos c3]
    refine ⟨_, _, rfl, by decide +kernel, lit_lt (by decide +kernel), fun y hy hy2 => ?_⟩
    have l5 : (Str.ofString "-  a").length = 4 := by decide +kernel
    rw [l5] at hy
    walk_at "tm"
    rw [eY]
    refine ⟨by simp only [List.length_take]; omega, ?_, ?_, fin _ _ ?_ fun x hx => ?_⟩
    · have := sd (rs.take a ++ [y])
      simpa using this
    · simp only [List.length_append, List.length_map, List.length_take, List.length_drop, List.length_singleton]; omega
    · simp only [List.length_append, List.length_take, List.length_drop, List.length_singleton]; omega
    · rcases List.mem_append.mp hx with hx | hx
      · rcases List.mem_append.mp hx with hx | hx
        · exact .inl (tk x _ hx)
        · rw [List.mem_singleton.mp hx]; exact .inr ⟨by omega, hy2⟩
      · exact .inl (dr x _ hx)
  rw [if_neg c3]
  by_cases c4 : (a : Int) < (rs.length : Int)
  · rw [if_pos c4]
    by_cases c5 : m % 8 < 7
    · rw [if_pos c5]
      obtain ⟨z, hz⟩ : ∃ z, rs[a]? = some z := ⟨_, List.getElem?_eq_getElem (by omega)⟩
      have hzr := hr.2 z (List.mem_of_getElem? hz)
      refine atK_of (d := .str z) (map_at (f := D.str) rfl hz) rfl ?_
      walk_at "tm"
      refine ⟨_, _, rfl, by omega, hzr.2, fun y hy hy2 => ?_⟩
      walk_at "tm"
      rw [eY]
      refine ⟨by simp only [List.length_take]; omega, ?_, ?_, fin _ _ ?_ fun x hx => ?_⟩
      · have := sd (rs.take a ++ [y])
        simpa using this
      · simp only [List.length_append, List.length_map, List.length_take, List.length_drop, List.length_singleton]; omega
      · simp only [List.length_append, List.length_take, List.length_drop, List.length_singleton]; omega
      · rcases List.mem_append.mp hx with hx | hx
        · rcases List.mem_append.mp hx with hx | hx
          · exact .inl (tk x _ hx)
          · rw [List.mem_singleton.mp hx]; exact .inr ⟨by omega, hy2⟩
        · exact .inl (dr x _ hx)
    · rw [if_neg c5]
      exact fin _ _ (by omega) fun x hx => .inl hx
  · rw [if_neg c4]
    exact fin _ _ (by omega) fun x hx => .inl hx

--@here
def ws__law_rows : WS := wSeq (wAsg (wCall0 spec__law_tree [] (wArg (wSl (wVar 0) (wNo) (wPart (wC (.int 24)))) (wArg (wC (.int 24)) (wNil)))) (gtName 1)) (wSeq (wAsg (wCall0 spec__law_changed [] (wArg (wFrz 1) (wArg (wFzE (wSl (wVar 0) (wPart (wC (.int 24))) (wPart (wC (.int 34))))) (wArg (wC (.int 24)) (wNil))))) (gtName 2)) (wSeq (wAsg (wCall0 spec__law_laid [] (wArg (wFrz 1) (wArg (wFrz 2) (wArg (wFzE (wCall0 spec__law_pairing [] (wArg (wFrz 1) (wArg (wFrz 2) (wArg (wFzE (wSl (wVar 0) (wNo) (wPart (wC (.int 34))))) (wNil)))))) (wNil))))) (gtName 3)) (wSeq (wAsg (wOp gMod (wCall0 spec__law_cell_at [] (wArg (wVar 0) (wArg (wC (.int 38)) (wNil)))) (wC (.int 9))) (gtName 4)) (wSeq (wAsg (wOp gMod (wCall0 spec__law_cell_at [] (wArg (wVar 0) (wArg (wC (.int 39)) (wNil)))) (wC (.int 4))) (gtName 5)) (wCut (wIf (wTest (wOp gEq (wVar 4) (wC (.int 1)))) (wSeq (wAsg (wOp gIx (wC (.str "-+ ")) (wOp gMod (wCall0 spec__law_cell_at [] (wArg (wVar 0) (wArg (wC (.int 40)) (wNil)))) (wC (.int 3)))) (gtName 6)) (wAsg (wOp gAdd (wLst (wItm (wC (.str " a")) (wNil))) (wOp gMul (wLst (wItm (wOp gAdd (wVar 6) (wC (.str "  b"))) (wNil))) (wOp gAdd (wC (.int 198)) (wVar 5)))) (gtName 3))) (wNext)) (wCut (wIf (wTest (wOp gEq (wVar 4) (wC (.int 2)))) (wAsg (wLc (its1 (wArg (wOp gAdd (wC (.int 29)) (wVar 5)) (wNil))) (gtName 7) wYes (wOp gAdd (wOp gAdd (wC (.str " ")) (wOp gMul (wC (.str "  ")) (wVar 7))) (wC (.str "b"))) [7]) (gtName 3)) (wNext)) (wSeq (wFor (its2 (wArg (wC (.int 34)) (wArg (wC (.int 38)) (wNil)))) (gtName 7) (wAsg (wCall0 spec__law_spoilt [] (wArg (wFrz 3) (wArg (wCall0 spec__law_cell_at [] (wArg (wVar 0) (wArg (wVar 7) (wNil)))) (wNil)))) (gtName 3))) (wSeq (wIf (wTest (wOp gEq (wVar 4) (wC (.int 3)))) (wAsg (wLst (wNil)) (gtName 3)) (wNext)) (wRet (wMov 3))))))))))
abbrev n__law_rows : Nat := 8
def spec__law_rows : SpecT := fun ds _ Q => ∃ ns : List Int, ds = [.seq (ns.map D.int)] ∧ ns.length ≤ 63 ∧ ∀ o rs, RowsL 5000 120 rs → Q (.lst o (rs.map D.str))
theorem len__law_rows : ∀ ds px Q, spec__law_rows ds px Q → ds.length = 1 := by
  rintro ds px Q ⟨a, rfl, _⟩; rfl
theorem pure__law_rows : ∀ ds px Q, spec__law_rows ds px Q → ws__law_rows (PEnds.top Q) px (start0 n__law_rows ds) := by
  rintro ds px Q ⟨ns, rfl, hl, q⟩
  show ws__law_rows (PEnds.top Q) px [some (.seq (ns.map D.int)), none, none, none, none, none, none, none]
  unfold ws__law_rows
  have ct : ∀ (xs : List Int) (n : Nat), Tm.cutD (xs.map D.int) none (some (n : Int)) = (xs.take n).map D.int := fun xs n => by rw [List.map_take]; exact cutD_to (n := n)
  have c24 : Tm.cutD (ns.map D.int) none (some 24) = (ns.take 24).map D.int := ct ns 24
  have c34 : Tm.cutD (ns.map D.int) none (some 34) = (ns.take 34).map D.int := ct ns 34
  have cm : Tm.cutD (ns.map D.int) (some 24) (some 34) = ((ns.drop 24).take 10).map D.int := by rw [List.map_take, List.map_drop]; exact cutD_mid (n := 24) (m := 34)
  have fzi : ∀ xs : List Int, fzs (xs.map D.int) = xs.map D.int := fzs_ints
  have sd : ∀ xs : List Str, dirtys (xs.map D.str) = false := fun xs => dirtys_mapI (f := D.str) (fun _ => rfl) xs
  have sz : ∀ xs : List Str, fzs (xs.map D.str) = xs.map D.str := fun xs => fzs_mapI (f := D.str) (fun _ => rfl) xs
  have ss : ∀ xs : List Str, selfcs (xs.map D.str) = true := fun xs => selfcs_mapI (f := D.str) (fun _ => rfl) xs
  walk_at "tm"
  rw [c24, c34, cm]
  simp only [fzi]
  refine ⟨ns.take 24, 24, rfl, by simp; omega, by decide, by decide, fun one t1 h1 => ?_⟩
  walk_at "tm"
  simp only [rowsD_fz]
  refine ⟨rowsD_selfc _, one, _, 24, rfl, t1, by omega, by omega, by simp; omega, fun o other t2 h2 => ?_⟩
  walk_at "tm"
  simp only [rowsD_fz, c34, fzi]
  refine ⟨one, other, ns.take 34, rfl, t1, t2, by omega, by omega, by rw [List.length_take]; omega, fun L M P hML hs => ?_⟩
  have g := good_of t1 t2 P hML hs
  clear P hML hs L
  have hp1 : 0 < one.length := by obtain ⟨w, r, e⟩ := t1.first; rw [e]; simp
  have hp2 : 0 < other.length := by obtain ⟨w, r, e⟩ := t2.first; rw [e]; simp
  have b1 := RowsB.of t1 (by omega)
  have b2 := RowsB.of t2 (by omega)
  have hMl := g.len hp1 hp2
  have hMr : ∀ p ∈ M, p.1 < one.length ∧ p.2 < other.length := fun p hp => by
    obtain ⟨k, hk, e⟩ := List.getElem_of_mem hp
    exact g.rng hp1 hp2 (k := k) (by rw [List.getElem?_eq_getElem hk, e])
  have clen : (chunks one other M).length ≤ 2500 := by
    rw [chunks_zip]
    have h1 := flat_len one other (zipL one other M)
    have h2 := zipL_len (one := one) (other := other) (M := M)
    have h3 : (zipL one other M).length * (1 + one.length + other.length) ≤ 24 * 49 := Nat.mul_le_mul (by omega) (by omega)
    omega
  have okc := chunks_ok b1 b2 M hMr
  have crow := chunks_row b1 b2 M hMr
  have R0 : RowsL 2500 100 (chunks one other M) := ⟨clen, fun x hx => ⟨crow x hx, .of_ok (okc x hx)⟩⟩
  walk_at "tm"
  simp only [rowsD_fz, pairsD_fz]
  refine ⟨one, other, M, rfl, b1, b2, by omega, hMr, ?_⟩
  generalize chunks one other M = C0 at R0
  clear okc crow clen
  walk_at "tm"
  refine ⟨ns, 38, rfl, by decide, ?_⟩
  walk_at "tm"
  refine ⟨ns, 39, rfl, by decide, ?_⟩
  walk_at "tm"
  obtain ⟨w, ew⟩ : ∃ w, cellI ns 38 % 9 = w := ⟨_, rfl⟩
  obtain ⟨m, em, m0, m4⟩ : ∃ m : Nat, cellI ns 39 % 4 = (m : Int) ∧ 0 ≤ m ∧ m < 4 := ⟨(cellI ns 39 % 4).toNat, by omega, by omega, by omega⟩
  rw [ew, em]
  have rp : ∀ (n : Nat) (d : D), repl n [d] = List.replicate n d := fun n d => by
    unfold repl
    induction n with
    | zero => rfl
    | succ n ih => rw [List.replicate_succ, List.flatten_cons, ih]; rfl
  refine ⟨fun env => ∃ (rs : List Str) (x6 : Option D), env = [some (D.seq (ns.map D.int)), some (D.lst false (one.map rowD)), some (D.lst false (other.map rowD)), some (.lst true (rs.map D.str)), some (.int w), some (.int m), x6, none] ∧ RowsL 2500 100 rs, ?_, ?_⟩
  · by_cases c1 : w = 1
    · rw [if_pos c1]
      refine ⟨ns, 40, rfl, by decide, ?_⟩
      walk_at "tm"
      obtain ⟨c, e, hc⟩ := atI_mem (ds := (Str.ofString "-+ ").cps.toList) (k := cellI ns 40 % 3) (by omega) (by show cellI ns 40 % 3 < 3; omega)
      refine ⟨by decide, atC_of e ?_⟩
      have hS : LtS ⟨#[c]⟩ := fun d hd => by
        have : d = c := by simpa using hd
        subst this
        have all : (Str.ofString "-+ ").cps.toList.all (fun c => decide (c < 1114112)) = true := by decide +kernel
        exact of_decide_eq_true (List.all_eq_true.mp all d hc)
      have hS2 : LtS ((⟨#[c]⟩ : Str) ++ Str.ofString "  b") := hS.app (lit_lt (by decide +kernel))
      have lb : (Str.ofString "  b").length = 3 := by decide +kernel
      have lc : (⟨#[c]⟩ : Str).length = 1 := rfl
      have ll : ((⟨#[c]⟩ : Str) ++ Str.ofString "  b").length = 4 := by rw [Str.length_append, lb, lc]
      walk_at "tm"
      generalize (⟨#[c]⟩ : Str) ++ Str.ofString "  b" = y at hS2 ll ⊢
      rw [rp]
      have en : (198 + (m : Int)).toNat = 198 + m := by omega
      rw [en]
      have es : D.str (Str.ofString " a") :: List.replicate (198 + m) (D.str y) = ((Str.ofString " a") :: List.replicate (198 + m) y).map D.str := by
        rw [List.map_cons, List.map_replicate]
      have ed : List.replicate (198 + m) (D.str y) = (List.replicate (198 + m) y).map D.str := by rw [List.map_replicate]
      refine ⟨by omega, by omega, by omega, by omega, by rw [ed]; exact sd _, by rw [List.length_replicate]; omega, _ :: List.replicate (198 + m) y, _, by rw [es], ?_, fun x hx => ?_⟩
      · rw [List.length_cons, List.length_replicate]; omega
      · rcases List.mem_cons.mp hx with rfl | hx
        · exact ⟨by decide +kernel, lit_lt (by decide +kernel)⟩
        · rw [(List.mem_replicate.mp hx).2]; exact ⟨by omega, hS2⟩
    · rw [if_neg c1]
      exact ⟨_, _, rfl, R0⟩
  rintro env2 ⟨rs, x6, rfl, R⟩
  walk_at "tm"
  refine ⟨fun env => ∃ (rs : List Str) (x6 x7 : Option D), env = [some (D.seq (ns.map D.int)), some (D.lst false (one.map rowD)), some (D.lst false (other.map rowD)), some (.lst true (rs.map D.str)), some (.int w), some (.int m), x6, x7] ∧ RowsL 2500 100 rs, ?_, ?_⟩
  · by_cases c1 : w = 2
    · rw [if_pos c1]
      have l1 : (Str.ofString " ").length = 1 := by decide +kernel
      have l2 : (Str.ofString "  ").length = 2 := by decide +kernel
      have lb : (Str.ofString "b").length = 1 := by decide +kernel
      have al : ∀ a b : Str, (a ++ b).length = a.length + b.length := fun a b => Str.length_append a b
      have e29 : rngD 0 (29 + (m : Int)).toNat = (List.range (29 + m)).map fun i : Nat => D.int ((0 : Int) + (i : Int)) := by
        rw [show (29 + (m : Int)).toNat = 29 + m from by omega]; rfl
      rw [e29]
      refine ⟨by omega, by omega, lcW_map (f := fun i : Nat => D.int ((0 : Int) + (i : Int))) (fun _ => true) (fun i : Nat => .str (Str.ofString " " ++ ind ((0 : Int) + (i : Int)) ++ Str.ofString "b")) (List.range (29 + m)) [] (by rw [List.length_range, List.length_nil]; omega) ?_ ?_⟩
      · rintro i hi Y N hy _
        have hi := List.mem_range.mp hi
        have il : (ind ((0 : Int) + (i : Int))).length = 2 * ((0 : Int) + (i : Int)).toNat := by rw [← str_len, ind_codes, List.length_replicate]
        walk_at "tm"
        rw [Int.zero_add] at hy il
        unfold ind at hy il
        exact ⟨by omega, by omega, by rw [l2]; omega, by omega, by rw [al]; omega, hy rfl⟩
      rw [filter_yes, List.nil_append]
      have e : (List.range (29 + m)).map (fun i : Nat => D.str (Str.ofString " " ++ ind ((0 : Int) + (i : Int)) ++ Str.ofString "b")) = ((List.range (29 + m)).map fun i : Nat => Str.ofString " " ++ ind ((0 : Int) + (i : Int)) ++ Str.ofString "b").map D.str := by rw [List.map_map]; rfl
      rw [e]
      refine ⟨_, _, _, rfl, by simp; omega, fun x hx => ?_⟩
      obtain ⟨i, hi, rfl⟩ := List.mem_map.mp hx
      have hi := List.mem_range.mp hi
      have il : (ind ((0 : Int) + (i : Int))).length = 2 * ((0 : Int) + (i : Int)).toNat := by rw [← str_len, ind_codes, List.length_replicate]
      exact ⟨by rw [al, al]; omega, LtS.app (LtS.app (lit_lt (by decide +kernel)) (ind_lt _)) (lit_lt (by decide +kernel))⟩
    · rw [if_neg c1]
      exact ⟨_, _, _, rfl, R⟩
  rintro env2 ⟨rs, x6, x7, rfl, R⟩
  walk_at "tm"
  refine ⟨fun i env => ∃ (rs : List Str) (o : Bool) (x6 x7 : Option D), env = [some (D.seq (ns.map D.int)), some (D.lst false (one.map rowD)), some (D.lst false (other.map rowD)), some (.lst o (rs.map D.str)), some (.int w), some (.int m), x6, x7] ∧ RowsL (2500 + i) (100 + 2 * i) rs, ⟨_, _, _, _, rfl, R⟩, ?_, ?_⟩
  · rintro i d env2 hd ⟨rs, o, x6, x7, rfl, R⟩
    obtain ⟨hi, rfl⟩ := rngD_get hd
    walk_at "tm"
    simp only [sz]
    refine ⟨ns, _, rfl, by omega, ?_⟩
    walk_at "tm"
    refine ⟨rs, _, 2500 + i, 100 + 2 * i, rfl, R, by omega, by omega, by omega, fun o2 rs2 R2 => ?_⟩
    walk_at "tm"
    exact ⟨rs2, o2, _, _, rfl, by have := R2; rw [show 2500 + i + 1 = 2500 + (i + 1) from by omega, show 100 + 2 * i + 2 = 100 + 2 * (i + 1) from by omega] at this; exact this⟩
  · rintro env2 ⟨rs, o, x6, x7, rfl, R⟩
    have R' : RowsL 5000 120 rs := ⟨by have := R.1; rw [rngD_len] at this; omega, fun x hx => ⟨by have := (R.2 x hx).1; rw [rngD_len] at this; omega, (R.2 x hx).2⟩⟩
    walk_at "tm"
    by_cases c3 : w = 3
    · rw [if_pos c3]
      exact q true [] ⟨by simp, fun x hx => by simp at hx⟩
    · rw [if_neg c3]
      exact q o rs R'
--@here
def ws_deep_of : WS := wRet (wOp gFdiv (wOp gMinus (wB gLen (wArg (wVar 0) (wNil))) (wB gLen (wArg (wM1 gLstripC (wVar 0) (wC (.str " "))) (wNil)))) (wC (.int 2)))
abbrev n_deep_of : Nat := 1
def dpT (x : Str) : Int := ((x.length : Int) - (Txt.lstripChars x (Str.ofString " ")).length) / 2
def spec_deep_of : SpecT := fun ds _ Q => ∃ x : Str, ds = [.str x] ∧ x.length ≤ 10000 ∧ Q (.int (dpT x))
theorem len_deep_of : ∀ ds px Q, spec_deep_of ds px Q → ds.length = 1 := by
  rintro ds px Q ⟨a, rfl, _⟩; rfl
theorem pure_deep_of : ∀ ds px Q, spec_deep_of ds px Q → ws_deep_of (PEnds.top Q) px (start0 n_deep_of ds) := by
  rintro ds px Q ⟨x, rfl, hx, q⟩
  show ws_deep_of (PEnds.top Q) px [some (.str x)]
  unfold ws_deep_of
  walk_at "tm"
  have := strip_le (Str.ofString " ").cps.contains true false x
  exact ⟨by omega, by omega, by unfold Txt.lstripChars; omega, q⟩
def ws_words_of : WS := wSeq (wAsg (wSl (wVar 0) (wPart (wC (.int 1))) (wNo)) (gtName 1)) (wSeq (wAsg (wM1 gPart (wM1 gStripC (wVar 1) (wC (.str " "))) (wC (.str ">"))) (gtTup 3 (gtCons (gtName 2) (gtCons (gtName 3) (gtCons (gtName 4) (fun ds env Q => ds = [] ∧ Q env)))))) (wSeq (wIf (wTest (wOp gNe (wSl (wVar 0) (wNo) (wPart (wC (.int 1)))) (wC (.str "~")))) (wAsg (wVar 2) (gtName 4)) (wNext)) (wRet (wTup (wItm (wSl (wVar 0) (wNo) (wPart (wC (.int 1)))) (wItm (wCall0 spec_deep_of [] (wArg (wVar 1) (wNil))) (wItm (wMov 2) (wItm (wMov 4) (wNil)))))))))
abbrev n_words_of : Nat := 5
def rdD (x : Str) : D := .tup [.str (rdW x).1, .int (rdW x).2.1, .str (rdW x).2.2.1, .str (rdW x).2.2.2]
def spec_words_of : SpecT := fun ds _ Q => ∃ x : Str, ds = [.str x] ∧ x.length ≤ 10000 ∧ Q (rdD x)
theorem len_words_of : ∀ ds px Q, spec_words_of ds px Q → ds.length = 1 := by
  rintro ds px Q ⟨a, rfl, _⟩; rfl
theorem pure_words_of : ∀ ds px Q, spec_words_of ds px Q → ws_words_of (PEnds.top Q) px (start0 n_words_of ds) := by
  rintro ds px Q ⟨x, rfl, hx, q⟩
  show ws_words_of (PEnds.top Q) px [some (.str x), none, none, none, none]
  unfold ws_words_of
  walk_at "tm"
  have h1 := cutS_f1 (x := x)
  have h2 := strip_le (Str.ofString " ").cps.contains true true (cutS x (some 1) none)
  unfold rdD rdW at q
  refine ⟨by omega, by omega, by decide +kernel, by unfold Txt.stripChars; omega, by omega, ?_⟩
  by_cases c : cutS x none (some 1) = Str.ofString "~"
  · rw [if_pos c] at q
    rw [if_neg (by rw [decide_eq_true c]; simp)]
    exact ⟨by omega, _, rfl, by omega, q⟩
  · rw [if_neg c] at q
    rw [if_pos (decide_eq_false c)]
    exact ⟨by omega, _, rfl, by omega, q⟩

def ws_read_laid : WS := wSeq (wAsg (wLst (wNil)) (gtName 1)) (wSeq (wAsg (wLst (wNil)) (gtName 2)) (wSeq (wAsg (wLst (wNil)) (gtName 3)) (wSeq (wFor (itsL (wVar 0)) (gtName 4) (wSeq (wAsg (wCall0 spec_words_of [] (wArg (wVar 4) (wNil))) (gtTup 4 (gtCons (gtName 5) (gtCons (gtName 6) (gtCons (gtName 7) (gtCons (gtName 8) (fun ds env Q => ds = [] ∧ Q env))))))) (wSeq (wIf (wTest (wOp gIn (wVar 5) (wTup (wItm (wC (.str " ")) (wItm (wC (.str "~")) (wNil)))))) (wApp 3 (wTup (wItm (wB gLen (wArg (wVar 1) (wNil))) (wItm (wB gLen (wArg (wVar 2) (wNil))) (wNil))))) (wNext)) (wSeq (wIf (wTest (wOp gNe (wVar 5) (wC (.str "+")))) (wApp 1 (wTup (wItm (wVar 6) (wItm (wVar 7) (wNil))))) (wNext)) (wIf (wTest (wOp gNe (wVar 5) (wC (.str "-")))) (wApp 2 (wTup (wItm (wVar 6) (wItm (wVar 8) (wNil))))) (wNext)))))) (wSeq (wIf (wOr (wNot (wTest (wCall0 spec_is_tree [] (wArg (wVar 1) (wNil))))) (wOr (wNot (wTest (wCall0 spec_is_tree [] (wArg (wVar 2) (wNil))))) (wNot (wTest (wCall0 spec_is_pairing [] (wArg (wVar 1) (wArg (wVar 2) (wArg (wVar 3) (wNil))))))))) (wRaise "NoRows") (wNext)) (wSeq (wIf (wTest (wOp gNe (wCall0 spec_laid_out [] (wArg (wVar 1) (wArg (wVar 2) (wArg (wVar 3) (wNil))))) (wVar 0))) (wRaise "NoRows") (wNext)) (wRet (wTup (wItm (wMov 1) (wItm (wMov 2) (wItm (wMov 3) (wNil)))))))))))
abbrev n_read_laid : Nat := 9
def spec_read_laid : SpecT := fun ds px Q => ∃ rs : List Str, ds = [.lst false (rs.map D.str)] ∧ RowsL 5000 120 rs ∧ (∀ one other M, RowsP rs one other M → Q (.tup [.lst true (one.map rowD), .lst true (other.map rowD), .lst true (M.map pairD)])) ∧ ((∀ one other M, ¬ RowsP rs one other M) → ∀ env, px "NoRows" env)
theorem len_read_laid : ∀ ds px Q, spec_read_laid ds px Q → ds.length = 1 := by
  rintro ds px Q ⟨a, rfl, _⟩; rfl
theorem pure_read_laid : ∀ ds px Q, spec_read_laid ds px Q → ws_read_laid (PEnds.top Q) px (start0 n_read_laid ds) := by
  rintro ds px Q ⟨C, rfl, hR, q, no⟩
  show ws_read_laid (PEnds.top Q) px [some (.lst false (C.map D.str)), none, none, none, none, none, none, none, none]
  unfold ws_read_laid
  have hCl := hR.1
  walk_at "tm"
  refine ⟨dirtys_mapI (f := D.str) (fun _ => rfl) C, fun i env => ∃ (st : RdS) (x4 x5 x6 x7 x8 : Option D), env = [some (.lst false (C.map D.str)), some (.lst true (st.1.map rowD)), some (.lst true (st.2.1.map rowD)), some (.lst true (st.2.2.map pairD)), x4, x5, x6, x7, x8] ∧ st = (C.take i).foldl (rdStep rdW) ([], [], []), ⟨([], [], []), _, _, _, _, _, rfl, rfl⟩, ?_, ?_⟩
  · rintro i d env2 hd ⟨st, x4, x5, x6, x7, x8, rfl, hst⟩
    obtain ⟨x, hx, rfl⟩ := map_get hd
    have hi := (List.getElem?_eq_some_iff.mp hx).1
    have hxl := (hR.2 x (List.mem_of_getElem? hx)).1
    have hlen := rd_len rdW (C.take i) ([], [], [])
    rw [← hst, List.length_take] at hlen
    have enext : (C.take (i + 1)).foldl (rdStep rdW) ([], [], []) = rdStep rdW st x := by
      rw [List.take_succ, hx, List.foldl_append, ← hst]; rfl
    have eP : ∀ (xs : List Row) (d : Int) (w : Str), xs.map rowD ++ [D.tup [.int d, .str w]] = (xs ++ [(d, w)]).map rowD := fun xs d w => by simp [rowD]
    have eQ : ∀ (xs : List (Nat × Nat)) (a b : Nat), xs.map pairD ++ [D.tup [.int a, .int b]] = (xs ++ [(a, b)]).map pairD := fun xs a b => by simp [pairD]
    walk_at "tm"
    refine ⟨x, rfl, by omega, ?_⟩
    unfold rdStep at enext
    unfold rdD
    generalize rdW x = w at enext ⊢
    obtain ⟨sg, dp', old, new⟩ := w
    walk_at "tm"
    have e1 : scalD (D.str sg) = true := rfl
    have e2 : inF (D.str sg) [D.str (Str.ofString " "), D.str (Str.ofString "~")] = decide (sg = Str.ofString " " ∨ sg = Str.ofString "~") := by
      have : ∀ a b : Str, eqF (D.str a) (D.str b) = decide (b = a) := fun a b => by
        show (a == b) = _
        by_cases c : b = a
        · subst c; simp
        · have c2 : ¬ a = b := fun z => c z.symm
          simp [c, c2]
      simp [inF, this]
    refine ⟨e1, rfl, ?_⟩
    rw [e2]
    simp only at enext
    simp only [List.length_nil] at hlen
    simp only [eP, eQ]
    by_cases c3 : sg = Str.ofString " " ∨ sg = Str.ofString "~"
    · rw [if_pos (decide_eq_true c3)]
      rw [if_pos c3] at enext
      refine ⟨by omega, ?_⟩
      by_cases c1 : sg = Str.ofString "+"
      · rw [if_neg (by rw [decide_eq_true c1]; simp)]
        rw [if_pos c1] at enext
        by_cases c2 : sg = Str.ofString "-"
        · rw [if_neg (by rw [decide_eq_true c2]; simp)]
          rw [if_pos c2] at enext
          exact ⟨(_, _, _), _, _, _, _, _, rfl, enext.symm⟩
        · rw [if_pos (decide_eq_false c2)]
          rw [if_neg c2] at enext
          exact ⟨by omega, (_, _, _), _, _, _, _, _, rfl, enext.symm⟩
      · rw [if_pos (decide_eq_false c1)]
        rw [if_neg c1] at enext
        refine ⟨by omega, ?_⟩
        by_cases c2 : sg = Str.ofString "-"
        · rw [if_neg (by rw [decide_eq_true c2]; simp)]
          rw [if_pos c2] at enext
          exact ⟨(_, _, _), _, _, _, _, _, rfl, enext.symm⟩
        · rw [if_pos (decide_eq_false c2)]
          rw [if_neg c2] at enext
          exact ⟨by omega, (_, _, _), _, _, _, _, _, rfl, enext.symm⟩
    · rw [if_neg (by rw [decide_eq_false c3]; simp)]
      rw [if_neg c3] at enext
      by_cases c1 : sg = Str.ofString "+"
      · rw [if_neg (by rw [decide_eq_true c1]; simp)]
        rw [if_pos c1] at enext
        by_cases c2 : sg = Str.ofString "-"
        · rw [if_neg (by rw [decide_eq_true c2]; simp)]
          rw [if_pos c2] at enext
          exact ⟨(_, _, _), _, _, _, _, _, rfl, enext.symm⟩
        · rw [if_pos (decide_eq_false c2)]
          rw [if_neg c2] at enext
          exact ⟨by omega, (_, _, _), _, _, _, _, _, rfl, enext.symm⟩
      · rw [if_pos (decide_eq_false c1)]
        rw [if_neg c1] at enext
        refine ⟨by omega, ?_⟩
        by_cases c2 : sg = Str.ofString "-"
        · rw [if_neg (by rw [decide_eq_true c2]; simp)]
          rw [if_pos c2] at enext
          exact ⟨(_, _, _), _, _, _, _, _, rfl, enext.symm⟩
        · rw [if_pos (decide_eq_false c2)]
          rw [if_neg c2] at enext
          exact ⟨by omega, (_, _, _), _, _, _, _, _, rfl, enext.symm⟩
  · rintro env2 ⟨st, x4, x5, x6, x7, x8, rfl, hst⟩
    rw [List.length_map, List.take_length] at hst
    have hst : st = rdAll rdW C := hst
    have ri : Rise st := by rw [hst]; exact Rise.all C Rise.nil
    have ok := rd_ok (f := rdW) (L := 120) C (st := ([], [], [])) (fun x hx => by
      have := rdW_sub (hR.2 x hx).2
      have l := (hR.2 x hx).1
      exact ⟨⟨by omega, this.1.2⟩, by omega, this.2.2⟩) (fun r h => by simp at h) (fun r h => by simp at h)
    have ln := rd_len rdW C ([], [], [])
    have ok : (∀ r ∈ st.1, r.2.length ≤ 120 ∧ LtS r.2) ∧ ∀ r ∈ st.2.1, r.2.length ≤ 120 ∧ LtS r.2 := by rw [hst]; exact ok
    have ln : st.1.length ≤ 0 + C.length ∧ st.2.1.length ≤ 0 + C.length ∧ st.2.2.length ≤ 0 + C.length := by rw [hst]; exact ln
    obtain ⟨one, other, M⟩ := st
    simp only at ri ok ln
    have hMl := ri.len
    simp only at hMl
    have bad : ¬ (TreeP one ∧ TreeP other ∧ GoodP one other (M.map toI) ∧ chunks one other M = C) → ∀ env, px "NoRows" env := fun h => no fun o1 o2 M' hP => h (by
      have e := hP.rd PF.rd
      rw [← hst] at e
      cases e
      obtain ⟨t1, t2, h1, h2, g, e⟩ := hP
      exact ⟨t1.p h1, t2.p h2, g, e⟩)
    have ro1 : RowsOk one := ⟨by omega, fun r h => ⟨by have := (ok.1 r h).1; omega, (ok.1 r h).2.ok⟩⟩
    have ro2 : RowsOk other := ⟨by omega, fun r h => ⟨by have := (ok.2 r h).1; omega, (ok.2 r h).2.ok⟩⟩
    have sc : ∀ xs : List Str, selfcs (xs.map D.str) = true := fun xs => selfcs_mapI (f := D.str) (fun _ => rfl) xs
    walk_at "tm"
    simp only [rowsD_fz, pairsD_fz]
    refine ⟨one, rfl, ro1, fun c hc => ?_⟩
    cases c with
    | false =>
      walk_at "tm"
      exact bad (fun h => by cases hc.mpr h.1) _
    | true =>
    have p1 := hc.mp rfl
    walk_at "tm"
    refine ⟨other, rfl, ro2, fun c hc => ?_⟩
    cases c with
    | false =>
      walk_at "tm"
      exact bad (fun h => by cases hc.mpr h.2.1) _
    | true =>
    have p2 := hc.mp rfl
    have t1 := p1.l
    have t2 := p2.l
    have b1 := RowsB.of t1 p1.most
    have b2 := RowsB.of t2 p2.most
    walk_at "tm"
    rw [toI_map]
    refine ⟨one, other, M.map toI, rfl, t1, t2, by omega, by omega, by rw [List.length_map]; have := p1.most; omega, fun c hc => ?_⟩
    cases c with
    | false =>
      walk_at "tm"
      exact bad (fun h => by cases hc.mpr h.2.2.1) _
    | true =>
    have g := hc.mp rfl
    have hMr : ∀ p ∈ M, p.1 < one.length ∧ p.2 < other.length := ri.rng
    walk_at "tm"
    rw [← toI_map]
    refine ⟨one, other, M, rfl, b1, b2, by have := p1.most; omega, hMr, ?_⟩
    walk_at "tm"
    refine ⟨sc _, strs_fit (chunks_ok b1 b2 M hMr), strs_fit fun x hx => (hR.2 x hx).2.ok, ?_⟩
    rw [strs_eqd]
    by_cases ce : chunks one other M = C
    · rw [if_neg (by rw [decide_eq_true ce]; simp)]
      exact q one other M ⟨t1, t2, p1.most, p2.most, g, ce⟩
    · rw [if_pos (decide_eq_false ce)]
      exact bad (fun h => ce h.2.2.2) _

--@here
def ws__law_is_tree : WS := wSeq (wIf (wOr (wTest (wOp gEq (wB gLen (wArg (wVar 0) (wNil))) (wC (.int 0)))) (wOr (wTest (wOp gGt (wB gLen (wArg (wVar 0) (wNil))) (wC (.int 200)))) (wTest (wOp gNe (wOp gIx (wOp gIx (wVar 0) (wC (.int 0))) (wC (.int 0))) (wC (.int 0)))))) (wRet (wC (.bl false))) (wNext)) (wSeq (wFor (its1 (wArg (wB gLen (wArg (wVar 0) (wNil))) (wNil))) (gtName 1) (wSeq (wAsg (wOp gIx (wVar 0) (wVar 1)) (gtTup 2 (gtCons (gtName 2) (gtCons (gtName 3) (fun ds env Q => ds = [] ∧ Q env))))) (wSeq (wIf (wOr (wAnd (wTest (wOp gGt (wVar 1) (wC (.int 0)))) (wOr (wTest (wOp gLt (wVar 2) (wC (.int 1)))) (wTest (wOp gGt (wVar 2) (wOp gAdd (wOp gIx (wOp gIx (wVar 0) (wOp gMinus (wVar 1) (wC (.int 1)))) (wC (.int 0))) (wC (.int 1))))))) (wOr (wTest (wOp gGt (wVar 2) (wC (.int 30)))) (wOr (wTest (wOp gLt (wB gLen (wArg (wVar 3) (wNil))) (wC (.int 1)))) (wTest (wOp gGt (wB gLen (wArg (wVar 3) (wNil))) (wC (.int 12))))))) (wRet (wC (.bl false))) (wNext)) (wIf (wTest (wOp gNe (wLc (itsS (wVar 3)) (gtName 4) (wTest (wOp gNotIn (wVar 4) (wC (.str "abcdefghijklmnopqrstuvwxyz0123456789+-*=<")))) (wVar 4) [4]) (wLst (wNil)))) (wRet (wC (.bl false))) (wNext))))) (wRet (wC (.bl true))))
abbrev n__law_is_tree : Nat := 5
def spec__law_is_tree : SpecT := fun ds _ Q => ∃ rows : List Row, ds = [.lst false (rows.map rowD)] ∧ RowsOk rows ∧ ∀ c : Bool, (c = true ↔ TreeP rows) → Q (.bl c)
theorem len__law_is_tree : ∀ ds px Q, spec__law_is_tree ds px Q → ds.length = 1 := by
  rintro ds px Q ⟨a, rfl, _⟩; rfl
theorem pure__law_is_tree : ∀ ds px Q, spec__law_is_tree ds px Q → ws__law_is_tree (PEnds.top Q) px (start0 n__law_is_tree ds) := by
  rintro ds px Q ⟨rows, rfl, hw, q⟩
  have qf : ¬ TreeP rows → Q (.bl false) := fun h => q false ⟨fun z => Bool.noConfusion z, fun z => absurd z h⟩
  have qt : TreeP rows → Q (.bl true) := fun h => q true ⟨fun _ => h, fun _ => rfl⟩
  show ws__law_is_tree (PEnds.top Q) px [some (.lst false (rows.map rowD)), none, none, none, none]
  unfold ws__law_is_tree
  walk_at "tm"
  by_cases h0 : rows.length = 0
  · rw [if_pos (by omega)]
    exact qf fun t => t.ne (List.length_eq_zero_iff.mp h0)
  rw [if_neg (by omega)]
  by_cases h1 : 200 < (rows.length : Int)
  · rw [if_pos h1]
    exact qf fun t => by have := t.most; omega
  rw [if_neg h1]
  obtain ⟨r0, rs, e0⟩ : ∃ r0 rs, rows = r0 :: rs := by
    cases rows with
    | nil => exact absurd rfl h0
    | cons a b => exact ⟨a, b, rfl⟩
  have g0 : rows[0]? = some r0 := by rw [e0]; rfl
  refine atK_of (d := .tup [.int r0.1, .str r0.2]) (map_at (f := rowD) (j := 0) rfl g0) rfl ?_
  walk_at "tm"
  by_cases h2 : r0.1 = 0
  · rw [if_neg (by simp [h2])]
    refine ⟨by omega, by omega, fun i env => ∃ (x1 x2 x3 : Option D), env = [some (.lst false (rows.map rowD)), x1, x2, x3, none] ∧ (∀ j < i, ∀ r, rows[j]? = some r → isW r.2 = true ∧ r.1 ≤ 30) ∧ (∀ j, j + 1 < i → ∀ r p, rows[j + 1]? = some r → rows[j]? = some p → 1 ≤ r.1 ∧ r.1 ≤ p.1 + 1), ⟨_, _, _, rfl, fun j hj => by omega, fun j hj => by omega⟩, ?_, ?_⟩
    · rintro i d env2 hd ⟨x1, x2, x3, rfl, k1, k2⟩
      obtain ⟨hi, rfl⟩ := rngD_get hd
      have hi : i < rows.length := by omega
      obtain ⟨r, hr⟩ : ∃ r, rows[i]? = some r := ⟨_, List.getElem?_eq_getElem hi⟩
      have hrl := (hw.2 r (List.mem_of_getElem? hr)).1
      have hro := (hw.2 r (List.mem_of_getElem? hr)).2
      rw [Int.zero_add]
      walk_at "tm"
      refine atK_of (d := .tup [.int r.1, .str r.2]) (map_at (f := rowD) rfl hr) rfl ?_
      walk_at "tm"
      by_cases c3 : 0 < i
      · obtain ⟨p, hp⟩ : ∃ p, rows[i - 1]? = some p := ⟨_, List.getElem?_eq_getElem (by omega)⟩
        have bad : ¬ (1 ≤ r.1 ∧ r.1 ≤ p.1 + 1) → Q (.bl false) := fun z => qf fun t => z (t.step (i - 1) r p (by rw [show i - 1 + 1 = i from by omega]; exact hr) hp)
        rw [if_pos (by omega)]
        by_cases c4 : r.1 < 1
        · rw [if_pos c4]; exact bad (by omega)
        rw [if_neg c4]
        refine atK_of (d := .tup [.int p.1, .str p.2]) (map_at (f := rowD) (by omega) hp) rfl ?_
        walk_at "tm"
        by_cases c5 : p.1 + 1 < r.1
        · rw [if_pos c5]; exact bad (by omega)
        rw [if_neg c5]
        have st : ∀ u, rows[i - 1]? = some u → 0 < i → 1 ≤ r.1 ∧ r.1 ≤ u.1 + 1 := fun u hu _ => by rw [hp] at hu; cases hu; omega
        by_cases d1 : 30 < r.1
        · rw [if_pos d1]
          exact qf fun t => by have := (t.rng i r hr).2; omega
        rw [if_neg d1]
        by_cases d2 : (r.2.length : Int) < 1
        · refine ⟨by omega, ?_⟩
          rw [if_pos d2]
          exact qf fun t => by have := (isW_iff.mp (t.rng i r hr).1).2.1; omega
        refine ⟨by omega, ?_⟩
        rw [if_neg d2]
        refine ⟨by omega, ?_⟩
        by_cases d3 : 12 < (r.2.length : Int)
        · rw [if_pos d3]
          exact qf fun t => by have := (isW_iff.mp (t.rng i r hr).1).2.2; omega
        rw [if_neg d3]
        refine lcW_map (f := fun c : Nat => D.str ⟨#[c]⟩) (fun c => !decide (c ∈ SG.cps.toList)) (fun c : Nat => D.str ⟨#[c]⟩) r.2.cps.toList [] (by rw [List.length_nil, str_len]; omega) ?_ ?_
        · rintro c hc Y N hy hn
          walk_at "tm"
          show if decide (c ∈ SG.cps.toList) = false then _ else _
          by_cases cm : c ∈ SG.cps.toList
          · rw [if_neg (by simp [cm])]
            exact hn (by simp [cm])
          · rw [if_pos (by simp [cm])]
            exact hy (by simp [cm])
        rw [List.nil_append]
        have cok : ∀ c ∈ r.2.cps.toList, c < 1114112 := LtS.of_ok hro
        refine ⟨shD_slst (f := fun c : Nat => (⟨#[c]⟩ : Str)) _ fun c hc => LtS.ok fun d hd => (by
          have : d = c := by simpa using hd
          subst this
          exact cok d (List.mem_filter.mp hc).1), shD_nil, ?_⟩
        rw [eqD_nil]
        by_cases d4 : r.2.cps.toList.filter (fun c => !decide (c ∈ SG.cps.toList)) = []
        · rw [if_neg (by rw [d4]; simp)]
          have wok : isW r.2 = true := isW_iff.mpr ⟨fun c hc => by
            have := List.filter_eq_nil_iff.mp d4 c hc
            simpa using this, by omega, by omega⟩
          refine ⟨_, _, _, rfl, fun j hj s hs => ?_, fun j hj s u hs hu => ?_⟩
          · by_cases e : j < i
            · exact k1 j e s hs
            · rw [show j = i from by omega, hr] at hs; cases hs; exact ⟨wok, by omega⟩
          · by_cases e : j + 1 < i
            · exact k2 j e s u hs hu
            · rw [show j + 1 = i from by omega, hr] at hs; cases hs
              exact st u (by rw [show i - 1 = j from by omega]; exact hu) (by omega)
        · rw [if_pos (by simpa using d4)]
          exact qf fun t => d4 (List.filter_eq_nil_iff.mpr fun c hc => by
            have := (isW_iff.mp (t.rng i r hr).1).1 c hc
            simpa using this)
      · rw [if_neg (by omega)]
        have st : ∀ u, rows[i - 1]? = some u → 0 < i → 1 ≤ r.1 ∧ r.1 ≤ u.1 + 1 := fun u _ z => by omega
        by_cases d1 : 30 < r.1
        · rw [if_pos d1]
          exact qf fun t => by have := (t.rng i r hr).2; omega
        rw [if_neg d1]
        by_cases d2 : (r.2.length : Int) < 1
        · refine ⟨by omega, ?_⟩
          rw [if_pos d2]
          exact qf fun t => by have := (isW_iff.mp (t.rng i r hr).1).2.1; omega
        refine ⟨by omega, ?_⟩
        rw [if_neg d2]
        refine ⟨by omega, ?_⟩
        by_cases d3 : 12 < (r.2.length : Int)
        · rw [if_pos d3]
          exact qf fun t => by have := (isW_iff.mp (t.rng i r hr).1).2.2; omega
        rw [if_neg d3]
        refine lcW_map (f := fun c : Nat => D.str ⟨#[c]⟩) (fun c => !decide (c ∈ SG.cps.toList)) (fun c : Nat => D.str ⟨#[c]⟩) r.2.cps.toList [] (by rw [List.length_nil, str_len]; omega) ?_ ?_
        · rintro c hc Y N hy hn
          walk_at "tm"
          show if decide (c ∈ SG.cps.toList) = false then _ else _
          by_cases cm : c ∈ SG.cps.toList
          · rw [if_neg (by simp [cm])]
            exact hn (by simp [cm])
          · rw [if_pos (by simp [cm])]
            exact hy (by simp [cm])
        rw [List.nil_append]
        have cok : ∀ c ∈ r.2.cps.toList, c < 1114112 := LtS.of_ok hro
        refine ⟨shD_slst (f := fun c : Nat => (⟨#[c]⟩ : Str)) _ fun c hc => LtS.ok fun d hd => (by
          have : d = c := by simpa using hd
          subst this
          exact cok d (List.mem_filter.mp hc).1), shD_nil, ?_⟩
        rw [eqD_nil]
        by_cases d4 : r.2.cps.toList.filter (fun c => !decide (c ∈ SG.cps.toList)) = []
        · rw [if_neg (by rw [d4]; simp)]
          have wok : isW r.2 = true := isW_iff.mpr ⟨fun c hc => by
            have := List.filter_eq_nil_iff.mp d4 c hc
            simpa using this, by omega, by omega⟩
          refine ⟨_, _, _, rfl, fun j hj s hs => ?_, fun j hj s u hs hu => ?_⟩
          · by_cases e : j < i
            · exact k1 j e s hs
            · rw [show j = i from by omega, hr] at hs; cases hs; exact ⟨wok, by omega⟩
          · by_cases e : j + 1 < i
            · exact k2 j e s u hs hu
            · rw [show j + 1 = i from by omega, hr] at hs; cases hs
              exact st u (by rw [show i - 1 = j from by omega]; exact hu) (by omega)
        · rw [if_pos (by simpa using d4)]
          exact qf fun t => d4 (List.filter_eq_nil_iff.mpr fun c hc => by
            have := (isW_iff.mp (t.rng i r hr).1).1 c hc
            simpa using this)
    · rintro env2 ⟨x1, x2, x3, rfl, k1, k2⟩
      rw [rngD_len, show ((rows.length : Int)).toNat = rows.length from by omega] at k1 k2
      walk_at "tm"
      refine qt ⟨by rw [e0]; simp, by omega, fun r hr => by rw [g0] at hr; cases hr; exact h2, fun j r hr => k1 j (List.getElem?_eq_some_iff.mp hr).1 r hr, fun j r p hr hp => k2 j (List.getElem?_eq_some_iff.mp hr).1 r p hr hp⟩
  · rw [if_pos (by simp [h2])]
    exact qf fun t => h2 (t.first r0 g0)
--@here
/-! what the law reads of a row -/
def kB (x : Str) : Nat := ((x.cps.toList.drop 1).takeWhile fun c => decide (c = 32)).length
def wdB (x : Str) : Str := cutS x (some ((kB x + 1 : Nat) : Int)) none
def atB (x : Str) : Int := Txt.find (wdB x) (Str.ofString ">")
def lwW (x : Str) : Str × Int × Str × Str :=
  (cutS x none (some 1), (kB x : Int) / 2, if cutS x none (some 1) = Str.ofString "~" then cutS (wdB x) none (some (if 0 > atB x then 0 else atB x)) else wdB x, if cutS x none (some 1) = Str.ofString "~" then cutS (wdB x) (some (atB x + 1)) none else wdB x)
theorem find_at {x : Str} {a b : List Nat} (e : x.cps.toList = a ++ 62 :: b) (h : 62 ∉ a) : Txt.find x (Str.ofString ">") = (a.length : Int) := by
  have at1 : x.cps.toList[a.length]? = some 62 := by rw [e]; simp
  unfold Txt.find
  rw [gt_cps]
  rcases StrLaws.occ_head x ⟨#[62]⟩ 1 (Nat.le_refl _) with ⟨_, hn⟩ | ⟨i, r, e2, ha, hn⟩
  · exact absurd ((StrLaws.subAt_one x 62 _).mpr at1) (hn _)
  · have hi : i = a.length := by
      have h1 : ¬ a.length < i := fun z => hn _ z ((StrLaws.subAt_one x 62 _).mpr at1)
      have h2 : ¬ i < a.length := fun z => by
        have := (StrLaws.subAt_one x 62 i).mp ha
        rw [e, List.getElem?_append_left z] at this
        exact h (List.mem_of_getElem? this)
      omega
    subst hi
    rw [e2]
theorem rowT_codes {c : Nat} {d : Int} {w : Str} : (rowT ⟨#[c]⟩ (d, w)).cps.toList = c :: (List.replicate (2 * d.toNat) 32 ++ w.cps.toList) := by
  unfold rowT
  rw [str_app, str_app, ind_codes]; rfl
theorem kB_row {c : Nat} {d : Int} {w : Str} (hw : ∀ c ∈ w.cps.toList, c ≠ 32) : kB (rowT ⟨#[c]⟩ (d, w)) = 2 * d.toNat ∧ wdB (rowT ⟨#[c]⟩ (d, w)) = w := by
  have k : kB (rowT ⟨#[c]⟩ (d, w)) = 2 * d.toNat := by
    unfold kB
    rw [rowT_codes]
    exact tw_rep (g := fun c => decide (c = 32)) (fun c hc => decide_eq_false (hw c hc)) rfl _
  refine ⟨k, ?_⟩
  unfold wdB
  rw [k, cutS_from, rowT_codes, List.drop_succ_cons, List.drop_left' (by simp)]
theorem PF.lw : PF lwW := ⟨fun {c d w} h1 h2 h3 => by
    obtain ⟨n1, n2⟩ := sg_no h3.1
    obtain ⟨k1, k2⟩ := kB_row (c := c) (d := d) n1
    obtain ⟨c1, _⟩ := rowT_cut (c := c) (d := d) (w := w)
    have ne : ¬ (⟨#[c]⟩ : Str) = Str.ofString "~" := fun z => h1 (by
      have := congrArg (fun s : Str => s.cps.toList) z
      rw [show (Str.ofString "~").cps.toList = [126] from by decide +kernel] at this
      simpa using this)
    unfold lwW
    rw [k1, k2, c1, if_neg ne, if_neg ne]
    have : ((2 * d.toNat : Nat) : Int) / 2 = d := by omega
    rw [this], fun {d v w} h1 h2 h3 => by
    have et : Str.ofString "~" = ⟨#[126]⟩ := by decide +kernel
    obtain ⟨n1, n2⟩ := sg_no h2.1
    obtain ⟨n3, n4⟩ := sg_no h3.1
    have ec : (v ++ Str.ofString ">" ++ w).cps.toList = v.cps.toList ++ 62 :: w.cps.toList := by
      rw [str_app, str_app, gt_cps, List.append_assoc]; rfl
    have nn : ∀ c ∈ (v ++ Str.ofString ">" ++ w).cps.toList, c ≠ 32 := fun c hc => by
      rw [ec] at hc
      rcases List.mem_append.mp hc with hc | hc
      · exact n1 c hc
      · rcases List.mem_cons.mp hc with hc | hc
        · rw [hc]; decide
        · exact n3 c hc
    obtain ⟨k1, k2⟩ := kB_row (c := 126) (d := d) nn
    obtain ⟨c1, _⟩ := rowT_cut (c := 126) (d := d) (w := v ++ Str.ofString ">" ++ w)
    have fa : atB (rowT ⟨#[126]⟩ (d, v ++ Str.ofString ">" ++ w)) = (v.length : Int) := by
      unfold atB
      rw [k2, find_at ec n2, str_len]
    have vl := h2.2.1
    unfold lwW
    rw [et, k1, k2, c1, fa, if_pos rfl, if_pos rfl, if_neg (by omega)]
    have s1 : cutS (v ++ Str.ofString ">" ++ w) none (some (v.length : Int)) = v := by
      rw [cutS_to (by rw [← str_len, ← str_len, ec]; simp), ec, List.take_left' str_len]
    have s2 : cutS (v ++ Str.ofString ">" ++ w) (some ((v.length : Int) + 1)) none = w := by
      rw [show ((v.length : Int) + 1) = ((v.length + 1 : Nat) : Int) from by omega, cutS_from, ec, show v.cps.toList ++ 62 :: w.cps.toList = (v.cps.toList ++ [62]) ++ w.cps.toList from by simp, List.drop_left' (by rw [List.length_append, str_len]; rfl)]
    rw [gt_cps] at s1 s2
    have : ((2 * d.toNat : Nat) : Int) / 2 = d := by omega
    rw [gt_cps, s1, s2, this]⟩
theorem tw_len : ∀ (t : List Nat) (b : Nat), (∀ j < b, t[j]? = some 32) → t[b]? ≠ some 32 → (t.takeWhile fun c => decide (c = 32)).length = b
  | [], b, h, _ => by
    cases b with
    | zero => rfl
    | succ b => have := h 0 (by omega); cases this
  | c :: t, 0, _, h => by
    have : c ≠ 32 := fun z => h (by rw [z]; rfl)
    rw [List.takeWhile_cons, if_neg (by simpa using this)]; rfl
  | c :: t, b + 1, h, h2 => by
    have e : c = 32 := by have := h 0 (by omega); simpa using this
    rw [List.takeWhile_cons, if_pos (by simp [e]), List.length_cons, tw_len t b (fun j hj => by have := h (j + 1) (by omega); simpa using this) (by simpa using h2)]
--@here
def ws__law_words : WS := wSeq (wAsg (wC (.int 0)) (gtName 1)) (wSeq (wWhile (wAnd (wTest (wOp gLt (wOp gAdd (wVar 1) (wC (.int 1))) (wB gLen (wArg (wVar 0) (wNil))))) (wTest (wOp gEq (wOp gIx (wVar 0) (wOp gAdd (wVar 1) (wC (.int 1)))) (wC (.str " "))))) (wAsg (wOp gAdd (wVar 1) (wC (.int 1))) (gtName 1))) (wSeq (wAsg (wSl (wVar 0) (wPart (wOp gAdd (wVar 1) (wC (.int 1)))) (wNo)) (gtName 2)) (wSeq (wAsg (wVar 2) (gtName 3)) (wSeq (wAsg (wVar 2) (gtName 4)) (wSeq (wIf (wTest (wOp gEq (wSl (wVar 0) (wNo) (wPart (wC (.int 1)))) (wC (.str "~")))) (wSeq (wAsg (wM1 gFind (wVar 2) (wC (.str ">"))) (gtName 5)) (wSeq (wAsg (wSl (wVar 2) (wNo) (wPart (wB gMax2 (wArg (wVar 5) (wArg (wC (.int 0)) (wNil)))))) (gtName 3)) (wAsg (wSl (wVar 2) (wPart (wOp gAdd (wVar 5) (wC (.int 1)))) (wNo)) (gtName 4)))) (wNext)) (wRet (wLst (wItm (wTup (wItm (wOp gFdiv (wVar 1) (wC (.int 2))) (wItm (wVar 3) (wNil)))) (wItm (wTup (wItm (wOp gFdiv (wVar 1) (wC (.int 2))) (wItm (wVar 4) (wNil)))) (wNil))))))))))
abbrev n__law_words : Nat := 6
def spec__law_words : SpecT := fun ds _ Q => ∃ x : Str, ds = [.str x] ∧ x.length ≤ 10000 ∧ Q (.lst true [.tup [.int (lwW x).2.1, .str (lwW x).2.2.1], .tup [.int (lwW x).2.1, .str (lwW x).2.2.2]])
theorem len__law_words : ∀ ds px Q, spec__law_words ds px Q → ds.length = 1 := by
  rintro ds px Q ⟨a, rfl, _⟩; rfl
theorem pure__law_words : ∀ ds px Q, spec__law_words ds px Q → ws__law_words (PEnds.top Q) px (start0 n__law_words ds) := by
  rintro ds px Q ⟨x, rfl, hx, q⟩
  show ws__law_words (PEnds.top Q) px [some (.str x), none, none, none, none, none]
  unfold ws__law_words
  walk_at "tm"
  refine ⟨fun m env => ∃ b : Nat, env = [some (.str x), some (.int b), none, none, none, none] ∧ (∀ j < b, (x.cps.toList.drop 1)[j]? = some 32) ∧ b ≤ x.length ∧ m = x.length - b, ⟨_, 0, rfl, fun j hj => by omega, by omega, rfl⟩, ?_⟩
  rintro m env2 ⟨b, rfl, hb, hbl, rfl⟩
  have fin : (x.cps.toList.drop 1)[b]? ≠ some 32 → kB x = b := fun h => tw_len _ b hb h
  have fin2 : x.cps.toList[b + 1]? ≠ some 32 → kB x = b := fun h => fin (by rw [List.getElem?_drop, Nat.add_comm]; exact h)
  walk_at "tm"
  refine ⟨by omega, ?_⟩
  by_cases h1 : (b : Int) + 1 < (x.length : Int)
  · rw [if_pos h1]
    have hlt : b + 1 < x.cps.toList.length := by rw [str_len]; omega
    obtain ⟨c, hc⟩ : ∃ c, x.cps.toList[b + 1]? = some c := ⟨_, List.getElem?_eq_getElem hlt⟩
    have ha : atI x.cps.toList ((b : Int) + 1) = some c := atI_get (j := b + 1) (by omega) hc
    refine ⟨by omega, atC_of ha ?_⟩
    walk_at "tm"
    by_cases h2 : c = 32
    · subst h2
      rw [if_pos (by decide +kernel)]
      refine ⟨_, ?_, b + 1, rfl, fun j hj => ?_, by omega, rfl⟩
      · omega
      · by_cases e : j < b
        · exact hb j e
        · rw [show j = b from by omega, List.getElem?_drop, Nat.add_comm]; exact hc
    · have hk := fin2 (by rw [hc]; simpa using h2)
      rw [if_neg (by
        intro z
        have := congrArg (fun s : Str => s.cps.toList) z
        rw [show (Str.ofString " ").cps.toList = [32] from by decide +kernel] at this
        exact h2 (by simpa using this))]
      have ek : wdB x = cutS x (some ((b : Int) + 1)) none := by unfold wdB; rw [hk]; rfl
      unfold lwW atB at q
      rw [ek, hk] at q
      have wl := (cutS_from_mem (x := x) (n := b + 1)).1
      rw [show ((b + 1 : Nat) : Int) = (b : Int) + 1 from rfl] at wl
      refine ⟨by omega, by omega, ?_⟩
      by_cases c : cutS x none (some 1) = Str.ofString "~"
      · rw [if_pos c]
        rw [if_pos c, if_pos c] at q
        exact ⟨by omega, by omega, q⟩
      · rw [if_neg c]
        rw [if_neg c, if_neg c] at q
        exact q
  · rw [if_neg h1]
    have hk := fin2 (by rw [List.getElem?_eq_none (by rw [str_len]; omega)]; simp)
    have ek : wdB x = cutS x (some ((b : Int) + 1)) none := by unfold wdB; rw [hk]; rfl
    unfold lwW atB at q
    rw [ek, hk] at q
    have wl := (cutS_from_mem (x := x) (n := b + 1)).1
    rw [show ((b + 1 : Nat) : Int) = (b : Int) + 1 from rfl] at wl
    refine ⟨by omega, by omega, ?_⟩
    by_cases c : cutS x none (some 1) = Str.ofString "~"
    · rw [if_pos c]
      rw [if_pos c, if_pos c] at q
      exact ⟨by omega, by omega, q⟩
    · rw [if_neg c]
      rw [if_neg c, if_neg c] at q
      exact q

--@here
def ws__law_elder : WS := wSeq (wFor (its3 (wArg (wOp gMinus (wVar 1) (wC (.int 1))) (wArg (wUn gNeg (wC (.int 1))) (wArg (wUn gNeg (wC (.int 1))) (wNil))))) (gtName 2) (wIf (wTest (wOp gLt (wOp gIx (wOp gIx (wVar 0) (wVar 2)) (wC (.int 0))) (wOp gIx (wOp gIx (wVar 0) (wVar 1)) (wC (.int 0))))) (wRet (wMov 2)) (wNext))) (wRet (wUn gNeg (wC (.int 1))))
abbrev n__law_elder : Nat := 3
def spec__law_elder : SpecT := fun ds _ Q => ∃ (rows : List Row) (n : Nat), ds = [.lst false (rows.map rowD), .int n] ∧ TreeL rows ∧ n < rows.length ∧ 0 < n ∧ rows.length ≤ 10000 ∧ ∀ a, Eld rows n (some a) → Q (.int a)
theorem len__law_elder : ∀ ds px Q, spec__law_elder ds px Q → ds.length = 2 := by
  rintro ds px Q ⟨a, b, rfl, _⟩; rfl
theorem pure__law_elder : ∀ ds px Q, spec__law_elder ds px Q → ws__law_elder (PEnds.top Q) px (start0 3 ds) := by
  rintro ds px Q ⟨rows, n, rfl, t, h, h0, hl, q⟩
  show ws__law_elder (PEnds.top Q) px [some (.lst false (rows.map rowD)), some (.int n), none]
  unfold ws__law_elder
  walk_at "tm"
  refine ⟨⟨.inr rfl, by omega, by omega, by omega, by omega, by omega⟩, fun i env => ∃ x, env = [some (.lst false (rows.map rowD)), some (.int n), x] ∧ ∀ j < n, n ≤ j + i → dp rows n ≤ dp rows j, ⟨_, rfl, fun j h1 h2 => by omega⟩, ?_, ?_⟩
  · rintro i d env2 hd ⟨x, rfl, hs⟩
    obtain ⟨hi, rfl⟩ := rngC_get hd
    rw [turnsC_down] at hi
    have hi' : i < n := by omega
    obtain ⟨w1, e1⟩ := row_at (rows := rows) (n := n - 1 - i) (k := (n : Int) - 1 + (i : Int) * -1) (by omega) (by omega)
    obtain ⟨w2, e2⟩ := row_at (rows := rows) (n := n) rfl h
    walk_at "tm"
    refine atK_of e1 rfl ?_
    walk_at "tm"
    refine atK_of e2 rfl ?_
    walk_at "tm"
    by_cases c : dp rows (n - 1 - i) < dp rows n
    · rw [if_pos c]
      have := q (n - 1 - i) ⟨by omega, c, fun j h1 h2 => hs j h2 (by omega)⟩
      rw [show (n : Int) - 1 + (i : Int) * -1 = ((n - 1 - i : Nat) : Int) from by omega]
      exact this
    · rw [if_neg c]
      refine ⟨_, rfl, fun j h1 h2 => ?_⟩
      by_cases e : j = n - 1 - i
      · rw [e]; omega
      · exact hs j h1 (by omega)
  · rintro env2 ⟨x, rfl, hs⟩
    rw [rngC_len, turnsC_down] at hs
    obtain ⟨a, e⟩ := eld_some t h0 h (o := none) fun j hj => hs j hj (by omega)
    cases e
theorem cutS_sub (x : Str) (a b : Option Int) : (cutS x a b).length ≤ x.length ∧ ∀ c ∈ (cutS x a b).cps.toList, c ∈ x.cps.toList := by
  rw [← str_len, ← str_len]
  unfold cutS
  refine ⟨?_, fun c hc => ?_⟩
  · show (List.take _ (List.drop _ x.cps.toList)).length ≤ _
    rw [List.length_take, List.length_drop]; omega
  · exact List.mem_of_mem_drop (List.mem_of_mem_take (by simpa using hc))
theorem lwW_sub {x : Str} (hx : LtS x) : ((lwW x).2.2.1.length ≤ x.length ∧ LtS (lwW x).2.2.1) ∧ (lwW x).2.2.2.length ≤ x.length ∧ LtS (lwW x).2.2.2 := by
  have w := cutS_sub x (some ((kB x + 1 : Nat) : Int)) none
  have cut : ∀ a b, (cutS (wdB x) a b).length ≤ x.length ∧ LtS (cutS (wdB x) a b) := fun a b => by
    have k := cutS_sub (wdB x) a b
    exact ⟨Nat.le_trans k.1 w.1, fun c hc => hx c (w.2 c (k.2 c hc))⟩
  have wh : (wdB x).length ≤ x.length ∧ LtS (wdB x) := ⟨w.1, fun c hc => hx c (w.2 c hc)⟩
  unfold lwW
  simp only
  split
  · exact ⟨cut _ _, cut _ _⟩
  · exact ⟨wh, wh⟩
theorem RowsP.sign {rs : List Str} {one other : List Row} {M : List (Nat × Nat)} (h : RowsP rs one other M) {x : Str} (hx : x ∈ rs) : cutS x none (some 1) = Str.ofString " " ∨ cutS x none (some 1) = Str.ofString "~" ∨ cutS x none (some 1) = Str.ofString "-" ∨ cutS x none (some 1) = Str.ofString "+" := by
  obtain ⟨t1, t2, h1, h2, g, rfl⟩ := h
  have hp1 : 0 < one.length := by obtain ⟨w, r, e⟩ := t1.first; rw [e]; simp
  have hp2 : 0 < other.length := by obtain ⟨w, r, e⟩ := t2.first; rw [e]; simp
  have e1 : Str.ofString " " = ⟨#[32]⟩ := by decide +kernel
  have e2 : Str.ofString "~" = ⟨#[126]⟩ := by decide +kernel
  have e3 : Str.ofString "-" = ⟨#[45]⟩ := by decide +kernel
  have e4 : Str.ofString "+" = ⟨#[43]⟩ := by decide +kernel
  rcases chunks_cases M (fun p hp => by
    obtain ⟨k, hk, e⟩ := List.getElem_of_mem hp
    exact g.rng hp1 hp2 (k := k) (by rw [List.getElem?_eq_getElem hk, e])) x hx with ⟨a, ha, b, hb, rfl⟩ | ⟨r, hr, rfl⟩ | ⟨r, hr, rfl⟩
  · unfold pairT
    split
    · left
      show cutS (rowT (Str.ofString " ") (a.1, a.2)) none (some 1) = _
      rw [e1]; exact rowT_cut.1
    · right; left
      show cutS (rowT (Str.ofString "~") _) none (some 1) = _
      rw [e2]; exact rowT_cut.1
  · right; right; left
    show cutS (rowT (Str.ofString "-") (r.1, r.2)) none (some 1) = _
    rw [e3]; exact rowT_cut.1
  · right; right; right
    show cutS (rowT (Str.ofString "+") (r.1, r.2)) none (some 1) = _
    rw [e4]; exact rowT_cut.1
--@here
def ws__law_due : WS := wSeq (wAsg (wLst (wNil)) (gtName 1)) (wSeq (wAsg (wLst (wNil)) (gtName 2)) (wSeq (wAsg (wLst (wNil)) (gtName 3)) (wSeq (wFor (itsL (wVar 0)) (gtName 4) (wSeq (wIf (wTest (wOp gNotIn (wSl (wVar 4) (wNo) (wPart (wC (.int 1)))) (wTup (wItm (wC (.str " ")) (wItm (wC (.str "~")) (wItm (wC (.str "-")) (wItm (wC (.str "+")) (wNil)))))))) (wRet (wC .non)) (wNext)) (wSeq (wIf (wTest (wOp gIn (wSl (wVar 4) (wNo) (wPart (wC (.int 1)))) (wTup (wItm (wC (.str " ")) (wItm (wC (.str "~")) (wNil)))))) (wApp 3 (wTup (wItm (wB gLen (wArg (wVar 1) (wNil))) (wItm (wB gLen (wArg (wVar 2) (wNil))) (wNil))))) (wNext)) (wSeq (wIf (wTest (wOp gNe (wSl (wVar 4) (wNo) (wPart (wC (.int 1)))) (wC (.str "+")))) (wApp 1 (wOp gIx (wCall0 spec__law_words [] (wArg (wVar 4) (wNil))) (wC (.int 0)))) (wNext)) (wIf (wTest (wOp gNe (wSl (wVar 4) (wNo) (wPart (wC (.int 1)))) (wC (.str "-")))) (wApp 2 (wOp gIx (wCall0 spec__law_words [] (wArg (wVar 4) (wNil))) (wC (.int 1)))) (wNext)))))) (wSeq (wIf (wOr (wNot (wTest (wCall0 spec__law_is_tree [] (wArg (wVar 1) (wNil))))) (wOr (wNot (wTest (wCall0 spec__law_is_tree [] (wArg (wVar 2) (wNil))))) (wTest (wOp gNe (wSl (wVar 3) (wNo) (wPart (wC (.int 1)))) (wLst (wItm (wTup (wItm (wC (.int 0)) (wItm (wC (.int 0)) (wNil)))) (wNil))))))) (wRet (wC .non)) (wNext)) (wSeq (wFor (its2 (wArg (wC (.int 1)) (wArg (wB gLen (wArg (wVar 3) (wNil))) (wNil)))) (gtName 5) (wSeq (wAsg (wOp gIx (wVar 3) (wVar 5)) (gtTup 2 (gtCons (gtName 6) (gtCons (gtName 7) (fun ds env Q => ds = [] ∧ Q env))))) (wIf (wTest (wOp gNotInD (wTup (wItm (wCall0 spec__law_elder [] (wArg (wVar 1) (wArg (wVar 6) (wNil)))) (wItm (wCall0 spec__law_elder [] (wArg (wVar 2) (wArg (wVar 7) (wNil)))) (wNil)))) (wSl (wVar 3) (wNo) (wPart (wVar 5))))) (wRet (wC .non)) (wNext)))) (wSeq (wIf (wTest (wOp gNe (wCall0 spec__law_laid [] (wArg (wVar 1) (wArg (wVar 2) (wArg (wVar 3) (wNil))))) (wVar 0))) (wRet (wC .non)) (wNext)) (wRet (wTup (wItm (wMov 1) (wItm (wMov 2) (wItm (wMov 3) (wNil))))))))))))
abbrev n__law_due : Nat := 8
def spec__law_due : SpecT := fun ds _ Q => ∃ rs : List Str, ds = [.lst false (rs.map D.str)] ∧ RowsL 5000 120 rs ∧ (∀ one other M, RowsP rs one other M → Q (.tup [.lst true (one.map rowD), .lst true (other.map rowD), .lst true (M.map pairD)])) ∧ ((∀ one other M, ¬ RowsP rs one other M) → Q .non)
theorem len__law_due : ∀ ds px Q, spec__law_due ds px Q → ds.length = 1 := by
  rintro ds px Q ⟨a, rfl, _⟩; rfl
theorem pure__law_due : ∀ ds px Q, spec__law_due ds px Q → ws__law_due (PEnds.top Q) px (start0 n__law_due ds) := by
  rintro ds px Q ⟨C, rfl, hR, q, no⟩
  show ws__law_due (PEnds.top Q) px [some (.lst false (C.map D.str)), none, none, none, none, none, none, none]
  unfold ws__law_due
  have hCl := hR.1
  walk_at "tm"
  refine ⟨dirtys_mapI (f := D.str) (fun _ => rfl) C, fun i env => ∃ (st : RdS) (x4 : Option D), env = [some (.lst false (C.map D.str)), some (.lst true (st.1.map rowD)), some (.lst true (st.2.1.map rowD)), some (.lst true (st.2.2.map pairD)), x4, none, none, none] ∧ st = (C.take i).foldl (rdStep lwW) ([], [], []), ⟨([], [], []), _, rfl, rfl⟩, ?_, ?_⟩
  · rintro i d env2 hd ⟨st, x4, rfl, hst⟩
    obtain ⟨x, hx, rfl⟩ := map_get hd
    have hi := (List.getElem?_eq_some_iff.mp hx).1
    have hxl := (hR.2 x (List.mem_of_getElem? hx)).1
    have hlen := rd_len lwW (C.take i) ([], [], [])
    rw [← hst, List.length_take] at hlen
    have enext : (C.take (i + 1)).foldl (rdStep lwW) ([], [], []) = rdStep lwW st x := by
      rw [List.take_succ, hx, List.foldl_append, ← hst]; rfl
    walk_at "tm"
    have eF : ∀ a b : Str, eqF (D.str a) (D.str b) = decide (b = a) := fun a b => by
      show (a == b) = _
      by_cases c : b = a
      · subst c; simp
      · have c2 : ¬ a = b := fun z => c z.symm
        simp [c, c2]
    have e2 : inF (D.str (cutS x none (some 1))) [D.str (Str.ofString " "), D.str (Str.ofString "~")] = decide (cutS x none (some 1) = Str.ofString " " ∨ cutS x none (some 1) = Str.ofString "~") := by simp [inF, eF]
    have e4 : inF (D.str (cutS x none (some 1))) [D.str (Str.ofString " "), D.str (Str.ofString "~"), D.str (Str.ofString "-"), D.str (Str.ofString "+")] = decide (cutS x none (some 1) = Str.ofString " " ∨ cutS x none (some 1) = Str.ofString "~" ∨ cutS x none (some 1) = Str.ofString "-" ∨ cutS x none (some 1) = Str.ofString "+") := by simp [inF, eF]
    have eS : (lwW x).1 = cutS x none (some 1) := rfl
    have eP : ∀ (xs : List Row) (d : Int) (w : Str), xs.map rowD ++ [D.tup [.int d, .str w]] = (xs ++ [(d, w)]).map rowD := fun xs d w => by simp [rowD]
    have eQ : ∀ (xs : List (Nat × Nat)) (a b : Nat), xs.map pairD ++ [D.tup [.int a, .int b]] = (xs ++ [(a, b)]).map pairD := fun xs a b => by simp [pairD]
    unfold rdStep at enext
    simp only [eS] at enext
    simp only [List.length_nil] at hlen
    rw [e2, e4]
    refine ⟨by omega, rfl, rfl, ?_⟩
    by_cases c4 : cutS x none (some 1) = Str.ofString " " ∨ cutS x none (some 1) = Str.ofString "~" ∨ cutS x none (some 1) = Str.ofString "-" ∨ cutS x none (some 1) = Str.ofString "+"
    rotate_left
    · rw [if_pos (decide_eq_false c4)]
      exact no fun o1 o2 M' hP => c4 (hP.sign (List.mem_of_getElem? hx))
    rw [if_neg (by rw [decide_eq_true c4]; simp)]
    refine ⟨by omega, rfl, rfl, ?_⟩
    by_cases c3 : cutS x none (some 1) = Str.ofString " " ∨ cutS x none (some 1) = Str.ofString "~"
    · rw [if_pos (decide_eq_true c3)]
      rw [if_pos c3] at enext
      refine ⟨by omega, by omega, ?_⟩
      by_cases c1 : cutS x none (some 1) = Str.ofString "+"
      · rw [if_neg (by rw [decide_eq_true c1]; simp)]
        rw [if_pos c1] at enext
        refine ⟨by omega, ?_⟩
        by_cases c2 : cutS x none (some 1) = Str.ofString "-"
        · rw [if_neg (by rw [decide_eq_true c2]; simp)]
          rw [if_pos c2] at enext
          try simp only [eP, eQ]
          exact ⟨(_, _, _), _, rfl, enext.symm⟩
        · rw [if_pos (decide_eq_false c2)]
          rw [if_neg c2] at enext
          refine ⟨x, rfl, by omega, ?_⟩
          walk_at "tm"
          refine ⟨by omega, ?_⟩
          try simp only [eP, eQ]
          exact ⟨(_, _, _), _, rfl, enext.symm⟩
      · rw [if_pos (decide_eq_false c1)]
        rw [if_neg c1] at enext
        refine ⟨x, rfl, by omega, ?_⟩
        walk_at "tm"
        refine ⟨by omega, ?_⟩
        refine ⟨by omega, ?_⟩
        by_cases c2 : cutS x none (some 1) = Str.ofString "-"
        · rw [if_neg (by rw [decide_eq_true c2]; simp)]
          rw [if_pos c2] at enext
          try simp only [eP, eQ]
          exact ⟨(_, _, _), _, rfl, enext.symm⟩
        · rw [if_pos (decide_eq_false c2)]
          rw [if_neg c2] at enext
          refine ⟨x, rfl, by omega, ?_⟩
          walk_at "tm"
          refine ⟨by omega, ?_⟩
          try simp only [eP, eQ]
          exact ⟨(_, _, _), _, rfl, enext.symm⟩
    · rw [if_neg (by rw [decide_eq_false c3]; simp)]
      rw [if_neg c3] at enext
      refine ⟨by omega, ?_⟩
      by_cases c1 : cutS x none (some 1) = Str.ofString "+"
      · rw [if_neg (by rw [decide_eq_true c1]; simp)]
        rw [if_pos c1] at enext
        refine ⟨by omega, ?_⟩
        by_cases c2 : cutS x none (some 1) = Str.ofString "-"
        · rw [if_neg (by rw [decide_eq_true c2]; simp)]
          rw [if_pos c2] at enext
          try simp only [eP, eQ]
          exact ⟨(_, _, _), _, rfl, enext.symm⟩
        · rw [if_pos (decide_eq_false c2)]
          rw [if_neg c2] at enext
          refine ⟨x, rfl, by omega, ?_⟩
          walk_at "tm"
          refine ⟨by omega, ?_⟩
          try simp only [eP, eQ]
          exact ⟨(_, _, _), _, rfl, enext.symm⟩
      · rw [if_pos (decide_eq_false c1)]
        rw [if_neg c1] at enext
        refine ⟨x, rfl, by omega, ?_⟩
        walk_at "tm"
        refine ⟨by omega, ?_⟩
        refine ⟨by omega, ?_⟩
        by_cases c2 : cutS x none (some 1) = Str.ofString "-"
        · rw [if_neg (by rw [decide_eq_true c2]; simp)]
          rw [if_pos c2] at enext
          try simp only [eP, eQ]
          exact ⟨(_, _, _), _, rfl, enext.symm⟩
        · rw [if_pos (decide_eq_false c2)]
          rw [if_neg c2] at enext
          refine ⟨x, rfl, by omega, ?_⟩
          walk_at "tm"
          refine ⟨by omega, ?_⟩
          try simp only [eP, eQ]
          exact ⟨(_, _, _), _, rfl, enext.symm⟩
  · rintro env2 ⟨st, x4, rfl, hst⟩
    rw [List.length_map, List.take_length] at hst
    have hst : st = rdAll lwW C := hst
    have ri : Rise st := by rw [hst]; exact Rise.all C Rise.nil
    have ok := rd_ok (f := lwW) (L := 120) C (st := ([], [], [])) (fun x hx => by
      have := lwW_sub (hR.2 x hx).2
      have l := (hR.2 x hx).1
      exact ⟨⟨by omega, this.1.2⟩, by omega, this.2.2⟩) (fun r h => by simp at h) (fun r h => by simp at h)
    have ln := rd_len lwW C ([], [], [])
    have ok : (∀ r ∈ st.1, r.2.length ≤ 120 ∧ LtS r.2) ∧ ∀ r ∈ st.2.1, r.2.length ≤ 120 ∧ LtS r.2 := by rw [hst]; exact ok
    have ln : st.1.length ≤ 0 + C.length ∧ st.2.1.length ≤ 0 + C.length ∧ st.2.2.length ≤ 0 + C.length := by rw [hst]; exact ln
    obtain ⟨one, other, M⟩ := st
    simp only at ri ok ln
    have hMl := ri.len
    simp only at hMl
    have bad : ¬ (TreeP one ∧ TreeP other ∧ GoodP one other (M.map toI) ∧ chunks one other M = C) → Q .non := fun h => no fun o1 o2 M' hP => h (by
      have e := hP.rd PF.lw
      rw [← hst] at e
      cases e
      obtain ⟨t1, t2, h1, h2, g, e⟩ := hP
      exact ⟨t1.p h1, t2.p h2, g, e⟩)
    have ro1 : RowsOk one := ⟨by omega, fun r h => ⟨by have := (ok.1 r h).1; omega, (ok.1 r h).2.ok⟩⟩
    have ro2 : RowsOk other := ⟨by omega, fun r h => ⟨by have := (ok.2 r h).1; omega, (ok.2 r h).2.ok⟩⟩
    walk_at "tm"
    simp only [rowsD_fz, pairsD_fz]
    refine ⟨one, rfl, ro1, fun c hc => ?_⟩
    cases c with
    | false =>
      walk_at "tm"
      exact bad (fun h => by cases hc.mpr h.1)
    | true =>
    have p1 := hc.mp rfl
    walk_at "tm"
    refine ⟨other, rfl, ro2, fun c hc => ?_⟩
    cases c with
    | false =>
      walk_at "tm"
      exact bad (fun h => by cases hc.mpr h.2.1)
    | true =>
    have p2 := hc.mp rfl
    have t1 := p1.l
    have t2 := p2.l
    have b1 := RowsB.of t1 p1.most
    have b2 := RowsB.of t2 p2.most
    have hMr : ∀ p ∈ M, p.1 < one.length ∧ p.2 < other.length := ri.rng
    have l200 := p1.most
    walk_at "tm"
    have ec : Tm.cutD (M.map pairD) none (some 1) = (M.take 1).map pairD := by rw [List.map_take]; exact cutD_to (n := 1)
    have e0 : [D.tup [.int 0, .int 0]] = [((0, 0) : Nat × Nat)].map pairD := rfl
    rw [ec, e0, pairsD_eq]
    refine ⟨pairsD_dirty _, pairsD_fit, pairsD_fit, ?_⟩
    by_cases z : M.take 1 = [(0, 0)]
    rotate_left
    · rw [if_pos (decide_eq_false z)]
      exact bad (fun h => z (by
        have := h.2.2.1.zero
        cases M with
        | nil => cases this
        | cons a r => cases this; rfl))
    rw [if_neg (by rw [decide_eq_true z]; simp)]
    have z0 : M[0]? = some (0, 0) := by
      cases M with
      | nil => simp at z
      | cons a r => simp at z; rw [z]; rfl
    have up : ∀ (i j : Nat) p q, i < j → M[i]? = some p → M[j]? = some q → p.1 < q.1 ∧ p.2 < q.2 := fun i j p q hij hi hj => by
      obtain ⟨hi', rfl⟩ := List.getElem?_eq_some_iff.mp hi
      obtain ⟨hj', rfl⟩ := List.getElem?_eq_some_iff.mp hj
      exact List.pairwise_iff_getElem.mp ri.up i j hi' hj' hij
    refine ⟨⟨by omega, by omega⟩, fun i env => ∃ (x5 x6 x7 : Option D), env = [some (.lst false (C.map D.str)), some (.lst true (one.map rowD)), some (.lst true (other.map rowD)), some (.lst true (M.map pairD)), x4, x5, x6, x7] ∧ ∀ k, 0 < k → k < 1 + i → ∀ p, M[k]? = some p → ∃ a b, Eld one p.1 (some a) ∧ Eld other p.2 (some b) ∧ (a, b) ∈ M.take k, ⟨_, _, _, rfl, fun k h0 h1 => by omega⟩, ?_, ?_⟩
    · rintro i d env2 hd ⟨x5, x6, x7, rfl, hk⟩
      obtain ⟨hi, rfl⟩ := rngD_get hd
      obtain ⟨p, hp⟩ : ∃ p, M[1 + i]? = some p := ⟨_, List.getElem?_eq_getElem (by omega)⟩
      have r1 := up 0 (1 + i) _ _ (by omega) z0 hp
      have r2 := hMr p (List.mem_of_getElem? hp)
      simp only at r1
      walk_at "tm"
      refine atK_of (d := .tup [.int p.1, .int p.2]) (map_at (f := pairD) (by omega) hp) rfl ?_
      walk_at "tm"
      try simp only [rowsD_fz]
      refine ⟨one, p.1, rfl, t1, r2.1, r1.1, by omega, fun a ha => ?_⟩
      walk_at "tm"
      try simp only [rowsD_fz]
      refine ⟨other, p.2, rfl, t2, r2.2, r1.2, by have := p2.most; omega, fun b hb => ?_⟩
      walk_at "tm"
      have ec : Tm.cutD (M.map pairD) none (some (1 + (i : Int))) = ((M.take (1 + i)).map toI).map pD := by
        rw [← toI_map, show (1 + (i : Int)) = ((1 + i : Nat) : Int) from by omega, List.map_take]; exact cutD_to (n := 1 + i)
      rw [ec]
      have an := psD_any (q := ((a : Int), (b : Int))) (ps := (M.take (1 + i)).map toI)
      simp only at an
      rw [an]
      have em : ((a : Int), (b : Int)) ∈ (M.take (1 + i)).map toI ↔ (a, b) ∈ M.take (1 + i) := by
        constructor
        · intro h
          obtain ⟨r, hr, er⟩ := List.mem_map.mp h
          rw [toI_inj (b := (a, b)) er] at hr; exact hr
        · intro h
          exact List.mem_map.mpr ⟨(a, b), h, rfl⟩
      refine ⟨pairsD_dirty _, pD_fit (p := ((a : Int), (b : Int))), psD_fit, ?_⟩
      by_cases c : (a, b) ∈ M.take (1 + i)
      · rw [if_neg (by rw [decide_eq_true (em.mpr c)]; simp)]
        refine ⟨_, _, _, rfl, fun k h0 h1 p' hp' => ?_⟩
        by_cases e : k < 1 + i
        · exact hk k h0 e p' hp'
        · rw [show k = 1 + i from by omega, hp] at hp'; cases hp'
          rw [show k = 1 + i from by omega]
          exact ⟨a, b, ha, hb, c⟩
      · rw [if_pos (decide_eq_false fun z => c (em.mp z))]
        refine bad fun h => c ?_
        obtain ⟨l, a', b', _, _, _, _, _, h5, h6, j, hj, ej⟩ := h.2.2.1.step (k := 1 + i) (by omega) hp
        have e1 := ha.uniq h5
        have e2 := hb.uniq h6
        simp only [Option.some.injEq] at e1 e2
        subst e1
        subst e2
        refine List.mem_of_getElem? (i := j) ?_
        rw [List.getElem?_take, if_pos hj]; exact ej
    · rintro env2 ⟨x5, x6, x7, rfl, hk⟩
      rw [rngD_len] at hk
      have g : GoodP one other (M.map toI) := by
        refine ⟨by rw [List.getElem?_map, z0]; rfl, fun k h0 h1 => ?_⟩
        rw [List.length_map] at h1
        obtain ⟨p, hp⟩ : ∃ p, M[k]? = some p := ⟨_, List.getElem?_eq_getElem h1⟩
        obtain ⟨l, hl⟩ : ∃ p, M[k - 1]? = some p := ⟨_, List.getElem?_eq_getElem (by omega)⟩
        obtain ⟨a, b, h3, h4, h5⟩ := hk k h0 (by omega) p hp
        have r1 := up (k - 1) k _ _ (by omega) hl hp
        have r2 := hMr p (List.mem_of_getElem? hp)
        refine ⟨toI p, toI l, a, b, by rw [List.getElem?_map, hp]; rfl, by rw [List.getElem?_map, hl]; rfl, by simp only [toI]; omega, by simp only [toI]; omega, by simp only [toI]; omega, by simp only [toI]; omega, h3, h4, ?_⟩
        rw [← List.map_take]
        exact List.mem_map.mpr ⟨(a, b), h5, rfl⟩
      have sc : ∀ xs : List Str, selfcs (xs.map D.str) = true := fun xs => selfcs_mapI (f := D.str) (fun _ => rfl) xs
      walk_at "tm"
      simp only [rowsD_fz, pairsD_fz]
      refine ⟨one, other, M, rfl, b1, b2, by omega, hMr, ?_⟩
      walk_at "tm"
      refine ⟨sc _, strs_fit (chunks_ok b1 b2 M hMr), strs_fit fun x hx => (hR.2 x hx).2.ok, ?_⟩
      rw [strs_eqd]
      by_cases ce : chunks one other M = C
      · rw [if_neg (by rw [decide_eq_true ce]; simp)]
        exact q one other M ⟨t1, t2, p1.most, p2.most, g, ce⟩
      · rw [if_pos (decide_eq_false ce)]
        exact bad (fun h => ce h.2.2.2)
--@here
def ws__law_refused : WS := wSeq (wAsg (wLst (wNil)) (gtName 1)) (wSeq (wTry exNames (fun n => exSub n "NoRows") 2 (wDrop (wCall spec_read_laid [] (wArg (wVar 0) (wNil)))) (fun a n => wSeq (wAsg (wIsE 2 a (exSub n "NoText" || (exSub n "NoNode" || (exSub n "NoPlace" || (exSub n "TooMany" || (exSub n "NoTree" || (exSub n "NoMark" || (exSub n "Twice" || (exSub n "NoFit" || (exSub n "Touch" || (exSub n "Lacks" || (exSub n "NoName" || false)))))))))))) (gtName 3)) (wSeq (wAsg (wOrV (wVar 3) (wIsE 2 a (exSub n "NoProgram" || (exSub n "NoMake" || false)))) (gtName 3)) (wAsg (wLst (wItm (wIsE 2 a (exSub n "MendError")) (wItm (wIsE 2 a (exSub n "ValueError")) (wItm (wVar 3) (wNil))))) (gtName 1))))) (wRet (wOp gEq (wVar 1) (wLst (wItm (wC (.bl true)) (wItm (wC (.bl true)) (wItm (wC (.bl false)) (wNil))))))))
abbrev n__law_refused : Nat := 4
def spec__law_refused : SpecT := fun ds _ Q => ∃ rs : List Str, ds = [.lst false (rs.map D.str)] ∧ RowsL 5000 120 rs ∧ (∀ one other M, ¬ RowsP rs one other M) ∧ Q (.bl true)
theorem len__law_refused : ∀ ds px Q, spec__law_refused ds px Q → ds.length = 1 := by
  rintro ds px Q ⟨a, rfl, _⟩; rfl
theorem pure__law_refused : ∀ ds px Q, spec__law_refused ds px Q → ws__law_refused (PEnds.top Q) px0 (start0 n__law_refused ds) := by
  rintro ds px Q ⟨rs, rfl, R, no, q⟩
  show ws__law_refused (PEnds.top Q) px0 [some (.lst false (rs.map D.str)), none, none, none]
  unfold ws__law_refused
  have sz : ∀ xs : List Str, fzs (xs.map D.str) = xs.map D.str := fun xs => fzs_mapI (f := D.str) (fun _ => rfl) xs
  walk_at "tm"
  rw [sz]
  refine ⟨rs, rfl, R, fun o1 o2 M h => absurd h (no o1 o2 M), fun _ env => ?_⟩
  refine ⟨by decide +kernel, ?_⟩
  rw [if_pos (by decide +kernel)]
  intro a
  rw [if_neg (by decide +kernel)]
  have e1 : exSub "NoRows" (Str.ofString "MendError") = true := by decide +kernel
  have e2 : exSub "NoRows" (Str.ofString "ValueError") = true := by decide +kernel
  have e3 : (exSub "NoRows" (Str.ofString "NoProgram") || exSub "NoRows" (Str.ofString "NoMake")) = false := by decide +kernel
  rw [e1, e2, e3]
  exact ⟨rfl, rfl, q⟩
def ws_law : WS := wSeq (wAsg (wCall0 spec__law_rows [] (wArg (wVar 0) (wNil))) (gtName 1)) (wSeq (wAsg (wCall0 spec__law_due [] (wArg (wFrz 1) (wNil))) (gtName 2)) (wSeq (wAsg (wB gList (wArg (wFrz 1) (wNil))) (gtName 3)) (wSeq (wIf (wTest (wOp gIs (wVar 2) (wC .non))) (wRet (wAndV (wCall0 spec__law_refused [] (wArg (wFrz 3) (wNil))) (wAndV (wCall0 spec__law_refused [] (wArg (wFrz 3) (wNil))) (wOp gEq (wVar 3) (wVar 1))))) (wNext)) (wRet (wAndV (wOp gEq (wCall0 spec_read_laid [] (wArg (wFrz 3) (wNil))) (wVar 2)) (wAndV (wOp gEq (wCall0 spec_read_laid [] (wArg (wFrz 3) (wNil))) (wVar 2)) (wOp gEq (wVar 3) (wVar 1))))))))
abbrev n_law : Nat := 4
def spec_law : SpecT := specLaw
theorem len_law : ∀ ds px Q, spec_law ds px Q → ds.length = 1 := len_specLaw
theorem pure_law : ∀ ds px Q, spec_law ds px Q → ws_law (PEnds.top Q) px (start0 n_law ds) := by
  rintro ds px Q ⟨ns, rfl, hl, hb, q⟩
  show ws_law (PEnds.top Q) px [some (.seq (ns.map D.int)), none, none, none]
  unfold ws_law
  walk_at "tm"
  have sz : ∀ xs : List Str, fzs (xs.map D.str) = xs.map D.str := fun xs => fzs_mapI (f := D.str) (fun _ => rfl) xs
  have sd : ∀ xs : List Str, dirtys (xs.map D.str) = false := fun xs => dirtys_mapI (f := D.str) (fun _ => rfl) xs
  refine ⟨ns, rfl, hl, fun o rs R => ?_⟩
  walk_at "tm"
  simp only [sz]
  have sf : ∀ o, shD (.lst o (rs.map D.str)) = true := fun o => strs_fit fun x hx => (R.2 x hx).2.ok
  by_cases hP : ∃ one other M, RowsP rs one other M
  · obtain ⟨one, other, M, hP⟩ := hP
    have un : ∀ o1 o2 M', RowsP rs o1 o2 M' → o1 = one ∧ o2 = other ∧ M' = M := fun o1 o2 M' h => by
      have e1 := hP.rd PF.rd
      have e2 := h.rd PF.rd
      rw [e1] at e2
      cases e2
      exact ⟨rfl, rfl, rfl⟩
    have ok1 : ∀ r ∈ one, PyData.strOk r.2 = true := fun r h => (hP.1.rng r h).1.1.strOk
    have ok2 : ∀ r ∈ other, PyData.strOk r.2 = true := fun r h => (hP.2.1.rng r h).1.1.strOk
    have okrs : ∀ (rows : List Row), (∀ r ∈ rows, PyData.strOk r.2 = true) → okds (rows.map rowD) 10 = true := fun rows h => okds_mapI _ fun r hr => by
      rw [rowD_eq]
      simp [okd, okds, h r hr]
    have okps : okds (M.map pairD) 10 = true := okds_mapI _ fun p _ => rfl
    have hok : ∀ o, shD (.tup [D.lst o (one.map rowD), .lst o (other.map rowD), .lst o (M.map pairD)]) = true := fun o => shD_of 12 (by simp [okd, okds, okrs one ok1, okrs other ok2, okps]) (by decide)
    have hn : ∀ o, noB (.tup [D.lst o (one.map rowD), .lst o (other.map rowD), .lst o (M.map pairD)]) = true := fun o => by
      simp only [noB, noBs, rowsD_noB, noBs_mapI (f := pairD) (fun _ => rfl) M, Bool.and_self]
    refine ⟨rs, rfl, R, fun o1 o2 M' h => ?_, fun h => absurd hP (h one other M)⟩
    obtain ⟨rfl, rfl, rfl⟩ := un o1 o2 M' h
    walk_at "tm"
    try simp only [sz]
    refine ⟨sd _, rs, rfl, R, fun o1 o2 M' h => ?_, fun h => absurd hP (h _ _ _)⟩
    obtain ⟨rfl, rfl, rfl⟩ := un o1 o2 M' h
    walk_at "tm"
    refine ⟨hok true, hok true, ?_⟩
    rw [eqD_true (hn true) (hn true) rfl]
    walk_at "tm"
    refine ⟨rs, rfl, R, fun o1 o2 M' h => ?_, fun h => absurd hP (h _ _ _)⟩
    obtain ⟨rfl, rfl, rfl⟩ := un o1 o2 M' h
    walk_at "tm"
    refine ⟨hok true, hok true, ?_⟩
    rw [eqD_true (hn true) (hn true) rfl]
    walk_at "tm"
    refine ⟨sf _, sf _, ?_⟩
    rw [strs_eq]
    exact q
  · refine ⟨rs, rfl, R, fun o1 o2 M' h => absurd ⟨_, _, _, h⟩ hP, fun h => ?_⟩
    walk_at "tm"
    refine ⟨sd _, rs, rfl, R, h, ?_⟩
    walk_at "tm"
    refine ⟨rs, rfl, R, h, ?_⟩
    walk_at "tm"
    refine ⟨sf _, sf _, ?_⟩
    rw [strs_eq]
    exact q


/-! ### the text -/
def topS (i : Nat) : Stmt := PySem.Challenge.pw_treemend_k24_rows_read_or_refused.main.body.getD i (.Pass ⟨0, 0, 0, 0⟩)
abbrev s_elder_list : Stmt := topS 17
abbrev N_elder_list : List Str := ["tree", "elders", "path", "node", "row"]
abbrev P_elder_list : List Str := ["tree"]
theorem sc_elder_list : FnScope N_elder_list P_elder_list (defScope s_elder_list) := ⟨rfl, rfl, rfl, by decide +kernel, rfl, by decide +kernel, by decide +kernel⟩
abbrev s_is_pairing : Stmt := topS 18
abbrev N_is_pairing : List Str := ["one", "other", "pairs", "ones", "others", "known", "last", "u", "v"]
abbrev P_is_pairing : List Str := ["one", "other", "pairs"]
theorem sc_is_pairing : FnScope N_is_pairing P_is_pairing (defScope s_is_pairing) := ⟨rfl, rfl, rfl, by decide +kernel, rfl, by decide +kernel, by decide +kernel⟩
abbrev s_is_word : Stmt := topS 23
abbrev N_is_word : List Str := ["text", "sign"]
abbrev P_is_word : List Str := ["text"]
theorem sc_is_word : FnScope N_is_word P_is_word (defScope s_is_word) := ⟨rfl, rfl, rfl, by decide +kernel, rfl, by decide +kernel, by decide +kernel⟩
abbrev s_is_tree : Stmt := topS 24
abbrev N_is_tree : List Str := ["rows", "last", "node", "row", "deep", "word"]
abbrev P_is_tree : List Str := ["rows"]
theorem sc_is_tree : FnScope N_is_tree P_is_tree (defScope s_is_tree) := ⟨rfl, rfl, rfl, by decide +kernel, rfl, by decide +kernel, by decide +kernel⟩
abbrev s_row_by : Stmt := topS 26
abbrev N_row_by : List Str := ["sign", "deep", "word"]
abbrev P_row_by : List Str := ["sign", "deep", "word"]
theorem sc_row_by : FnScope N_row_by P_row_by (defScope s_row_by) := ⟨rfl, rfl, rfl, by decide +kernel, rfl, by decide +kernel, by decide +kernel⟩
abbrev s_pair_row : Stmt := topS 27
abbrev N_pair_row : List Str := ["old", "new"]
abbrev P_pair_row : List Str := ["old", "new"]
theorem sc_pair_row : FnScope N_pair_row P_pair_row (defScope s_pair_row) := ⟨rfl, rfl, rfl, by decide +kernel, rfl, by decide +kernel, by decide +kernel⟩
abbrev s_laid_out : Stmt := topS 28
abbrev N_laid_out : List Str := ["one", "other", "pairs", "rows", "stops", "pair", "stop", "u", "v", "deep", "word"]
abbrev P_laid_out : List Str := ["one", "other", "pairs"]
theorem sc_laid_out : FnScope N_laid_out P_laid_out (defScope s_laid_out) := ⟨rfl, rfl, rfl, by decide +kernel, rfl, by decide +kernel, by decide +kernel⟩
abbrev s_deep_of : Stmt := topS 29
abbrev N_deep_of : List Str := ["text"]
abbrev P_deep_of : List Str := ["text"]
theorem sc_deep_of : FnScope N_deep_of P_deep_of (defScope s_deep_of) := ⟨rfl, rfl, rfl, by decide +kernel, rfl, by decide +kernel, by decide +kernel⟩
abbrev s_words_of : Stmt := topS 30
abbrev N_words_of : List Str := ["row", "text", "old", "cut", "new"]
abbrev P_words_of : List Str := ["row"]
theorem sc_words_of : FnScope N_words_of P_words_of (defScope s_words_of) := ⟨rfl, rfl, rfl, by decide +kernel, rfl, by decide +kernel, by decide +kernel⟩
abbrev s_read_laid : Stmt := topS 31
abbrev N_read_laid : List Str := ["rows", "one", "other", "pairs", "row", "sign", "deep", "old", "new"]
abbrev P_read_laid : List Str := ["rows"]
theorem sc_read_laid : FnScope N_read_laid P_read_laid (defScope s_read_laid) := ⟨rfl, rfl, rfl, by decide +kernel, rfl, by decide +kernel, by decide +kernel⟩
abbrev s__law_cell_at : Stmt := topS 33
abbrev N__law_cell_at : List Str := ["script", "k"]
abbrev P__law_cell_at : List Str := ["script", "k"]
theorem sc__law_cell_at : FnScope N__law_cell_at P__law_cell_at (defScope s__law_cell_at) := ⟨rfl, rfl, rfl, by decide +kernel, rfl, by decide +kernel, by decide +kernel⟩
abbrev s__law_word : Stmt := topS 34
abbrev N__law_word : List Str := ["number", "signs", "word", "rest", "k"]
abbrev P__law_word : List Str := ["number"]
theorem sc__law_word : FnScope N__law_word P__law_word (defScope s__law_word) := ⟨rfl, rfl, rfl, by decide +kernel, rfl, by decide +kernel, by decide +kernel⟩
abbrev s__law_tree : Stmt := topS 35
abbrev N__law_tree : List Str := ["cells", "most", "tree", "k", "number", "word"]
abbrev P__law_tree : List Str := ["cells", "most"]
theorem sc__law_tree : FnScope N__law_tree P__law_tree (defScope s__law_tree) := ⟨rfl, rfl, rfl, by decide +kernel, rfl, by decide +kernel, by decide +kernel⟩
abbrev s__law_end : Stmt := topS 36
abbrev N__law_end : List Str := ["tree", "node", "stop"]
abbrev P__law_end : List Str := ["tree", "node"]
theorem sc__law_end : FnScope N__law_end P__law_end (defScope s__law_end) := ⟨rfl, rfl, rfl, by decide +kernel, rfl, by decide +kernel, by decide +kernel⟩
abbrev s__law_changed : Stmt := topS 37
abbrev N__law_changed : List Str := ["tree", "cells", "most", "cell", "number", "at", "deep", "row"]
abbrev P__law_changed : List Str := ["tree", "cells", "most"]
theorem sc__law_changed : FnScope N__law_changed P__law_changed (defScope s__law_changed) := ⟨rfl, rfl, rfl, by decide +kernel, rfl, by decide +kernel, by decide +kernel⟩
abbrev s__law_young : Stmt := topS 38
abbrev N__law_young : List Str := ["tree", "node", "deep", "there"]
abbrev P__law_young : List Str := ["tree", "node"]
theorem sc__law_young : FnScope N__law_young P__law_young (defScope s__law_young) := ⟨rfl, rfl, rfl, by decide +kernel, rfl, by decide +kernel, by decide +kernel⟩
abbrev s__law_draw : Stmt := topS 39
abbrev N__law_draw : List Str := ["cells", "k"]
abbrev P__law_draw : List Str := ["cells", "k"]
theorem sc__law_draw : FnScope N__law_draw P__law_draw (defScope s__law_draw) := ⟨rfl, rfl, rfl, by decide +kernel, rfl, by decide +kernel, by decide +kernel⟩
abbrev s__law_pairing : Stmt := topS 40
abbrev N__law_pairing : List Str := ["one", "other", "cells", "pairs", "k", "at", "xs", "ys", "i", "j", "way"]
abbrev P__law_pairing : List Str := ["one", "other", "cells"]
theorem sc__law_pairing : FnScope N__law_pairing P__law_pairing (defScope s__law_pairing) := ⟨rfl, rfl, rfl, by decide +kernel, rfl, by decide +kernel, by decide +kernel⟩
abbrev s__law_laid : Stmt := topS 41
abbrev N__law_laid : List Str := ["one", "other", "pairs", "rows", "k", "u", "v", "stop", "row", "there"]
abbrev P__law_laid : List Str := ["one", "other", "pairs"]
theorem sc__law_laid : FnScope N__law_laid P__law_laid (defScope s__law_laid) := ⟨rfl, rfl, rfl, by decide +kernel, rfl, by decide +kernel, by decide +kernel⟩
abbrev s__law_elder : Stmt := topS 42
abbrev N__law_elder : List Str := ["tree", "node", "there"]
abbrev P__law_elder : List Str := ["tree", "node"]
theorem sc__law_elder : FnScope N__law_elder P__law_elder (defScope s__law_elder) := ⟨rfl, rfl, rfl, by decide +kernel, rfl, by decide +kernel, by decide +kernel⟩
abbrev s__law_is_tree : Stmt := topS 43
abbrev N__law_is_tree : List Str := ["tree", "k", "deep", "word", "sign"]
abbrev P__law_is_tree : List Str := ["tree"]
theorem sc__law_is_tree : FnScope N__law_is_tree P__law_is_tree (defScope s__law_is_tree) := ⟨rfl, rfl, rfl, by decide +kernel, rfl, by decide +kernel, by decide +kernel⟩
abbrev s__law_words : Stmt := topS 44
abbrev N__law_words : List Str := ["row", "blanks", "words", "old", "new", "at"]
abbrev P__law_words : List Str := ["row"]
theorem sc__law_words : FnScope N__law_words P__law_words (defScope s__law_words) := ⟨rfl, rfl, rfl, by decide +kernel, rfl, by decide +kernel, by decide +kernel⟩
abbrev s__law_due : Stmt := topS 45
abbrev N__law_due : List Str := ["rows", "one", "other", "pairs", "row", "k", "u", "v"]
abbrev P__law_due : List Str := ["rows"]
theorem sc__law_due : FnScope N__law_due P__law_due (defScope s__law_due) := ⟨rfl, rfl, rfl, by decide +kernel, rfl, by decide +kernel, by decide +kernel⟩
abbrev s__law_row : Stmt := topS 46
abbrev N__law_row : List Str := ["row", "number", "signs", "at"]
abbrev P__law_row : List Str := ["row", "number"]
theorem sc__law_row : FnScope N__law_row P__law_row (defScope s__law_row) := ⟨rfl, rfl, rfl, by decide +kernel, rfl, by decide +kernel, by decide +kernel⟩
abbrev s__law_spoilt : Stmt := topS 47
abbrev N__law_spoilt : List Str := ["rows", "cell", "number", "at", "drawn"]
abbrev P__law_spoilt : List Str := ["rows", "cell"]
theorem sc__law_spoilt : FnScope N__law_spoilt P__law_spoilt (defScope s__law_spoilt) := ⟨rfl, rfl, rfl, by decide +kernel, rfl, by decide +kernel, by decide +kernel⟩
abbrev s__law_rows : Stmt := topS 48
abbrev N__law_rows : List Str := ["script", "one", "other", "rows", "way", "many", "sign", "k"]
abbrev P__law_rows : List Str := ["script"]
theorem sc__law_rows : FnScope N__law_rows P__law_rows (defScope s__law_rows) := ⟨rfl, rfl, rfl, by decide +kernel, rfl, by decide +kernel, by decide +kernel⟩
abbrev s__law_refused : Stmt := topS 49
abbrev N__law_refused : List Str := ["rows", "told", "e", "others"]
abbrev P__law_refused : List Str := ["rows"]
theorem sc__law_refused : FnScope N__law_refused P__law_refused (defScope s__law_refused) := ⟨rfl, rfl, rfl, by decide +kernel, rfl, by decide +kernel, by decide +kernel⟩
abbrev s_law : Stmt := topS 50
abbrev N_law : List Str := ["script", "rows", "due", "handed"]
abbrev P_law : List Str := ["script"]
theorem sc_law : FnScope N_law P_law (defScope s_law) := ⟨rfl, rfl, rfl, by decide +kernel, rfl, by decide +kernel, by decide +kernel⟩
structure Txt (K : PySem.W.Frag) (mg : Str → Option Value) where
  a_elder_list : Addr
  fd_elder_list : FuncData
  F_elder_list : Fun K "elder_list" "elder_list" s_elder_list a_elder_list fd_elder_list
  m_elder_list : mg "elder_list" = some (.ref a_elder_list)
  b_elder_list : Binds K fd_elder_list P_elder_list []
  a_is_pairing : Addr
  fd_is_pairing : FuncData
  F_is_pairing : Fun K "is_pairing" "is_pairing" s_is_pairing a_is_pairing fd_is_pairing
  m_is_pairing : mg "is_pairing" = some (.ref a_is_pairing)
  b_is_pairing : Binds K fd_is_pairing P_is_pairing []
  a_is_word : Addr
  fd_is_word : FuncData
  F_is_word : Fun K "is_word" "is_word" s_is_word a_is_word fd_is_word
  m_is_word : mg "is_word" = some (.ref a_is_word)
  b_is_word : Binds K fd_is_word P_is_word []
  a_is_tree : Addr
  fd_is_tree : FuncData
  F_is_tree : Fun K "is_tree" "is_tree" s_is_tree a_is_tree fd_is_tree
  m_is_tree : mg "is_tree" = some (.ref a_is_tree)
  b_is_tree : Binds K fd_is_tree P_is_tree []
  a_row_by : Addr
  fd_row_by : FuncData
  F_row_by : Fun K "row_by" "row_by" s_row_by a_row_by fd_row_by
  m_row_by : mg "row_by" = some (.ref a_row_by)
  b_row_by : Binds K fd_row_by P_row_by []
  a_pair_row : Addr
  fd_pair_row : FuncData
  F_pair_row : Fun K "pair_row" "pair_row" s_pair_row a_pair_row fd_pair_row
  m_pair_row : mg "pair_row" = some (.ref a_pair_row)
  b_pair_row : Binds K fd_pair_row P_pair_row []
  a_laid_out : Addr
  fd_laid_out : FuncData
  F_laid_out : Fun K "laid_out" "laid_out" s_laid_out a_laid_out fd_laid_out
  m_laid_out : mg "laid_out" = some (.ref a_laid_out)
  b_laid_out : Binds K fd_laid_out P_laid_out []
  a_deep_of : Addr
  fd_deep_of : FuncData
  F_deep_of : Fun K "deep_of" "deep_of" s_deep_of a_deep_of fd_deep_of
  m_deep_of : mg "deep_of" = some (.ref a_deep_of)
  b_deep_of : Binds K fd_deep_of P_deep_of []
  a_words_of : Addr
  fd_words_of : FuncData
  F_words_of : Fun K "words_of" "words_of" s_words_of a_words_of fd_words_of
  m_words_of : mg "words_of" = some (.ref a_words_of)
  b_words_of : Binds K fd_words_of P_words_of []
  a_read_laid : Addr
  fd_read_laid : FuncData
  F_read_laid : Fun K "read_laid" "read_laid" s_read_laid a_read_laid fd_read_laid
  m_read_laid : mg "read_laid" = some (.ref a_read_laid)
  b_read_laid : Binds K fd_read_laid P_read_laid []
  a__law_cell_at : Addr
  fd__law_cell_at : FuncData
  F__law_cell_at : Fun K "_law_cell_at" "_law_cell_at" s__law_cell_at a__law_cell_at fd__law_cell_at
  m__law_cell_at : mg "_law_cell_at" = some (.ref a__law_cell_at)
  b__law_cell_at : Binds K fd__law_cell_at P__law_cell_at []
  a__law_word : Addr
  fd__law_word : FuncData
  F__law_word : Fun K "_law_word" "_law_word" s__law_word a__law_word fd__law_word
  m__law_word : mg "_law_word" = some (.ref a__law_word)
  b__law_word : Binds K fd__law_word P__law_word []
  a__law_tree : Addr
  fd__law_tree : FuncData
  F__law_tree : Fun K "_law_tree" "_law_tree" s__law_tree a__law_tree fd__law_tree
  m__law_tree : mg "_law_tree" = some (.ref a__law_tree)
  b__law_tree : Binds K fd__law_tree P__law_tree []
  a__law_end : Addr
  fd__law_end : FuncData
  F__law_end : Fun K "_law_end" "_law_end" s__law_end a__law_end fd__law_end
  m__law_end : mg "_law_end" = some (.ref a__law_end)
  b__law_end : Binds K fd__law_end P__law_end []
  a__law_changed : Addr
  fd__law_changed : FuncData
  F__law_changed : Fun K "_law_changed" "_law_changed" s__law_changed a__law_changed fd__law_changed
  m__law_changed : mg "_law_changed" = some (.ref a__law_changed)
  b__law_changed : Binds K fd__law_changed P__law_changed []
  a__law_young : Addr
  fd__law_young : FuncData
  F__law_young : Fun K "_law_young" "_law_young" s__law_young a__law_young fd__law_young
  m__law_young : mg "_law_young" = some (.ref a__law_young)
  b__law_young : Binds K fd__law_young P__law_young []
  a__law_draw : Addr
  fd__law_draw : FuncData
  F__law_draw : Fun K "_law_draw" "_law_draw" s__law_draw a__law_draw fd__law_draw
  m__law_draw : mg "_law_draw" = some (.ref a__law_draw)
  b__law_draw : Binds K fd__law_draw P__law_draw []
  a__law_pairing : Addr
  fd__law_pairing : FuncData
  F__law_pairing : Fun K "_law_pairing" "_law_pairing" s__law_pairing a__law_pairing fd__law_pairing
  m__law_pairing : mg "_law_pairing" = some (.ref a__law_pairing)
  b__law_pairing : Binds K fd__law_pairing P__law_pairing []
  a__law_laid : Addr
  fd__law_laid : FuncData
  F__law_laid : Fun K "_law_laid" "_law_laid" s__law_laid a__law_laid fd__law_laid
  m__law_laid : mg "_law_laid" = some (.ref a__law_laid)
  b__law_laid : Binds K fd__law_laid P__law_laid []
  a__law_elder : Addr
  fd__law_elder : FuncData
  F__law_elder : Fun K "_law_elder" "_law_elder" s__law_elder a__law_elder fd__law_elder
  m__law_elder : mg "_law_elder" = some (.ref a__law_elder)
  b__law_elder : Binds K fd__law_elder P__law_elder []
  a__law_is_tree : Addr
  fd__law_is_tree : FuncData
  F__law_is_tree : Fun K "_law_is_tree" "_law_is_tree" s__law_is_tree a__law_is_tree fd__law_is_tree
  m__law_is_tree : mg "_law_is_tree" = some (.ref a__law_is_tree)
  b__law_is_tree : Binds K fd__law_is_tree P__law_is_tree []
  a__law_words : Addr
  fd__law_words : FuncData
  F__law_words : Fun K "_law_words" "_law_words" s__law_words a__law_words fd__law_words
  m__law_words : mg "_law_words" = some (.ref a__law_words)
  b__law_words : Binds K fd__law_words P__law_words []
  a__law_due : Addr
  fd__law_due : FuncData
  F__law_due : Fun K "_law_due" "_law_due" s__law_due a__law_due fd__law_due
  m__law_due : mg "_law_due" = some (.ref a__law_due)
  b__law_due : Binds K fd__law_due P__law_due []
  a__law_row : Addr
  fd__law_row : FuncData
  F__law_row : Fun K "_law_row" "_law_row" s__law_row a__law_row fd__law_row
  m__law_row : mg "_law_row" = some (.ref a__law_row)
  b__law_row : Binds K fd__law_row P__law_row []
  a__law_spoilt : Addr
  fd__law_spoilt : FuncData
  F__law_spoilt : Fun K "_law_spoilt" "_law_spoilt" s__law_spoilt a__law_spoilt fd__law_spoilt
  m__law_spoilt : mg "_law_spoilt" = some (.ref a__law_spoilt)
  b__law_spoilt : Binds K fd__law_spoilt P__law_spoilt []
  a__law_rows : Addr
  fd__law_rows : FuncData
  F__law_rows : Fun K "_law_rows" "_law_rows" s__law_rows a__law_rows fd__law_rows
  m__law_rows : mg "_law_rows" = some (.ref a__law_rows)
  b__law_rows : Binds K fd__law_rows P__law_rows []
  a__law_refused : Addr
  fd__law_refused : FuncData
  F__law_refused : Fun K "_law_refused" "_law_refused" s__law_refused a__law_refused fd__law_refused
  m__law_refused : mg "_law_refused" = some (.ref a__law_refused)
  b__law_refused : Binds K fd__law_refused P__law_refused []
  a_law : Addr
  fd_law : FuncData
  F_law : Fun K "law" "law" s_law a_law fd_law
  m_law : mg "law" = some (.ref a_law)
  b_law : Binds K fd_law P_law []
  a_NoRows : Addr
  mx_NoRows : mg "NoRows" = some (.ref a_NoRows)
  a_NoName : Addr
  mx_NoName : mg "NoName" = some (.ref a_NoName)
  a_Lacks : Addr
  mx_Lacks : mg "Lacks" = some (.ref a_Lacks)
  a_Touch : Addr
  mx_Touch : mg "Touch" = some (.ref a_Touch)
  a_NoFit : Addr
  mx_NoFit : mg "NoFit" = some (.ref a_NoFit)
  a_Twice : Addr
  mx_Twice : mg "Twice" = some (.ref a_Twice)
  a_NoMark : Addr
  mx_NoMark : mg "NoMark" = some (.ref a_NoMark)
  a_NoTree : Addr
  mx_NoTree : mg "NoTree" = some (.ref a_NoTree)
  a_TooMany : Addr
  mx_TooMany : mg "TooMany" = some (.ref a_TooMany)
  a_NoPlace : Addr
  mx_NoPlace : mg "NoPlace" = some (.ref a_NoPlace)
  a_NoNode : Addr
  mx_NoNode : mg "NoNode" = some (.ref a_NoNode)
  a_NoText : Addr
  mx_NoText : mg "NoText" = some (.ref a_NoText)
  a_NoMake : Addr
  mx_NoMake : mg "NoMake" = some (.ref a_NoMake)
  a_NoProgram : Addr
  mx_NoProgram : mg "NoProgram" = some (.ref a_NoProgram)
  a_MendError : Addr
  mx_MendError : mg "MendError" = some (.ref a_MendError)
  x_NoRows : ErrC K mg "NoRows" a_NoRows
  e_NoRows : ExcC K a_NoRows
  sub_NoRows_NoRows : PySem.W.subIn K (.ref a_NoRows) (.ref a_NoRows) = some true
  kit_NoRows_NoName : PySem.W.kitOne K (.ref a_NoRows) (.ref a_NoName) = some false
  kit_NoRows_Lacks : PySem.W.kitOne K (.ref a_NoRows) (.ref a_Lacks) = some false
  kit_NoRows_Touch : PySem.W.kitOne K (.ref a_NoRows) (.ref a_Touch) = some false
  kit_NoRows_NoFit : PySem.W.kitOne K (.ref a_NoRows) (.ref a_NoFit) = some false
  kit_NoRows_Twice : PySem.W.kitOne K (.ref a_NoRows) (.ref a_Twice) = some false
  kit_NoRows_NoMark : PySem.W.kitOne K (.ref a_NoRows) (.ref a_NoMark) = some false
  kit_NoRows_NoTree : PySem.W.kitOne K (.ref a_NoRows) (.ref a_NoTree) = some false
  kit_NoRows_TooMany : PySem.W.kitOne K (.ref a_NoRows) (.ref a_TooMany) = some false
  kit_NoRows_NoPlace : PySem.W.kitOne K (.ref a_NoRows) (.ref a_NoPlace) = some false
  kit_NoRows_NoNode : PySem.W.kitOne K (.ref a_NoRows) (.ref a_NoNode) = some false
  kit_NoRows_NoText : PySem.W.kitOne K (.ref a_NoRows) (.ref a_NoText) = some false
  kit_NoRows_NoMake : PySem.W.kitOne K (.ref a_NoRows) (.ref a_NoMake) = some false
  kit_NoRows_NoProgram : PySem.W.kitOne K (.ref a_NoRows) (.ref a_NoProgram) = some false
  kit_NoRows_ValueError : PySem.W.kitOne K (.ref a_NoRows) (.type "ValueError") = some true
  kit_NoRows_MendError : PySem.W.kitOne K (.ref a_NoRows) (.ref a_MendError) = some true
  z_enumerate : mg "enumerate" = none
  z_len : mg "len" = none
  z_list : mg "list" = none
  z_zip : mg "zip" = none
  z_range : mg "range" = none
  z_min : mg "min" = none
  z_int : mg "int" = none
  z_sorted : mg "sorted" = none
  z_max : mg "max" = none
  z_isinstance : mg "isinstance" = none
  z_ValueError : mg "ValueError" = none
  t_MOST : Tok
  c_MOST : mg "MOST" = some (.int 200 t_MOST)
  t_DEEP : Tok
  c_DEEP : mg "DEEP" = some (.int 30 t_DEEP)
  t_SIGNS : Tok
  c_SIGNS : mg "SIGNS" = some (.str "abcdefghijklmnopqrstuvwxyz0123456789+-*=<" t_SIGNS)
section
variable {P : Program} {w : World} {K : PySem.W.Frag} {mg : Str → Option Value} {base : Heap}
theorem hx_NoRows (T : Txt K mg) : ∀ n C, n ∈ exNames → PySem.W.nsIn K mainGlobals n = some (some C) → PySem.W.exmOne K C (.ref T.a_NoRows) = some (exSub n "NoRows") := by
  intro n C hn hC
  have hn := hn
  simp only [exNames, List.mem_cons, List.not_mem_nil, or_false] at hn
  rcases hn with rfl
  · cases Option.some.inj (Option.some.inj (T.x_NoRows.n.symm.trans hC))
    rw [ex_NoRows_NoRows]; exact PySem.W.exm_ref T.x_NoRows.s T.x_NoRows.d T.x_NoRows.t T.sub_NoRows_NoRows
theorem hd_ (T : Txt K mg) : ∀ n C, n ∈ exNames → PySem.W.nsIn K mainGlobals n = some (some C) → ∃ D, C = .ref D ∧ ExcC K D := by
  intro n C hn hC
  have hn := hn
  simp only [exNames, List.mem_cons, List.not_mem_nil, or_false] at hn
  rcases hn with rfl
  · cases Option.some.inj (Option.some.inj (T.x_NoRows.n.symm.trans hC))
    exact ⟨_, rfl, T.e_NoRows⟩
theorem hk_NoName (T : Txt K mg) : ∀ n D, n ∈ exNames → PySem.W.nsIn K mainGlobals n = some (some (.ref D)) → PySem.W.kitOne K (.ref D) (.ref T.a_NoName) = some (exSub n "NoName") := by
  intro n D hn hC
  have hn := hn
  simp only [exNames, List.mem_cons, List.not_mem_nil, or_false] at hn
  rcases hn with rfl
  · cases Option.some.inj (Option.some.inj (T.x_NoRows.n.symm.trans hC))
    rw [ex_NoRows_NoName]; exact T.kit_NoRows_NoName
theorem hk_Lacks (T : Txt K mg) : ∀ n D, n ∈ exNames → PySem.W.nsIn K mainGlobals n = some (some (.ref D)) → PySem.W.kitOne K (.ref D) (.ref T.a_Lacks) = some (exSub n "Lacks") := by
  intro n D hn hC
  have hn := hn
  simp only [exNames, List.mem_cons, List.not_mem_nil, or_false] at hn
  rcases hn with rfl
  · cases Option.some.inj (Option.some.inj (T.x_NoRows.n.symm.trans hC))
    rw [ex_NoRows_Lacks]; exact T.kit_NoRows_Lacks
theorem hk_Touch (T : Txt K mg) : ∀ n D, n ∈ exNames → PySem.W.nsIn K mainGlobals n = some (some (.ref D)) → PySem.W.kitOne K (.ref D) (.ref T.a_Touch) = some (exSub n "Touch") := by
  intro n D hn hC
  have hn := hn
  simp only [exNames, List.mem_cons, List.not_mem_nil, or_false] at hn
  rcases hn with rfl
  · cases Option.some.inj (Option.some.inj (T.x_NoRows.n.symm.trans hC))
    rw [ex_NoRows_Touch]; exact T.kit_NoRows_Touch
theorem hk_NoFit (T : Txt K mg) : ∀ n D, n ∈ exNames → PySem.W.nsIn K mainGlobals n = some (some (.ref D)) → PySem.W.kitOne K (.ref D) (.ref T.a_NoFit) = some (exSub n "NoFit") := by
  intro n D hn hC
  have hn := hn
  simp only [exNames, List.mem_cons, List.not_mem_nil, or_false] at hn
  rcases hn with rfl
  · cases Option.some.inj (Option.some.inj (T.x_NoRows.n.symm.trans hC))
    rw [ex_NoRows_NoFit]; exact T.kit_NoRows_NoFit
theorem hk_Twice (T : Txt K mg) : ∀ n D, n ∈ exNames → PySem.W.nsIn K mainGlobals n = some (some (.ref D)) → PySem.W.kitOne K (.ref D) (.ref T.a_Twice) = some (exSub n "Twice") := by
  intro n D hn hC
  have hn := hn
  simp only [exNames, List.mem_cons, List.not_mem_nil, or_false] at hn
  rcases hn with rfl
  · cases Option.some.inj (Option.some.inj (T.x_NoRows.n.symm.trans hC))
    rw [ex_NoRows_Twice]; exact T.kit_NoRows_Twice
theorem hk_NoMark (T : Txt K mg) : ∀ n D, n ∈ exNames → PySem.W.nsIn K mainGlobals n = some (some (.ref D)) → PySem.W.kitOne K (.ref D) (.ref T.a_NoMark) = some (exSub n "NoMark") := by
  intro n D hn hC
  have hn := hn
  simp only [exNames, List.mem_cons, List.not_mem_nil, or_false] at hn
  rcases hn with rfl
  · cases Option.some.inj (Option.some.inj (T.x_NoRows.n.symm.trans hC))
    rw [ex_NoRows_NoMark]; exact T.kit_NoRows_NoMark
theorem hk_NoTree (T : Txt K mg) : ∀ n D, n ∈ exNames → PySem.W.nsIn K mainGlobals n = some (some (.ref D)) → PySem.W.kitOne K (.ref D) (.ref T.a_NoTree) = some (exSub n "NoTree") := by
  intro n D hn hC
  have hn := hn
  simp only [exNames, List.mem_cons, List.not_mem_nil, or_false] at hn
  rcases hn with rfl
  · cases Option.some.inj (Option.some.inj (T.x_NoRows.n.symm.trans hC))
    rw [ex_NoRows_NoTree]; exact T.kit_NoRows_NoTree
theorem hk_TooMany (T : Txt K mg) : ∀ n D, n ∈ exNames → PySem.W.nsIn K mainGlobals n = some (some (.ref D)) → PySem.W.kitOne K (.ref D) (.ref T.a_TooMany) = some (exSub n "TooMany") := by
  intro n D hn hC
  have hn := hn
  simp only [exNames, List.mem_cons, List.not_mem_nil, or_false] at hn
  rcases hn with rfl
  · cases Option.some.inj (Option.some.inj (T.x_NoRows.n.symm.trans hC))
    rw [ex_NoRows_TooMany]; exact T.kit_NoRows_TooMany
theorem hk_NoPlace (T : Txt K mg) : ∀ n D, n ∈ exNames → PySem.W.nsIn K mainGlobals n = some (some (.ref D)) → PySem.W.kitOne K (.ref D) (.ref T.a_NoPlace) = some (exSub n "NoPlace") := by
  intro n D hn hC
  have hn := hn
  simp only [exNames, List.mem_cons, List.not_mem_nil, or_false] at hn
  rcases hn with rfl
  · cases Option.some.inj (Option.some.inj (T.x_NoRows.n.symm.trans hC))
    rw [ex_NoRows_NoPlace]; exact T.kit_NoRows_NoPlace
theorem hk_NoNode (T : Txt K mg) : ∀ n D, n ∈ exNames → PySem.W.nsIn K mainGlobals n = some (some (.ref D)) → PySem.W.kitOne K (.ref D) (.ref T.a_NoNode) = some (exSub n "NoNode") := by
  intro n D hn hC
  have hn := hn
  simp only [exNames, List.mem_cons, List.not_mem_nil, or_false] at hn
  rcases hn with rfl
  · cases Option.some.inj (Option.some.inj (T.x_NoRows.n.symm.trans hC))
    rw [ex_NoRows_NoNode]; exact T.kit_NoRows_NoNode
theorem hk_NoText (T : Txt K mg) : ∀ n D, n ∈ exNames → PySem.W.nsIn K mainGlobals n = some (some (.ref D)) → PySem.W.kitOne K (.ref D) (.ref T.a_NoText) = some (exSub n "NoText") := by
  intro n D hn hC
  have hn := hn
  simp only [exNames, List.mem_cons, List.not_mem_nil, or_false] at hn
  rcases hn with rfl
  · cases Option.some.inj (Option.some.inj (T.x_NoRows.n.symm.trans hC))
    rw [ex_NoRows_NoText]; exact T.kit_NoRows_NoText
theorem hk_NoMake (T : Txt K mg) : ∀ n D, n ∈ exNames → PySem.W.nsIn K mainGlobals n = some (some (.ref D)) → PySem.W.kitOne K (.ref D) (.ref T.a_NoMake) = some (exSub n "NoMake") := by
  intro n D hn hC
  have hn := hn
  simp only [exNames, List.mem_cons, List.not_mem_nil, or_false] at hn
  rcases hn with rfl
  · cases Option.some.inj (Option.some.inj (T.x_NoRows.n.symm.trans hC))
    rw [ex_NoRows_NoMake]; exact T.kit_NoRows_NoMake
theorem hk_NoProgram (T : Txt K mg) : ∀ n D, n ∈ exNames → PySem.W.nsIn K mainGlobals n = some (some (.ref D)) → PySem.W.kitOne K (.ref D) (.ref T.a_NoProgram) = some (exSub n "NoProgram") := by
  intro n D hn hC
  have hn := hn
  simp only [exNames, List.mem_cons, List.not_mem_nil, or_false] at hn
  rcases hn with rfl
  · cases Option.some.inj (Option.some.inj (T.x_NoRows.n.symm.trans hC))
    rw [ex_NoRows_NoProgram]; exact T.kit_NoRows_NoProgram
theorem hk_ValueError (T : Txt K mg) : ∀ n D, n ∈ exNames → PySem.W.nsIn K mainGlobals n = some (some (.ref D)) → PySem.W.kitOne K (.ref D) (.type "ValueError") = some (exSub n "ValueError") := by
  intro n D hn hC
  have hn := hn
  simp only [exNames, List.mem_cons, List.not_mem_nil, or_false] at hn
  rcases hn with rfl
  · cases Option.some.inj (Option.some.inj (T.x_NoRows.n.symm.trans hC))
    rw [ex_NoRows_ValueError]; exact T.kit_NoRows_ValueError
theorem hk_MendError (T : Txt K mg) : ∀ n D, n ∈ exNames → PySem.W.nsIn K mainGlobals n = some (some (.ref D)) → PySem.W.kitOne K (.ref D) (.ref T.a_MendError) = some (exSub n "MendError") := by
  intro n D hn hC
  have hn := hn
  simp only [exNames, List.mem_cons, List.not_mem_nil, or_false] at hn
  rcases hn with rfl
  · cases Option.some.inj (Option.some.inj (T.x_NoRows.n.symm.trans hC))
    rw [ex_NoRows_MendError]; exact T.kit_NoRows_MendError
theorem ok_elder_list (T : Txt K mg) : FnOk P w K mg base CX0 1 T.a_elder_list T.fd_elder_list P_elder_list (spD K spec_elder_list) := by
  refine okD (ws := ws_elder_list) T.F_elder_list sc_elder_list len_elder_list (fun cdv A outer s H E hr => ?_) pure_elder_list
  have nd := sc_elder_list.nd
  exact s_cons (s_set (i := 1) nd rfl (by first | exact Or.inl rfl | exact Or.inr rfl) (d_lst (i_nil))) (s_cons (s_set (i := 2) nd rfl (by first | exact Or.inl rfl | exact Or.inr rfl) (d_lst (i_nil))) (s_cons (s_for PassesOwn.never rfl (n_E (by rfl) T.z_enumerate (a_cons (dv 0) (a_nil))) (g_tup rfl (gs_cons (g_name (i := 3) nd rfl (by first | exact Or.inl rfl | exact Or.inr rfl)) (gs_cons (g_name (i := 4) nd rfl (by first | exact Or.inl rfl | exact Or.inr rfl)) (gs_nil)))) (s_cons (s_set (i := 2) nd rfl (by first | exact Or.inl rfl | exact Or.inr rfl) (d_sl (dv 2) (o_none) (o_some (d_ix (dv 4) (d_int))))) (s_cons (s_if (t_cmp op_gt opd_gt (d_B call_len cd_len (by rfl) T.z_len PySem.boot_len (a_cons (dv 2) (a_nil))) (d_int) (nomark _)) (s_one (s_app (i := 1) (h := d_ix (dv 2) (d_un un_neg und_neg (d_int))))) (s_one (s_app (i := 1) (h := d_non)))) (s_one (s_app (i := 2) (h := dv 3)))))) (s_one (s_ret (dm 1)))))
theorem ok_is_pairing (T : Txt K mg) : FnOk P w K mg base CX0 2 T.a_is_pairing T.fd_is_pairing P_is_pairing (spD K spec_is_pairing) := by
  refine okD (ws := ws_is_pairing) T.F_is_pairing sc_is_pairing len_is_pairing (fun cdv A outer s H E hr => ?_) pure_is_pairing
  have nd := sc_is_pairing.nd
  exact s_cons (s_if (t_cmp (op_neA hr.units) opd_ne (d_BT call_list_of cd_list (by rfl) T.z_list PyProof.Rows.boot_list (a_cons (d_sl (dv 2) (o_none) (o_some (d_int))) (a_nil))) (d_lst (i_cons (d_tup (i_cons (d_int) (i_cons (d_int) (i_nil)))) (i_nil))) (nomark _)) (s_one (s_ret (d_bl))) (s_nil)) (s_cons (s_set (i := 3) nd rfl (by first | exact Or.inl rfl | exact Or.inr rfl) (d_call (ok_elder_list T) (hr.mono (by decide)) (by rfl) T.m_elder_list T.F_elder_list.kp T.b_elder_list .nil (fun _ _ => .nil) (a_cons (dv 0) (a_nil)))) (s_cons (s_set (i := 4) nd rfl (by first | exact Or.inl rfl | exact Or.inr rfl) (d_call (ok_elder_list T) (hr.mono (by decide)) (by rfl) T.m_elder_list T.F_elder_list.kp T.b_elder_list .nil (fun _ _ => .nil) (a_cons (dv 1) (a_nil)))) (s_cons (s_set (i := 5) nd rfl (by first | exact Or.inl rfl | exact Or.inr rfl) (d_disp1 (d_int) (d_int))) (s_cons (s_set (i := 6) nd rfl (by first | exact Or.inl rfl | exact Or.inr rfl) (d_tup (i_cons (d_int) (i_cons (d_int) (i_nil))))) (s_cons (s_for PassesOwn.never rfl (n_L (d_sl (dv 2) (o_some (d_int)) (o_none))) (g_tup rfl (gs_cons (g_name (i := 7) nd rfl (by first | exact Or.inl rfl | exact Or.inr rfl)) (gs_cons (g_name (i := 8) nd rfl (by first | exact Or.inl rfl | exact Or.inr rfl)) (gs_nil)))) (s_cons (s_if (DW.t (w_or (t_cmp op_le opd_le (dv 7) (d_ix (dv 6) (d_int)) (nomark _)) (w_or (t_cmp op_le opd_le (dv 8) (d_ix (dv 6) (d_int)) (nomark _)) (w_or (t_cmp op_ge opd_ge (dv 7) (d_B call_len cd_len (by rfl) T.z_len PySem.boot_len (a_cons (dv 0) (a_nil))) (nomark _)) (w_or1 (t_cmp op_ge opd_ge (dv 8) (d_B call_len cd_len (by rfl) T.z_len PySem.boot_len (a_cons (dv 1) (a_nil))) (nomark _))))))) (s_one (s_ret (d_bl))) (s_nil)) (s_cons (s_if (t_cmp (op_neA hr.units) opd_ne (d_get1 hr.units (dv 5) (d_ix (dv 3) (dv 7))) (d_ix (dv 4) (dv 8)) (nomark _)) (s_one (s_ret (d_bl))) (s_nil)) (s_cons (s_dput hr.units (i := 5) (hk := dv 7) (h := dv 8)) (s_one (s_set (i := 6) nd rfl (by first | exact Or.inl rfl | exact Or.inr rfl) (d_tup (i_cons (dv 7) (i_cons (dv 8) (i_nil)))))))))) (s_one (s_ret (d_bl))))))))
theorem ok_is_word (T : Txt K mg) : FnOk P w K mg base CX0 1 T.a_is_word T.fd_is_word P_is_word (spD K spec_is_word) := by
  refine okD (ws := ws_is_word) T.F_is_word sc_is_word len_is_word (fun cdv A outer s H E hr => ?_) pure_is_word
  have nd := sc_is_word.nd
  exact s_cons (s_for PassesOwn.never rfl (n_S (dv 0)) (g_name (i := 1) nd rfl (by first | exact Or.inl rfl | exact Or.inr rfl)) (s_one (s_if (t_cmp op_notInA opd_notIn (dv 1) (d_gstr (by rfl) T.c_SIGNS) (by rfl)) (s_one (s_ret (d_bl))) (s_nil)))) (s_one (s_ret (d_chain op_le op_le opd_le opd_le (d_int) (d_B call_len cd_len (by rfl) T.z_len PySem.boot_len (a_cons (dv 0) (a_nil))) (d_int))))
theorem ok_is_tree (T : Txt K mg) : FnOk P w K mg base CX0 2 T.a_is_tree T.fd_is_tree P_is_tree (spD K spec_is_tree) := by
  refine okD (ws := ws_is_tree) T.F_is_tree sc_is_tree len_is_tree (fun cdv A outer s H E hr => ?_) pure_is_tree
  have nd := sc_is_tree.nd
  exact s_cons (s_if (DW.t (w_or (t_cmp (op_eqA hr.units) opd_eq (d_B call_len cd_len (by rfl) T.z_len PySem.boot_len (a_cons (dv 0) (a_nil))) (d_int) (nomark _)) (w_or (t_cmp op_gt opd_gt (d_B call_len cd_len (by rfl) T.z_len PySem.boot_len (a_cons (dv 0) (a_nil))) (d_gint (by rfl) T.c_MOST) (nomark _)) (w_or1 (t_cmp (op_neA hr.units) opd_ne (d_ix (d_ix (dv 0) (d_int)) (d_int)) (d_int) (nomark _)))))) (s_one (s_ret (d_bl))) (s_nil)) (s_cons (s_set (i := 1) nd rfl (by first | exact Or.inl rfl | exact Or.inr rfl) (d_int)) (s_cons (s_for PassesOwn.never rfl (n_E (by rfl) T.z_enumerate (a_cons (dv 0) (a_nil))) (g_tup rfl (gs_cons (g_name (i := 2) nd rfl (by first | exact Or.inl rfl | exact Or.inr rfl)) (gs_cons (g_name (i := 3) nd rfl (by first | exact Or.inl rfl | exact Or.inr rfl)) (gs_nil)))) (s_cons (s_asg (dv 3) (g_tup rfl (gs_cons (g_name (i := 4) nd rfl (by first | exact Or.inl rfl | exact Or.inr rfl)) (gs_cons (g_name (i := 5) nd rfl (by first | exact Or.inl rfl | exact Or.inr rfl)) (gs_nil))))) (s_cons (s_if (DW.t (w_or (t_not (t_val (d_call (ok_is_word T) (hr.mono (by decide)) (by rfl) T.m_is_word T.F_is_word.kp T.b_is_word .nil (fun _ _ => .nil) (a_cons (dv 5) (a_nil))))) (w_or1 (t_cmp op_gt opd_gt (dv 4) (d_gint (by rfl) T.c_DEEP) (nomark _))))) (s_one (s_ret (d_bl))) (s_nil)) (s_cons (s_if (DW.t (w_and (t_cmp op_gt opd_gt (dv 2) (d_int) (nomark _)) (w_and1 (DW.t (w_or (t_cmp op_lt opd_lt (dv 4) (d_int) (nomark _)) (w_or1 (t_cmp op_gt opd_gt (dv 4) (d_op op_addA opd_add (dv 1) (d_int)) (nomark _)))))))) (s_one (s_ret (d_bl))) (s_nil)) (s_one (s_set (i := 1) nd rfl (by first | exact Or.inl rfl | exact Or.inr rfl) (dv 4))))))) (s_one (s_ret (d_bl)))))
theorem ok_row_by (T : Txt K mg) : FnOk P w K mg base CX0 1 T.a_row_by T.fd_row_by P_row_by (spD K spec_row_by) := by
  refine okD (ws := ws_row_by) T.F_row_by sc_row_by len_row_by (fun cdv A outer s H E hr => ?_) pure_row_by
  have nd := sc_row_by.nd
  exact s_one (s_ret (d_op op_addA opd_add (d_op op_addA opd_add (dv 0) (d_op op_mulA opd_mul (d_str) (dv 1))) (dv 2)))
theorem ok_pair_row (T : Txt K mg) : FnOk P w K mg base CX0 2 T.a_pair_row T.fd_pair_row P_pair_row (spD K spec_pair_row) := by
  refine okD (ws := ws_pair_row) T.F_pair_row sc_pair_row len_pair_row (fun cdv A outer s H E hr => ?_) pure_pair_row
  have nd := sc_pair_row.nd
  exact s_cons (s_if (t_cmp (op_eqA hr.units) opd_eq (d_ix (dv 0) (d_int)) (d_ix (dv 1) (d_int)) (nomark _)) (s_one (s_ret (d_call (ok_row_by T) (hr.mono (by decide)) (by rfl) T.m_row_by T.F_row_by.kp T.b_row_by .nil (fun _ _ => .nil) (a_cons (d_str) (a_cons (d_ix (dv 0) (d_int)) (a_cons (d_ix (dv 0) (d_int)) (a_nil))))))) (s_nil)) (s_one (s_ret (d_call (ok_row_by T) (hr.mono (by decide)) (by rfl) T.m_row_by T.F_row_by.kp T.b_row_by .nil (fun _ _ => .nil) (a_cons (d_str) (a_cons (d_ix (dv 0) (d_int)) (a_cons (d_op op_addA opd_add (d_op op_addA opd_add (d_ix (dv 0) (d_int)) (d_str)) (d_ix (dv 1) (d_int))) (a_nil)))))))
theorem ok_laid_out (T : Txt K mg) : FnOk P w K mg base CX0 3 T.a_laid_out T.fd_laid_out P_laid_out (spD K spec_laid_out) := by
  refine okD (ws := ws_laid_out) T.F_laid_out sc_laid_out len_laid_out (fun cdv A outer s H E hr => ?_) pure_laid_out
  have nd := sc_laid_out.nd
  exact s_cons (s_set (i := 3) nd rfl (by first | exact Or.inl rfl | exact Or.inr rfl) (d_lst (i_nil))) (s_cons (s_set (i := 4) nd rfl (by first | exact Or.inl rfl | exact Or.inr rfl) (d_op op_addA opd_add (d_sl (dv 2) (o_some (d_int)) (o_none)) (d_lst (i_cons (d_tup (i_cons (d_B call_len cd_len (by rfl) T.z_len PySem.boot_len (a_cons (dv 0) (a_nil))) (i_cons (d_B call_len cd_len (by rfl) T.z_len PySem.boot_len (a_cons (dv 1) (a_nil))) (i_nil)))) (i_nil))))) (s_cons (s_for PassesOwn.never rfl (n_Z (by rfl) T.z_zip (a_cons (dv 2) (a_cons (df 4) (a_nil)))) (g_tup rfl (gs_cons (g_name (i := 5) nd rfl (by first | exact Or.inl rfl | exact Or.inr rfl)) (gs_cons (g_name (i := 6) nd rfl (by first | exact Or.inl rfl | exact Or.inr rfl)) (gs_nil)))) (s_cons (s_asg (dv 5) (g_tup rfl (gs_cons (g_name (i := 7) nd rfl (by first | exact Or.inl rfl | exact Or.inr rfl)) (gs_cons (g_name (i := 8) nd rfl (by first | exact Or.inl rfl | exact Or.inr rfl)) (gs_nil))))) (s_cons (s_app (i := 3) (h := d_call (ok_pair_row T) (hr.mono (by decide)) (by rfl) T.m_pair_row T.F_pair_row.kp T.b_pair_row .nil (fun _ _ => .nil) (a_cons (d_ix (dv 0) (dv 7)) (a_cons (d_ix (dv 1) (dv 8)) (a_nil))))) (s_cons (s_ext (i := 3) (h := d_lc (own := [("deep", 9), ("word", 10)]) (g := gTup K 2 (gCons (gName 9) (gCons (gName 10) (gNil)))) rfl nd (n_L (d_sl (dv 0) (o_some (d_op op_addA opd_add (dv 7) (d_int))) (o_some (d_ix (dv 6) (d_int))))) (blkOk_by (own := [("deep", 9), ("word", 10)]) (N := N_laid_out) (sc := defScope s_laid_out) (by decide +kernel)) (fun _ _ _ _ _ => c_tup rfl (cs_cons (c_name nd rfl (by first | exact Or.inl rfl | exact Or.inr rfl) (by decide)) (cs_cons (c_name nd rfl (by first | exact Or.inl rfl | exact Or.inr rfl) (by decide)) (cs_nil)))) (fun _ _ _ _ _ => d_call (ok_row_by T) (hr.mono (by decide)) (by rfl) T.m_row_by T.F_row_by.kp T.b_row_by .nil (fun _ _ => .nil) (a_cons (d_str) (a_cons (dv 9) (a_cons (dv 10) (a_nil))))))) (s_one (s_ext (i := 3) (h := d_lc (own := [("deep", 9), ("word", 10)]) (g := gTup K 2 (gCons (gName 9) (gCons (gName 10) (gNil)))) rfl nd (n_L (d_sl (dv 1) (o_some (d_op op_addA opd_add (dv 8) (d_int))) (o_some (d_ix (dv 6) (d_int))))) (blkOk_by (own := [("deep", 9), ("word", 10)]) (N := N_laid_out) (sc := defScope s_laid_out) (by decide +kernel)) (fun _ _ _ _ _ => c_tup rfl (cs_cons (c_name nd rfl (by first | exact Or.inl rfl | exact Or.inr rfl) (by decide)) (cs_cons (c_name nd rfl (by first | exact Or.inl rfl | exact Or.inr rfl) (by decide)) (cs_nil)))) (fun _ _ _ _ _ => d_call (ok_row_by T) (hr.mono (by decide)) (by rfl) T.m_row_by T.F_row_by.kp T.b_row_by .nil (fun _ _ => .nil) (a_cons (d_str) (a_cons (dv 9) (a_cons (dv 10) (a_nil)))))))))))) (s_one (s_ret (dm 3)))))
theorem ok_deep_of (T : Txt K mg) : FnOk P w K mg base CX0 1 T.a_deep_of T.fd_deep_of P_deep_of (spD K spec_deep_of) := by
  refine okD (ws := ws_deep_of) T.F_deep_of sc_deep_of len_deep_of (fun cdv A outer s H E hr => ?_) pure_deep_of
  have nd := sc_deep_of.nd
  exact s_one (s_ret (d_op op_fdivB opd_fdiv (d_op op_sub opd_sub (d_B call_len cd_len (by rfl) T.z_len PySem.boot_len (a_cons (dv 0) (a_nil))) (d_B call_len cd_len (by rfl) T.z_len PySem.boot_len (a_cons (d_lstrip (dv 0) (d_str)) (a_nil)))) (d_int)))
theorem ok_words_of (T : Txt K mg) : FnOk P w K mg base CX0 2 T.a_words_of T.fd_words_of P_words_of (spD K spec_words_of) := by
  refine okD (ws := ws_words_of) T.F_words_of sc_words_of len_words_of (fun cdv A outer s H E hr => ?_) pure_words_of
  have nd := sc_words_of.nd
  exact s_cons (s_set (i := 1) nd rfl (by first | exact Or.inl rfl | exact Or.inr rfl) (d_sl (dv 0) (o_some (d_int)) (o_none))) (s_cons (s_asg (d_part (d_strip (dv 1) (d_str)) (d_str)) (g_tup rfl (gs_cons (g_name (i := 2) nd rfl (by first | exact Or.inl rfl | exact Or.inr rfl)) (gs_cons (g_name (i := 3) nd rfl (by first | exact Or.inl rfl | exact Or.inr rfl)) (gs_cons (g_name (i := 4) nd rfl (by first | exact Or.inl rfl | exact Or.inr rfl)) (gs_nil)))))) (s_cons (s_if (t_cmp (op_neA hr.units) opd_ne (d_sl (dv 0) (o_none) (o_some (d_int))) (d_str) (nomark _)) (s_one (s_set (i := 4) nd rfl (by first | exact Or.inl rfl | exact Or.inr rfl) (dv 2))) (s_nil)) (s_one (s_ret (d_tup (i_cons (d_sl (dv 0) (o_none) (o_some (d_int))) (i_cons (d_call (ok_deep_of T) (hr.mono (by decide)) (by rfl) T.m_deep_of T.F_deep_of.kp T.b_deep_of .nil (fun _ _ => .nil) (a_cons (dv 1) (a_nil))) (i_cons (dm 2) (i_cons (dm 4) (i_nil))))))))))
theorem ok_read_laid (T : Txt K mg) : FnOk P w K mg base (L2.CX P w) 4 T.a_read_laid T.fd_read_laid P_read_laid (spD K spec_read_laid) := by
  refine Tm.okX (ws := ws_read_laid) T.F_read_laid sc_read_laid len_read_laid (fun cdv A outer s H E hr tk po => ?_) pure_read_laid
  have nd := sc_read_laid.nd
  exact s_cons (s_set (i := 1) nd rfl (by first | exact Or.inl rfl | exact Or.inr rfl) (d_lst (i_nil))) (s_cons (s_set (i := 2) nd rfl (by first | exact Or.inl rfl | exact Or.inr rfl) (d_lst (i_nil))) (s_cons (s_set (i := 3) nd rfl (by first | exact Or.inl rfl | exact Or.inr rfl) (d_lst (i_nil))) (s_cons (s_for po rfl (n_L (dv 0)) (g_name (i := 4) nd rfl (by first | exact Or.inl rfl | exact Or.inr rfl)) (s_cons (s_asg (d_call (ok_words_of T) (hr.mono (by decide)) (by rfl) T.m_words_of T.F_words_of.kp T.b_words_of .nil (fun _ _ => .nil) (a_cons (dv 4) (a_nil))) (g_tup rfl (gs_cons (g_name (i := 5) nd rfl (by first | exact Or.inl rfl | exact Or.inr rfl)) (gs_cons (g_name (i := 6) nd rfl (by first | exact Or.inl rfl | exact Or.inr rfl)) (gs_cons (g_name (i := 7) nd rfl (by first | exact Or.inl rfl | exact Or.inr rfl)) (gs_cons (g_name (i := 8) nd rfl (by first | exact Or.inl rfl | exact Or.inr rfl)) (gs_nil))))))) (s_cons (s_if (t_cmp op_inA opd_in (dv 5) (d_tup (i_cons (d_str) (i_cons (d_str) (i_nil)))) (by rfl)) (s_one (s_app (i := 3) (h := d_tup (i_cons (d_B call_len cd_len (by rfl) T.z_len PySem.boot_len (a_cons (dv 1) (a_nil))) (i_cons (d_B call_len cd_len (by rfl) T.z_len PySem.boot_len (a_cons (dv 2) (a_nil))) (i_nil)))))) (s_nil)) (s_cons (s_if (t_cmp (op_neA hr.units) opd_ne (dv 5) (d_str) (nomark _)) (s_one (s_app (i := 1) (h := d_tup (i_cons (dv 6) (i_cons (dv 7) (i_nil)))))) (s_nil)) (s_one (s_if (t_cmp (op_neA hr.units) opd_ne (dv 5) (d_str) (nomark _)) (s_one (s_app (i := 2) (h := d_tup (i_cons (dv 6) (i_cons (dv 8) (i_nil)))))) (s_nil))))))) (s_cons (s_if (DW.t (w_or (t_not (t_val (d_call (ok_is_tree T) (hr.mono (by decide)) (by rfl) T.m_is_tree T.F_is_tree.kp T.b_is_tree .nil (fun _ _ => .nil) (a_cons (dv 1) (a_nil))))) (w_or (t_not (t_val (d_call (ok_is_tree T) (hr.mono (by decide)) (by rfl) T.m_is_tree T.F_is_tree.kp T.b_is_tree .nil (fun _ _ => .nil) (a_cons (dv 2) (a_nil))))) (w_or1 (t_not (t_val (d_call (ok_is_pairing T) (hr.mono (by decide)) (by rfl) T.m_is_pairing T.F_is_pairing.kp T.b_is_pairing .nil (fun _ _ => .nil) (a_cons (dv 1) (a_cons (dv 2) (a_cons (dv 3) (a_nil))))))))))) (s_one (s_raise (n := "NoRows") rfl tk T.x_NoRows (by rfl))) (s_nil)) (s_cons (s_if (t_cmp (op_neA hr.units) opd_ne (d_call (ok_laid_out T) (hr.mono (by decide)) (by rfl) T.m_laid_out T.F_laid_out.kp T.b_laid_out .nil (fun _ _ => .nil) (a_cons (dv 1) (a_cons (dv 2) (a_cons (dv 3) (a_nil))))) (dv 0) (nomark _)) (s_one (s_raise (n := "NoRows") rfl tk T.x_NoRows (by rfl))) (s_nil)) (s_one (s_ret (d_tup (i_cons (dm 1) (i_cons (dm 2) (i_cons (dm 3) (i_nil))))))))))))
theorem ok__law_cell_at (T : Txt K mg) : FnOk P w K mg base CX0 1 T.a__law_cell_at T.fd__law_cell_at P__law_cell_at (spD K spec__law_cell_at) := by
  refine okD (ws := ws__law_cell_at) T.F__law_cell_at sc__law_cell_at len__law_cell_at (fun cdv A outer s H E hr => ?_) pure__law_cell_at
  have nd := sc__law_cell_at.nd
  exact s_cons (s_if (t_cmp op_lt opd_lt (dv 1) (d_B call_len cd_len (by rfl) T.z_len PySem.boot_len (a_cons (dv 0) (a_nil))) (nomark _)) (s_one (s_ret (d_ix (dv 0) (dv 1)))) (s_nil)) (s_one (s_ret (d_int)))
theorem ok__law_word (T : Txt K mg) : FnOk P w K mg base CX0 1 T.a__law_word T.fd__law_word P__law_word (spD K spec__law_word) := by
  refine okD (ws := ws__law_word) T.F__law_word sc__law_word len__law_word (fun cdv A outer s H E hr => ?_) pure__law_word
  have nd := sc__law_word.nd
  exact s_cons (s_if (t_cmp (op_eqA hr.units) opd_eq (d_op op_mod opd_mod (dv 0) (d_int)) (d_int) (nomark _)) (s_one (s_ret (d_ix (d_lst (i_cons (d_str) (i_cons (d_str) (i_cons (d_str) (i_cons (d_str) (i_nil)))))) (d_op op_mod opd_mod (d_op op_fdivB opd_fdiv (dv 0) (d_int)) (d_int))))) (s_nil)) (s_cons (s_set (i := 1) nd rfl (by first | exact Or.inl rfl | exact Or.inr rfl) (d_str)) (s_cons (s_set (i := 2) nd rfl (by first | exact Or.inl rfl | exact Or.inr rfl) (d_str)) (s_cons (s_set (i := 3) nd rfl (by first | exact Or.inl rfl | exact Or.inr rfl) (d_op op_fdivB opd_fdiv (dv 0) (d_int))) (s_cons (s_for PassesOwn.never rfl (n_1 (by rfl) T.z_range (a_cons (d_op op_addA opd_add (d_int) (d_op op_mod opd_mod (d_op op_fdivB opd_fdiv (dv 0) (d_int)) (d_int))) (a_nil))) (g_name (i := 4) nd rfl (by first | exact Or.inl rfl | exact Or.inr rfl)) (s_cons (s_set (i := 2) nd rfl (by first | exact Or.inl rfl | exact Or.inr rfl) (d_op op_addA opd_add (dv 2) (d_ix (dv 1) (d_op op_mod opd_mod (dv 3) (d_int))))) (s_one (s_set (i := 3) nd rfl (by first | exact Or.inl rfl | exact Or.inr rfl) (d_op op_mod opd_mod (d_op op_mulA opd_mul (d_op op_addA opd_add (d_op op_addA opd_add (d_op op_fdivB opd_fdiv (dv 3) (d_int)) (d_op op_mulA opd_mul (d_int) (dv 4))) (d_int)) (d_int)) (d_int)))))) (s_one (s_ret (dm 2)))))))
theorem ok__law_tree (T : Txt K mg) : FnOk P w K mg base CX0 2 T.a__law_tree T.fd__law_tree P__law_tree (spD K spec__law_tree) := by
  refine okD (ws := ws__law_tree) T.F__law_tree sc__law_tree len__law_tree (fun cdv A outer s H E hr => ?_) pure__law_tree
  have nd := sc__law_tree.nd
  exact s_cons (s_set (i := 2) nd rfl (by first | exact Or.inl rfl | exact Or.inr rfl) (d_lst (i_cons (d_tup (i_cons (d_int) (i_cons (d_str) (i_nil)))) (i_nil)))) (s_cons (s_for PassesOwn.never rfl (n_1 (by rfl) T.z_range (a_cons (d_B (call_min2 rfl) cd_min2 (by rfl) T.z_min PyProof.Rows.boot_min (a_cons (d_B call_len cd_len (by rfl) T.z_len PySem.boot_len (a_cons (dv 0) (a_nil))) (a_cons (dv 1) (a_nil)))) (a_nil))) (g_name (i := 3) nd rfl (by first | exact Or.inl rfl | exact Or.inr rfl)) (s_cons (s_set (i := 4) nd rfl (by first | exact Or.inl rfl | exact Or.inr rfl) (d_op op_mod opd_mod (d_op op_mulA opd_mul (d_ix (dv 0) (dv 3)) (d_int)) (d_int))) (s_cons (s_set (i := 5) nd rfl (by first | exact Or.inl rfl | exact Or.inr rfl) (d_call (ok__law_word T) (hr.mono (by decide)) (by rfl) T.m__law_word T.F__law_word.kp T.b__law_word .nil (fun _ _ => .nil) (a_cons (d_op op_mod opd_mod (d_op op_mulA opd_mul (d_ix (dv 0) (dv 3)) (d_int)) (d_int)) (a_nil)))) (s_one (s_if (t_cmp (op_eqA hr.units) opd_eq (dv 3) (d_int) (nomark _)) (s_one (s_set (i := 2) nd rfl (by first | exact Or.inl rfl | exact Or.inr rfl) (d_lst (i_cons (d_tup (i_cons (d_int) (i_cons (dv 5) (i_nil)))) (i_nil))))) (s_one (s_app (i := 2) (h := d_tup (i_cons (d_op op_addA opd_add (d_int) (d_op op_mod opd_mod (d_op op_fdivB opd_fdiv (dv 4) (d_int)) (d_op op_addA opd_add (d_B (call_min2 rfl) cd_min2 (by rfl) T.z_min PyProof.Rows.boot_min (a_cons (d_ix (d_ix (dv 2) (d_un un_neg und_neg (d_int))) (d_int)) (a_cons (d_int) (a_nil)))) (d_int)))) (i_cons (dv 5) (i_nil))))))))))) (s_one (s_ret (dm 2))))
theorem ok__law_end (T : Txt K mg) : FnOk P w K mg base CX0 1 T.a__law_end T.fd__law_end P__law_end (spD K spec__law_end) := by
  refine okD (ws := ws__law_end) T.F__law_end sc__law_end len__law_end (fun cdv A outer s H E hr => ?_) pure__law_end
  have nd := sc__law_end.nd
  exact s_cons (s_set (i := 2) nd rfl (by first | exact Or.inl rfl | exact Or.inr rfl) (d_op op_addA opd_add (dv 1) (d_int))) (s_cons (s_while PassesOwn.never (DW.t (w_and (t_cmp op_lt opd_lt (dv 2) (d_B call_len cd_len (by rfl) T.z_len PySem.boot_len (a_cons (dv 0) (a_nil))) (nomark _)) (w_and1 (t_cmp op_gt opd_gt (d_ix (d_ix (dv 0) (dv 2)) (d_int)) (d_ix (d_ix (dv 0) (dv 1)) (d_int)) (nomark _))))) (s_one (s_set (i := 2) nd rfl (by first | exact Or.inl rfl | exact Or.inr rfl) (d_op op_addA opd_add (dv 2) (d_int))))) (s_one (s_ret (dm 2))))
theorem ok__law_changed (T : Txt K mg) : FnOk P w K mg base CX0 2 T.a__law_changed T.fd__law_changed P__law_changed (spD K spec__law_changed) := by
  refine okD (ws := ws__law_changed) T.F__law_changed sc__law_changed len__law_changed (fun cdv A outer s H E hr => ?_) pure__law_changed
  have nd := sc__law_changed.nd
  exact s_cons (s_for PassesOwn.never rfl (n_L (dv 1)) (g_name (i := 3) nd rfl (by first | exact Or.inl rfl | exact Or.inr rfl)) (s_cons (s_set (i := 4) nd rfl (by first | exact Or.inl rfl | exact Or.inr rfl) (d_op op_mod opd_mod (d_op op_mulA opd_mul (dv 3) (d_int)) (d_int))) (s_cons (s_set (i := 5) nd rfl (by first | exact Or.inl rfl | exact Or.inr rfl) (d_op op_mod opd_mod (d_op op_fdivB opd_fdiv (dv 4) (d_int)) (d_B call_len cd_len (by rfl) T.z_len PySem.boot_len (a_cons (dv 0) (a_nil))))) (s_cons (s_set (i := 6) nd rfl (by first | exact Or.inl rfl | exact Or.inr rfl) (d_ix (d_ix (dv 0) (dv 5)) (d_int))) (s_cons (s_set (i := 7) nd rfl (by first | exact Or.inl rfl | exact Or.inr rfl) (d_tup (i_cons (dv 6) (i_cons (d_call (ok__law_word T) (hr.mono (by decide)) (by rfl) T.m__law_word T.F__law_word.kp T.b__law_word .nil (fun _ _ => .nil) (a_cons (d_op op_mod opd_mod (d_op op_mulA opd_mul (dv 3) (d_int)) (d_int)) (a_nil))) (i_nil))))) (s_one (s_if (t_cmp (op_eqA hr.units) opd_eq (d_op op_mod opd_mod (dv 4) (d_int)) (d_int) (nomark _)) (s_one (s_set (i := 0) nd rfl (by first | exact Or.inl rfl | exact Or.inr rfl) (d_op op_addA opd_add (d_op op_addA opd_add (d_sl (dv 0) (o_none) (o_some (dv 5))) (d_lst (i_cons (dv 7) (i_nil)))) (d_sl (dv 0) (o_some (d_op op_addA opd_add (dv 5) (d_int))) (o_none))))) (s_one (s_if (DW.t (w_and (t_cmp (op_eqA hr.units) opd_eq (d_op op_mod opd_mod (dv 4) (d_int)) (d_int) (nomark _)) (w_and1 (t_cmp op_gt opd_gt (dv 5) (d_int) (nomark _))))) (s_one (s_set (i := 0) nd rfl (by first | exact Or.inl rfl | exact Or.inr rfl) (d_op op_addA opd_add (d_sl (dv 0) (o_none) (o_some (dv 5))) (d_sl (dv 0) (o_some (d_call (ok__law_end T) (hr.mono (by decide)) (by rfl) T.m__law_end T.F__law_end.kp T.b__law_end .nil (fun _ _ => .nil) (a_cons (dv 0) (a_cons (dv 5) (a_nil))))) (o_none))))) (s_one (s_if (DW.t (w_and (t_cmp (op_eqA hr.units) opd_eq (d_op op_mod opd_mod (dv 4) (d_int)) (d_int) (nomark _)) (w_and (t_cmp op_lt opd_lt (dv 6) (d_int) (nomark _)) (w_and1 (t_cmp op_lt opd_lt (d_B call_len cd_len (by rfl) T.z_len PySem.boot_len (a_cons (dv 0) (a_nil))) (dv 2) (nomark _)))))) (s_one (s_set (i := 0) nd rfl (by first | exact Or.inl rfl | exact Or.inr rfl) (d_op op_addA opd_add (d_op op_addA opd_add (d_sl (dv 0) (o_none) (o_some (d_op op_addA opd_add (dv 5) (d_int)))) (d_lst (i_cons (d_tup (i_cons (d_op op_addA opd_add (dv 6) (d_int)) (i_cons (d_ix (dv 7) (d_int)) (i_nil)))) (i_nil)))) (d_sl (dv 0) (o_some (d_op op_addA opd_add (dv 5) (d_int))) (o_none))))) (s_one (s_if (DW.t (w_and (t_cmp op_gt opd_gt (dv 5) (d_int) (nomark _)) (w_and1 (t_cmp op_lt opd_lt (d_B call_len cd_len (by rfl) T.z_len PySem.boot_len (a_cons (dv 0) (a_nil))) (dv 2) (nomark _))))) (s_one (s_set (i := 0) nd rfl (by first | exact Or.inl rfl | exact Or.inr rfl) (d_op op_addA opd_add (d_op op_addA opd_add (d_sl (dv 0) (o_none) (o_some (dv 5))) (d_lst (i_cons (dv 7) (i_nil)))) (d_sl (dv 0) (o_some (dv 5)) (o_none))))) (s_nil)))))))))))))) (s_one (s_ret (dm 0)))
theorem ok__law_young (T : Txt K mg) : FnOk P w K mg base CX0 2 T.a__law_young T.fd__law_young P__law_young (spD K spec__law_young) := by
  refine okD (ws := ws__law_young) T.F__law_young sc__law_young len__law_young (fun cdv A outer s H E hr => ?_) pure__law_young
  have nd := sc__law_young.nd
  exact s_cons (s_set (i := 2) nd rfl (by first | exact Or.inl rfl | exact Or.inr rfl) (d_op op_addA opd_add (d_ix (d_ix (dv 0) (dv 1)) (d_int)) (d_int))) (s_one (s_ret (d_lcIf (own := [("there", 3)]) (g := gName 3) rfl nd (n_2 (by rfl) T.z_range (a_cons (d_op op_addA opd_add (dv 1) (d_int)) (a_cons (d_call (ok__law_end T) (hr.mono (by decide)) (by rfl) T.m__law_end T.F__law_end.kp T.b__law_end .nil (fun _ _ => .nil) (a_cons (dv 0) (a_cons (dv 1) (a_nil)))) (a_nil)))) (blkOk_by (own := [("there", 3)]) (N := N__law_young) (sc := defScope s__law_young) (by decide +kernel)) (fun _ _ _ _ _ => c_name nd rfl (by first | exact Or.inl rfl | exact Or.inr rfl) (by decide)) (fun _ _ _ _ _ => t_cmp (op_eqA hr.units) opd_eq (d_ix (d_ix (dv 0) (dv 3)) (d_int)) (dv 2) (nomark _)) (fun _ _ _ _ _ => dv 3))))
theorem ok__law_draw (T : Txt K mg) : FnOk P w K mg base CX0 1 T.a__law_draw T.fd__law_draw P__law_draw (spD K spec__law_draw) := by
  refine okD (ws := ws__law_draw) T.F__law_draw sc__law_draw len__law_draw (fun cdv A outer s H E hr => ?_) pure__law_draw
  have nd := sc__law_draw.nd
  exact s_cons (s_if (t_cmp (op_eqA hr.units) opd_eq (d_B call_len cd_len (by rfl) T.z_len PySem.boot_len (a_cons (dv 0) (a_nil))) (d_int) (nomark _)) (s_one (s_ret (d_int))) (s_nil)) (s_one (s_ret (d_op op_fdivB opd_fdiv (d_op op_mod opd_mod (d_op op_mulA opd_mul (d_op op_addA opd_add (d_ix (dv 0) (d_op op_mod opd_mod (dv 1) (d_B call_len cd_len (by rfl) T.z_len PySem.boot_len (a_cons (dv 0) (a_nil))))) (d_op op_mulA opd_mul (dv 1) (dv 1))) (d_int)) (d_int)) (d_int))))
theorem ok__law_pairing (T : Txt K mg) : FnOk P w K mg base CX0 3 T.a__law_pairing T.fd__law_pairing P__law_pairing (spD K spec__law_pairing) := by
  refine okD (ws := ws__law_pairing) T.F__law_pairing sc__law_pairing len__law_pairing (fun cdv A outer s H E hr => ?_) pure__law_pairing
  have nd := sc__law_pairing.nd
  exact s_cons (s_set (i := 3) nd rfl (by first | exact Or.inl rfl | exact Or.inr rfl) (d_lst (i_cons (d_tup (i_cons (d_int) (i_cons (d_int) (i_nil)))) (i_nil)))) (s_cons (s_set (i := 4) nd rfl (by first | exact Or.inl rfl | exact Or.inr rfl) (d_int)) (s_cons (s_set (i := 5) nd rfl (by first | exact Or.inl rfl | exact Or.inr rfl) (d_int)) (s_cons (s_while PassesOwn.never (t_cmp op_lt opd_lt (dv 5) (d_B call_len cd_len (by rfl) T.z_len PySem.boot_len (a_cons (dv 3) (a_nil))) (nomark _)) (s_cons (s_set (i := 6) nd rfl (by first | exact Or.inl rfl | exact Or.inr rfl) (d_call (ok__law_young T) (hr.mono (by decide)) (by rfl) T.m__law_young T.F__law_young.kp T.b__law_young .nil (fun _ _ => .nil) (a_cons (dv 0) (a_cons (d_ix (d_ix (dv 3) (dv 5)) (d_int)) (a_nil))))) (s_cons (s_set (i := 7) nd rfl (by first | exact Or.inl rfl | exact Or.inr rfl) (d_call (ok__law_young T) (hr.mono (by decide)) (by rfl) T.m__law_young T.F__law_young.kp T.b__law_young .nil (fun _ _ => .nil) (a_cons (dv 1) (a_cons (d_ix (d_ix (dv 3) (dv 5)) (d_int)) (a_nil))))) (s_cons (s_set (i := 8) nd rfl (by first | exact Or.inl rfl | exact Or.inr rfl) (d_int)) (s_cons (s_set (i := 9) nd rfl (by first | exact Or.inl rfl | exact Or.inr rfl) (d_int)) (s_cons (s_while PassesOwn.never (DW.t (w_and (t_cmp op_lt opd_lt (dv 8) (d_B call_len cd_len (by rfl) T.z_len PySem.boot_len (a_cons (dv 6) (a_nil))) (nomark _)) (w_and1 (t_cmp op_lt opd_lt (dv 9) (d_B call_len cd_len (by rfl) T.z_len PySem.boot_len (a_cons (dv 7) (a_nil))) (nomark _))))) (s_cons (s_set (i := 10) nd rfl (by first | exact Or.inl rfl | exact Or.inr rfl) (d_op op_mod opd_mod (d_call (ok__law_draw T) (hr.mono (by decide)) (by rfl) T.m__law_draw T.F__law_draw.kp T.b__law_draw .nil (fun _ _ => .nil) (a_cons (dv 2) (a_cons (dv 4) (a_nil)))) (d_int))) (s_cons (s_set (i := 4) nd rfl (by first | exact Or.inl rfl | exact Or.inr rfl) (d_op op_addA opd_add (dv 4) (d_int))) (s_cons (s_if (t_cmp op_lt opd_lt (dv 10) (d_int) (nomark _)) (s_one (s_app (i := 3) (h := d_tup (i_cons (d_ix (dv 6) (dv 8)) (i_cons (d_ix (dv 7) (dv 9)) (i_nil)))))) (s_nil)) (s_cons (s_set (i := 8) nd rfl (by first | exact Or.inl rfl | exact Or.inr rfl) (d_op op_addA opd_add (dv 8) (d_BT call_int1 cd_int (by rfl) T.z_int PyProof.Rows.boot_int (a_cons (d_cmp (op_neA hr.units) opd_ne (dv 10) (d_int) (nomark _)) (a_nil))))) (s_one (s_set (i := 9) nd rfl (by first | exact Or.inl rfl | exact Or.inr rfl) (d_op op_addA opd_add (dv 9) (d_BT call_int1 cd_int (by rfl) T.z_int PyProof.Rows.boot_int (a_cons (d_cmp (op_neA hr.units) opd_ne (dv 10) (d_int) (nomark _)) (a_nil))))))))))) (s_one (s_set (i := 5) nd rfl (by first | exact Or.inl rfl | exact Or.inr rfl) (d_op op_addA opd_add (dv 5) (d_int)))))))))) (s_one (s_ret (d_B cr_sortedPO cd_sortP (by rfl) T.z_sorted PyProof.Rows.boot_sorted (a_cons (dv 3) (a_nil))))))))
theorem ok__law_laid (T : Txt K mg) : FnOk P w K mg base CX0 1 T.a__law_laid T.fd__law_laid P__law_laid (spD K spec__law_laid) := by
  refine okD (ws := ws__law_laid) T.F__law_laid sc__law_laid len__law_laid (fun cdv A outer s H E hr => ?_) pure__law_laid
  have nd := sc__law_laid.nd
  exact s_cons (s_set (i := 3) nd rfl (by first | exact Or.inl rfl | exact Or.inr rfl) (d_lst (i_nil))) (s_cons (s_for PassesOwn.never rfl (n_1 (by rfl) T.z_range (a_cons (d_B call_len cd_len (by rfl) T.z_len PySem.boot_len (a_cons (dv 2) (a_nil))) (a_nil))) (g_name (i := 4) nd rfl (by first | exact Or.inl rfl | exact Or.inr rfl)) (s_cons (s_asg (d_ix (dv 2) (dv 4)) (g_tup rfl (gs_cons (g_name (i := 5) nd rfl (by first | exact Or.inl rfl | exact Or.inr rfl)) (gs_cons (g_name (i := 6) nd rfl (by first | exact Or.inl rfl | exact Or.inr rfl)) (gs_nil))))) (s_cons (s_set (i := 7) nd rfl (by first | exact Or.inl rfl | exact Or.inr rfl) (d_ix (d_op op_addA opd_add (dv 2) (d_lst (i_cons (d_tup (i_cons (d_B call_len cd_len (by rfl) T.z_len PySem.boot_len (a_cons (dv 0) (a_nil))) (i_cons (d_B call_len cd_len (by rfl) T.z_len PySem.boot_len (a_cons (dv 1) (a_nil))) (i_nil)))) (i_nil)))) (d_op op_addA opd_add (dv 4) (d_int)))) (s_cons (s_set (i := 8) nd rfl (by first | exact Or.inl rfl | exact Or.inr rfl) (d_op op_addA opd_add (d_op op_addA opd_add (d_str) (d_op op_mulA opd_mul (d_str) (d_ix (d_ix (dv 0) (dv 5)) (d_int)))) (d_ix (d_ix (dv 0) (dv 5)) (d_int)))) (s_cut (s_if (t_cmp (op_neA hr.units) opd_ne (d_ix (d_ix (dv 0) (dv 5)) (d_int)) (d_ix (d_ix (dv 1) (dv 6)) (d_int)) (nomark _)) (s_one (s_set (i := 8) nd rfl (by first | exact Or.inl rfl | exact Or.inr rfl) (d_op op_addA opd_add (d_op op_addA opd_add (d_op op_addA opd_add (d_str) (d_sl (dv 8) (o_some (d_int)) (o_none))) (d_str)) (d_ix (d_ix (dv 1) (dv 6)) (d_int))))) (s_nil)) (s_cons (s_app (i := 3) (h := dv 8)) (s_cons (s_for PassesOwn.never rfl (n_2 (by rfl) T.z_range (a_cons (d_op op_addA opd_add (dv 5) (d_int)) (a_cons (d_ix (dv 7) (d_int)) (a_nil)))) (g_name (i := 9) nd rfl (by first | exact Or.inl rfl | exact Or.inr rfl)) (s_one (s_app (i := 3) (h := d_op op_addA opd_add (d_op op_addA opd_add (d_str) (d_op op_mulA opd_mul (d_str) (d_ix (d_ix (dv 0) (dv 9)) (d_int)))) (d_ix (d_ix (dv 0) (dv 9)) (d_int)))))) (s_one (s_for PassesOwn.never rfl (n_2 (by rfl) T.z_range (a_cons (d_op op_addA opd_add (dv 6) (d_int)) (a_cons (d_ix (dv 7) (d_int)) (a_nil)))) (g_name (i := 9) nd rfl (by first | exact Or.inl rfl | exact Or.inr rfl)) (s_one (s_app (i := 3) (h := d_op op_addA opd_add (d_op op_addA opd_add (d_str) (d_op op_mulA opd_mul (d_str) (d_ix (d_ix (dv 1) (dv 9)) (d_int)))) (d_ix (d_ix (dv 1) (dv 9)) (d_int)))))))))))))) (s_one (s_ret (dm 3))))
theorem ok__law_elder (T : Txt K mg) : FnOk P w K mg base CX0 1 T.a__law_elder T.fd__law_elder P__law_elder (spD K spec__law_elder) := by
  refine okD (ws := ws__law_elder) T.F__law_elder sc__law_elder len__law_elder (fun cdv A outer s H E hr => ?_) pure__law_elder
  have nd := sc__law_elder.nd
  exact s_cons (s_for PassesOwn.never rfl (n_3 (by rfl) T.z_range (a_cons (d_op op_sub opd_sub (dv 1) (d_int)) (a_cons (d_un un_neg und_neg (d_int)) (a_cons (d_un un_neg und_neg (d_int)) (a_nil))))) (g_name (i := 2) nd rfl (by first | exact Or.inl rfl | exact Or.inr rfl)) (s_one (s_if (t_cmp op_lt opd_lt (d_ix (d_ix (dv 0) (dv 2)) (d_int)) (d_ix (d_ix (dv 0) (dv 1)) (d_int)) (nomark _)) (s_one (s_ret (dm 2))) (s_nil)))) (s_one (s_ret (d_un un_neg und_neg (d_int))))
theorem ok__law_is_tree (T : Txt K mg) : FnOk P w K mg base CX0 1 T.a__law_is_tree T.fd__law_is_tree P__law_is_tree (spD K spec__law_is_tree) := by
  refine okD (ws := ws__law_is_tree) T.F__law_is_tree sc__law_is_tree len__law_is_tree (fun cdv A outer s H E hr => ?_) pure__law_is_tree
  have nd := sc__law_is_tree.nd
  exact s_cons (s_if (DW.t (w_or (t_cmp (op_eqA hr.units) opd_eq (d_B call_len cd_len (by rfl) T.z_len PySem.boot_len (a_cons (dv 0) (a_nil))) (d_int) (nomark _)) (w_or (t_cmp op_gt opd_gt (d_B call_len cd_len (by rfl) T.z_len PySem.boot_len (a_cons (dv 0) (a_nil))) (d_int) (nomark _)) (w_or1 (t_cmp (op_neA hr.units) opd_ne (d_ix (d_ix (dv 0) (d_int)) (d_int)) (d_int) (nomark _)))))) (s_one (s_ret (d_bl))) (s_nil)) (s_cons (s_for PassesOwn.never rfl (n_1 (by rfl) T.z_range (a_cons (d_B call_len cd_len (by rfl) T.z_len PySem.boot_len (a_cons (dv 0) (a_nil))) (a_nil))) (g_name (i := 1) nd rfl (by first | exact Or.inl rfl | exact Or.inr rfl)) (s_cons (s_asg (d_ix (dv 0) (dv 1)) (g_tup rfl (gs_cons (g_name (i := 2) nd rfl (by first | exact Or.inl rfl | exact Or.inr rfl)) (gs_cons (g_name (i := 3) nd rfl (by first | exact Or.inl rfl | exact Or.inr rfl)) (gs_nil))))) (s_cons (s_if (DW.t (w_or (DW.t (w_and (t_cmp op_gt opd_gt (dv 1) (d_int) (nomark _)) (w_and1 (DW.t (w_or (t_cmp op_lt opd_lt (dv 2) (d_int) (nomark _)) (w_or1 (t_cmp op_gt opd_gt (dv 2) (d_op op_addA opd_add (d_ix (d_ix (dv 0) (d_op op_sub opd_sub (dv 1) (d_int))) (d_int)) (d_int)) (nomark _)))))))) (w_or (t_cmp op_gt opd_gt (dv 2) (d_int) (nomark _)) (w_or (t_cmp op_lt opd_lt (d_B call_len cd_len (by rfl) T.z_len PySem.boot_len (a_cons (dv 3) (a_nil))) (d_int) (nomark _)) (w_or1 (t_cmp op_gt opd_gt (d_B call_len cd_len (by rfl) T.z_len PySem.boot_len (a_cons (dv 3) (a_nil))) (d_int) (nomark _))))))) (s_one (s_ret (d_bl))) (s_nil)) (s_one (s_if (t_cmp (op_neA hr.units) opd_ne (d_lcIf (own := [("sign", 4)]) (g := gName 4) rfl nd (n_S (dv 3)) (blkOk_by (own := [("sign", 4)]) (N := N__law_is_tree) (sc := defScope s__law_is_tree) (by decide +kernel)) (fun _ _ _ _ _ => c_name nd rfl (by first | exact Or.inl rfl | exact Or.inr rfl) (by decide)) (fun _ _ _ _ _ => t_cmp op_notInA opd_notIn (dv 4) (d_str) (by rfl)) (fun _ _ _ _ _ => dv 4)) (d_lst (i_nil)) (nomark _)) (s_one (s_ret (d_bl))) (s_nil)))))) (s_one (s_ret (d_bl))))
theorem ok__law_words (T : Txt K mg) : FnOk P w K mg base CX0 1 T.a__law_words T.fd__law_words P__law_words (spD K spec__law_words) := by
  refine okD (ws := ws__law_words) T.F__law_words sc__law_words len__law_words (fun cdv A outer s H E hr => ?_) pure__law_words
  have nd := sc__law_words.nd
  exact s_cons (s_set (i := 1) nd rfl (by first | exact Or.inl rfl | exact Or.inr rfl) (d_int)) (s_cons (s_while PassesOwn.never (DW.t (w_and (t_cmp op_lt opd_lt (d_op op_addA opd_add (dv 1) (d_int)) (d_B call_len cd_len (by rfl) T.z_len PySem.boot_len (a_cons (dv 0) (a_nil))) (nomark _)) (w_and1 (t_cmp (op_eqA hr.units) opd_eq (d_ix (dv 0) (d_op op_addA opd_add (dv 1) (d_int))) (d_str) (nomark _))))) (s_one (s_set (i := 1) nd rfl (by first | exact Or.inl rfl | exact Or.inr rfl) (d_op op_addA opd_add (dv 1) (d_int))))) (s_cons (s_set (i := 2) nd rfl (by first | exact Or.inl rfl | exact Or.inr rfl) (d_sl (dv 0) (o_some (d_op op_addA opd_add (dv 1) (d_int))) (o_none))) (s_cons (s_set (i := 3) nd rfl (by first | exact Or.inl rfl | exact Or.inr rfl) (dv 2)) (s_cons (s_set (i := 4) nd rfl (by first | exact Or.inl rfl | exact Or.inr rfl) (dv 2)) (s_cons (s_if (t_cmp (op_eqA hr.units) opd_eq (d_sl (dv 0) (o_none) (o_some (d_int))) (d_str) (nomark _)) (s_cons (s_set (i := 5) nd rfl (by first | exact Or.inl rfl | exact Or.inr rfl) (d_find (dv 2) (d_str))) (s_cons (s_set (i := 3) nd rfl (by first | exact Or.inl rfl | exact Or.inr rfl) (d_sl (dv 2) (o_none) (o_some (d_B (call_max2 rfl) cd_max2 (by rfl) T.z_max PyProof.Rows.boot_max (a_cons (dv 5) (a_cons (d_int) (a_nil))))))) (s_one (s_set (i := 4) nd rfl (by first | exact Or.inl rfl | exact Or.inr rfl) (d_sl (dv 2) (o_some (d_op op_addA opd_add (dv 5) (d_int))) (o_none)))))) (s_nil)) (s_one (s_ret (d_lst (i_cons (d_tup (i_cons (d_op op_fdivB opd_fdiv (dv 1) (d_int)) (i_cons (dv 3) (i_nil)))) (i_cons (d_tup (i_cons (d_op op_fdivB opd_fdiv (dv 1) (d_int)) (i_cons (dv 4) (i_nil)))) (i_nil)))))))))))
theorem ok__law_due (T : Txt K mg) : FnOk P w K mg base CX0 2 T.a__law_due T.fd__law_due P__law_due (spD K spec__law_due) := by
  refine okD (ws := ws__law_due) T.F__law_due sc__law_due len__law_due (fun cdv A outer s H E hr => ?_) pure__law_due
  have nd := sc__law_due.nd
  exact s_cons (s_set (i := 1) nd rfl (by first | exact Or.inl rfl | exact Or.inr rfl) (d_lst (i_nil))) (s_cons (s_set (i := 2) nd rfl (by first | exact Or.inl rfl | exact Or.inr rfl) (d_lst (i_nil))) (s_cons (s_set (i := 3) nd rfl (by first | exact Or.inl rfl | exact Or.inr rfl) (d_lst (i_nil))) (s_cons (s_for PassesOwn.never rfl (n_L (dv 0)) (g_name (i := 4) nd rfl (by first | exact Or.inl rfl | exact Or.inr rfl)) (s_cons (s_if (t_cmp op_notInA opd_notIn (d_sl (dv 4) (o_none) (o_some (d_int))) (d_tup (i_cons (d_str) (i_cons (d_str) (i_cons (d_str) (i_cons (d_str) (i_nil)))))) (by rfl)) (s_one (s_ret (d_non))) (s_nil)) (s_cons (s_if (t_cmp op_inA opd_in (d_sl (dv 4) (o_none) (o_some (d_int))) (d_tup (i_cons (d_str) (i_cons (d_str) (i_nil)))) (by rfl)) (s_one (s_app (i := 3) (h := d_tup (i_cons (d_B call_len cd_len (by rfl) T.z_len PySem.boot_len (a_cons (dv 1) (a_nil))) (i_cons (d_B call_len cd_len (by rfl) T.z_len PySem.boot_len (a_cons (dv 2) (a_nil))) (i_nil)))))) (s_nil)) (s_cons (s_if (t_cmp (op_neA hr.units) opd_ne (d_sl (dv 4) (o_none) (o_some (d_int))) (d_str) (nomark _)) (s_one (s_app (i := 1) (h := d_ix (d_call (ok__law_words T) (hr.mono (by decide)) (by rfl) T.m__law_words T.F__law_words.kp T.b__law_words .nil (fun _ _ => .nil) (a_cons (dv 4) (a_nil))) (d_int)))) (s_nil)) (s_one (s_if (t_cmp (op_neA hr.units) opd_ne (d_sl (dv 4) (o_none) (o_some (d_int))) (d_str) (nomark _)) (s_one (s_app (i := 2) (h := d_ix (d_call (ok__law_words T) (hr.mono (by decide)) (by rfl) T.m__law_words T.F__law_words.kp T.b__law_words .nil (fun _ _ => .nil) (a_cons (dv 4) (a_nil))) (d_int)))) (s_nil))))))) (s_cons (s_if (DW.t (w_or (t_not (t_val (d_call (ok__law_is_tree T) (hr.mono (by decide)) (by rfl) T.m__law_is_tree T.F__law_is_tree.kp T.b__law_is_tree .nil (fun _ _ => .nil) (a_cons (dv 1) (a_nil))))) (w_or (t_not (t_val (d_call (ok__law_is_tree T) (hr.mono (by decide)) (by rfl) T.m__law_is_tree T.F__law_is_tree.kp T.b__law_is_tree .nil (fun _ _ => .nil) (a_cons (dv 2) (a_nil))))) (w_or1 (t_cmp (op_neA hr.units) opd_ne (d_sl (dv 3) (o_none) (o_some (d_int))) (d_lst (i_cons (d_tup (i_cons (d_int) (i_cons (d_int) (i_nil)))) (i_nil))) (nomark _)))))) (s_one (s_ret (d_non))) (s_nil)) (s_cons (s_for PassesOwn.never rfl (n_2 (by rfl) T.z_range (a_cons (d_int) (a_cons (d_B call_len cd_len (by rfl) T.z_len PySem.boot_len (a_cons (dv 3) (a_nil))) (a_nil)))) (g_name (i := 5) nd rfl (by first | exact Or.inl rfl | exact Or.inr rfl)) (s_cons (s_asg (d_ix (dv 3) (dv 5)) (g_tup rfl (gs_cons (g_name (i := 6) nd rfl (by first | exact Or.inl rfl | exact Or.inr rfl)) (gs_cons (g_name (i := 7) nd rfl (by first | exact Or.inl rfl | exact Or.inr rfl)) (gs_nil))))) (s_one (s_if (t_cmp (op_notInD (units65 hr)) opd_notInD (d_tup (i_cons (d_call (ok__law_elder T) (hr.mono (by decide)) (by rfl) T.m__law_elder T.F__law_elder.kp T.b__law_elder .nil (fun _ _ => .nil) (a_cons (dv 1) (a_cons (dv 6) (a_nil)))) (i_cons (d_call (ok__law_elder T) (hr.mono (by decide)) (by rfl) T.m__law_elder T.F__law_elder.kp T.b__law_elder .nil (fun _ _ => .nil) (a_cons (dv 2) (a_cons (dv 7) (a_nil)))) (i_nil)))) (d_sl (dv 3) (o_none) (o_some (dv 5))) (by rfl)) (s_one (s_ret (d_non))) (s_nil))))) (s_cons (s_if (t_cmp (op_neA hr.units) opd_ne (d_call (ok__law_laid T) (hr.mono (by decide)) (by rfl) T.m__law_laid T.F__law_laid.kp T.b__law_laid .nil (fun _ _ => .nil) (a_cons (dv 1) (a_cons (dv 2) (a_cons (dv 3) (a_nil))))) (dv 0) (nomark _)) (s_one (s_ret (d_non))) (s_nil)) (s_one (s_ret (d_tup (i_cons (dm 1) (i_cons (dm 2) (i_cons (dm 3) (i_nil)))))))))))))
theorem ok__law_row (T : Txt K mg) : FnOk P w K mg base CX0 1 T.a__law_row T.fd__law_row P__law_row (spD K spec__law_row) := by
  refine okD (ws := ws__law_row) T.F__law_row sc__law_row len__law_row (fun cdv A outer s H E hr => ?_) pure__law_row
  have nd := sc__law_row.nd
  exact s_cons (s_set (i := 2) nd rfl (by first | exact Or.inl rfl | exact Or.inr rfl) (d_str)) (s_cons (s_set (i := 3) nd rfl (by first | exact Or.inl rfl | exact Or.inr rfl) (d_op op_mod opd_mod (d_op op_fdivB opd_fdiv (dv 1) (d_int)) (d_op op_addA opd_add (d_B call_len cd_len (by rfl) T.z_len PySem.boot_len (a_cons (dv 0) (a_nil))) (d_int)))) (s_cons (s_if (t_cmp (op_eqA hr.units) opd_eq (d_op op_mod opd_mod (dv 1) (d_int)) (d_int) (nomark _)) (s_one (s_ret (d_op op_addA opd_add (d_ix (dv 2) (d_op op_mod opd_mod (d_op op_fdivB opd_fdiv (dv 1) (d_int)) (d_B call_len cd_len (by rfl) T.z_len PySem.boot_len (a_cons (dv 2) (a_nil))))) (d_sl (dv 0) (o_some (d_int)) (o_none))))) (s_nil)) (s_cons (s_if (t_cmp (op_eqA hr.units) opd_eq (d_op op_mod opd_mod (dv 1) (d_int)) (d_int) (nomark _)) (s_one (s_ret (d_op op_addA opd_add (d_op op_addA opd_add (d_sl (dv 0) (o_none) (o_some (dv 3))) (d_str)) (d_sl (dv 0) (o_some (dv 3)) (o_none))))) (s_nil)) (s_cons (s_if (t_cmp (op_eqA hr.units) opd_eq (d_op op_mod opd_mod (dv 1) (d_int)) (d_int) (nomark _)) (s_one (s_ret (d_op op_addA opd_add (d_sl (dv 0) (o_none) (o_some (dv 3))) (d_sl (dv 0) (o_some (d_op op_addA opd_add (dv 3) (d_int))) (o_none))))) (s_nil)) (s_cons (s_if (t_cmp op_lt opd_lt (d_op op_mod opd_mod (dv 1) (d_int)) (d_int) (nomark _)) (s_one (s_ret (d_op op_addA opd_add (d_op op_addA opd_add (d_sl (dv 0) (o_none) (o_some (dv 3))) (d_ix (dv 2) (d_op op_mod opd_mod (d_op op_fdivB opd_fdiv (dv 1) (d_int)) (d_B call_len cd_len (by rfl) T.z_len PySem.boot_len (a_cons (dv 2) (a_nil)))))) (d_sl (dv 0) (o_some (d_op op_addA opd_add (dv 3) (d_int))) (o_none))))) (s_nil)) (s_cons (s_if (t_cmp op_lt opd_lt (d_op op_mod opd_mod (dv 1) (d_int)) (d_int) (nomark _)) (s_one (s_ret (d_op op_addA opd_add (d_op op_addA opd_add (d_sl (dv 0) (o_none) (o_some (dv 3))) (d_ix (dv 2) (d_op op_mod opd_mod (d_op op_fdivB opd_fdiv (dv 1) (d_int)) (d_B call_len cd_len (by rfl) T.z_len PySem.boot_len (a_cons (dv 2) (a_nil)))))) (d_sl (dv 0) (o_some (dv 3)) (o_none))))) (s_nil)) (s_one (s_ret (d_op op_addA opd_add (dv 0) (d_ix (d_lst (i_cons (d_str) (i_cons (d_str) (i_cons (d_str) (i_nil))))) (d_op op_mod opd_mod (d_op op_fdivB opd_fdiv (dv 1) (d_int)) (d_int))))))))))))
theorem ok__law_spoilt (T : Txt K mg) : FnOk P w K mg base CX0 2 T.a__law_spoilt T.fd__law_spoilt P__law_spoilt (spD K spec__law_spoilt) := by
  refine okD (ws := ws__law_spoilt) T.F__law_spoilt sc__law_spoilt len__law_spoilt (fun cdv A outer s H E hr => ?_) pure__law_spoilt
  have nd := sc__law_spoilt.nd
  exact s_cons (s_set (i := 2) nd rfl (by first | exact Or.inl rfl | exact Or.inr rfl) (d_op op_mod opd_mod (d_op op_mulA opd_mul (dv 1) (d_int)) (d_int))) (s_cons (s_set (i := 3) nd rfl (by first | exact Or.inl rfl | exact Or.inr rfl) (d_op op_mod opd_mod (d_op op_fdivB opd_fdiv (dv 2) (d_int)) (d_op op_addA opd_add (d_B call_len cd_len (by rfl) T.z_len PySem.boot_len (a_cons (dv 0) (a_nil))) (d_int)))) (s_cons (s_if (t_cmp (op_eqA hr.units) opd_eq (d_op op_mod opd_mod (dv 2) (d_int)) (d_int) (nomark _)) (s_one (s_ret (d_op op_addA opd_add (d_sl (dv 0) (o_none) (o_some (dv 3))) (d_sl (dv 0) (o_some (d_op op_addA opd_add (dv 3) (d_int))) (o_none))))) (s_nil)) (s_cons (s_if (t_cmp (op_eqA hr.units) opd_eq (d_op op_mod opd_mod (dv 2) (d_int)) (d_int) (nomark _)) (s_one (s_ret (d_op op_addA opd_add (d_op op_addA opd_add (d_sl (dv 0) (o_none) (o_some (dv 3))) (d_sl (dv 0) (o_some (dv 3)) (o_some (d_op op_addA opd_add (dv 3) (d_int))))) (d_sl (dv 0) (o_some (dv 3)) (o_none))))) (s_nil)) (s_cons (s_if (t_cmp (op_eqA hr.units) opd_eq (d_op op_mod opd_mod (dv 2) (d_int)) (d_int) (nomark _)) (s_one (s_ret (d_op op_addA opd_add (d_op op_addA opd_add (d_sl (dv 0) (o_none) (o_some (dv 3))) (d_revL (d_sl (dv 0) (o_some (dv 3)) (o_some (d_op op_addA opd_add (dv 3) (d_int)))))) (d_sl (dv 0) (o_some (d_op op_addA opd_add (dv 3) (d_int))) (o_none))))) (s_nil)) (s_cons (s_if (t_cmp (op_eqA hr.units) opd_eq (d_op op_mod opd_mod (dv 2) (d_int)) (d_int) (nomark _)) (s_cons (s_set (i := 4) nd rfl (by first | exact Or.inl rfl | exact Or.inr rfl) (d_call (ok__law_row T) (hr.mono (by decide)) (by rfl) T.m__law_row T.F__law_row.kp T.b__law_row .nil (fun _ _ => .nil) (a_cons (d_str) (a_cons (d_op op_mod opd_mod (d_op op_mulA opd_mul (dv 1) (d_int)) (d_int)) (a_nil))))) (s_one (s_ret (d_op op_addA opd_add (d_op op_addA opd_add (d_sl (dv 0) (o_none) (o_some (dv 3))) (d_lst (i_cons (dv 4) (i_nil)))) (d_sl (dv 0) (o_some (dv 3)) (o_none)))))) (s_nil)) (s_cons (s_if (DW.t (w_and (t_cmp op_lt opd_lt (dv 3) (d_B call_len cd_len (by rfl) T.z_len PySem.boot_len (a_cons (dv 0) (a_nil))) (nomark _)) (w_and1 (t_cmp op_lt opd_lt (d_op op_mod opd_mod (dv 2) (d_int)) (d_int) (nomark _))))) (s_one (s_ret (d_op op_addA opd_add (d_op op_addA opd_add (d_sl (dv 0) (o_none) (o_some (dv 3))) (d_lst (i_cons (d_call (ok__law_row T) (hr.mono (by decide)) (by rfl) T.m__law_row T.F__law_row.kp T.b__law_row .nil (fun _ _ => .nil) (a_cons (d_ix (dv 0) (dv 3)) (a_cons (d_op op_mod opd_mod (d_op op_mulA opd_mul (dv 1) (d_int)) (d_int)) (a_nil)))) (i_nil)))) (d_sl (dv 0) (o_some (d_op op_addA opd_add (dv 3) (d_int))) (o_none))))) (s_nil)) (s_one (s_ret (dv 0)))))))))
theorem ok__law_rows (T : Txt K mg) : FnOk P w K mg base CX0 4 T.a__law_rows T.fd__law_rows P__law_rows (spD K spec__law_rows) := by
  refine okD (ws := ws__law_rows) T.F__law_rows sc__law_rows len__law_rows (fun cdv A outer s H E hr => ?_) pure__law_rows
  have nd := sc__law_rows.nd
  exact s_cons (s_set (i := 1) nd rfl (by first | exact Or.inl rfl | exact Or.inr rfl) (d_call (ok__law_tree T) (hr.mono (by decide)) (by rfl) T.m__law_tree T.F__law_tree.kp T.b__law_tree .nil (fun _ _ => .nil) (a_cons (d_sl (dv 0) (o_none) (o_some (d_int))) (a_cons (d_int) (a_nil))))) (s_cons (s_set (i := 2) nd rfl (by first | exact Or.inl rfl | exact Or.inr rfl) (d_call (ok__law_changed T) (hr.mono (by decide)) (by rfl) T.m__law_changed T.F__law_changed.kp T.b__law_changed .nil (fun _ _ => .nil) (a_cons (df 1) (a_cons (d_fzE (d_sl (dv 0) (o_some (d_int)) (o_some (d_int)))) (a_cons (d_int) (a_nil)))))) (s_cons (s_set (i := 3) nd rfl (by first | exact Or.inl rfl | exact Or.inr rfl) (d_call (ok__law_laid T) (hr.mono (by decide)) (by rfl) T.m__law_laid T.F__law_laid.kp T.b__law_laid .nil (fun _ _ => .nil) (a_cons (df 1) (a_cons (df 2) (a_cons (d_fzE (d_call (ok__law_pairing T) (hr.mono (by decide)) (by rfl) T.m__law_pairing T.F__law_pairing.kp T.b__law_pairing .nil (fun _ _ => .nil) (a_cons (df 1) (a_cons (df 2) (a_cons (d_fzE (d_sl (dv 0) (o_none) (o_some (d_int)))) (a_nil)))))) (a_nil)))))) (s_cons (s_set (i := 4) nd rfl (by first | exact Or.inl rfl | exact Or.inr rfl) (d_op op_mod opd_mod (d_call (ok__law_cell_at T) (hr.mono (by decide)) (by rfl) T.m__law_cell_at T.F__law_cell_at.kp T.b__law_cell_at .nil (fun _ _ => .nil) (a_cons (dv 0) (a_cons (d_int) (a_nil)))) (d_int))) (s_cons (s_set (i := 5) nd rfl (by first | exact Or.inl rfl | exact Or.inr rfl) (d_op op_mod opd_mod (d_call (ok__law_cell_at T) (hr.mono (by decide)) (by rfl) T.m__law_cell_at T.F__law_cell_at.kp T.b__law_cell_at .nil (fun _ _ => .nil) (a_cons (dv 0) (a_cons (d_int) (a_nil)))) (d_int))) (s_cut (s_if (t_cmp (op_eqA hr.units) opd_eq (dv 4) (d_int) (nomark _)) (s_cons (s_set (i := 6) nd rfl (by first | exact Or.inl rfl | exact Or.inr rfl) (d_ix (d_str) (d_op op_mod opd_mod (d_call (ok__law_cell_at T) (hr.mono (by decide)) (by rfl) T.m__law_cell_at T.F__law_cell_at.kp T.b__law_cell_at .nil (fun _ _ => .nil) (a_cons (dv 0) (a_cons (d_int) (a_nil)))) (d_int)))) (s_one (s_set (i := 3) nd rfl (by first | exact Or.inl rfl | exact Or.inr rfl) (d_op op_addA opd_add (d_lst (i_cons (d_str) (i_nil))) (d_op op_mulA opd_mul (d_lst (i_cons (d_op op_addA opd_add (dv 6) (d_str)) (i_nil))) (d_op op_addA opd_add (d_int) (dv 5))))))) (s_nil)) (s_cut (s_if (t_cmp (op_eqA hr.units) opd_eq (dv 4) (d_int) (nomark _)) (s_one (s_setLc (i := 3) (own := [("k", 7)]) (g := gName 7) rfl nd rfl rfl (sw_true rfl rfl rfl (by decide +kernel)) (n_1 (by rfl) T.z_range (a_cons (d_op op_addA opd_add (d_int) (dv 5)) (a_nil))) (blkOk_by (own := [("k", 7)]) (N := N__law_rows) (sc := defScope s__law_rows) (by decide +kernel)) (fun _ _ _ _ _ => c_name nd rfl (by first | exact Or.inl rfl | exact Or.inr rfl) (by decide)) (fun _ _ _ _ _ => d_op op_addA opd_add (d_op op_addA opd_add (d_str) (d_op op_mulA opd_mul (d_str) (dv 7))) (d_str)))) (s_nil)) (s_cons (s_for PassesOwn.never rfl (n_2 (by rfl) T.z_range (a_cons (d_int) (a_cons (d_int) (a_nil)))) (g_name (i := 7) nd rfl (by first | exact Or.inl rfl | exact Or.inr rfl)) (s_one (s_set (i := 3) nd rfl (by first | exact Or.inl rfl | exact Or.inr rfl) (d_call (ok__law_spoilt T) (hr.mono (by decide)) (by rfl) T.m__law_spoilt T.F__law_spoilt.kp T.b__law_spoilt .nil (fun _ _ => .nil) (a_cons (df 3) (a_cons (d_call (ok__law_cell_at T) (hr.mono (by decide)) (by rfl) T.m__law_cell_at T.F__law_cell_at.kp T.b__law_cell_at .nil (fun _ _ => .nil) (a_cons (dv 0) (a_cons (dv 7) (a_nil)))) (a_nil))))))) (s_cons (s_if (t_cmp (op_eqA hr.units) opd_eq (dv 4) (d_int) (nomark _)) (s_one (s_set (i := 3) nd rfl (by first | exact Or.inl rfl | exact Or.inr rfl) (d_lst (i_nil)))) (s_nil)) (s_one (s_ret (dm 3)))))))))))
theorem ok__law_refused (T : Txt K mg) : FnOk P w K mg base CX0 5 T.a__law_refused T.fd__law_refused P__law_refused (spD K spec__law_refused) := by
  refine Tm.okT (ws := ws__law_refused) T.F__law_refused sc__law_refused len__law_refused (fun cdv A outer s H E hr => ?_) pure__law_refused
  have nd := sc__law_refused.nd
  exact s_cons (s_set (i := 1) nd rfl (by first | exact Or.inl rfl | exact Or.inr rfl) (d_lst (i_nil))) (s_cons (s_try (i := 2) rfl rfl nd rfl rfl ⟨by rfl, by decide, .inl T.x_NoRows.m⟩ takes0 (hx_NoRows T) (fun W pn xe tk po => s_one (s_expr (d_callX (ok_read_laid T) (hr.mono (by decide)) (by rfl) T.m_read_laid T.F_read_laid.kp T.b_read_laid .nil (fun _ _ => .nil) (fun σ => passAt tk σ) (a_cons (dv 0) (a_nil))))) (fun a oe n C pn hn hC hz hf => by obtain ⟨D, rfl, eD⟩ := hd_ T n C hn hC; exact s_cons (s_set (i := 3) nd rfl (by first | exact Or.inl rfl | exact Or.inr rfl) (d_isET (i := 2) eD hz hf (kitAnyC (hk_NoText T n D hn hC) (kitAnyC (hk_NoNode T n D hn hC) (kitAnyC (hk_NoPlace T n D hn hC) (kitAnyC (hk_TooMany T n D hn hC) (kitAnyC (hk_NoTree T n D hn hC) (kitAnyC (hk_NoMark T n D hn hC) (kitAnyC (hk_Twice T n D hn hC) (kitAnyC (hk_NoFit T n D hn hC) (kitAnyC (hk_Touch T n D hn hC) (kitAnyC (hk_Lacks T n D hn hC) (kitAnyC (hk_NoName T n D hn hC) kitAny0))))))))))) (.cons (.own (by rfl) T.mx_NoText) (.cons (.own (by rfl) T.mx_NoNode) (.cons (.own (by rfl) T.mx_NoPlace) (.cons (.own (by rfl) T.mx_TooMany) (.cons (.own (by rfl) T.mx_NoTree) (.cons (.own (by rfl) T.mx_NoMark) (.cons (.own (by rfl) T.mx_Twice) (.cons (.own (by rfl) T.mx_NoFit) (.cons (.own (by rfl) T.mx_Touch) (.cons (.own (by rfl) T.mx_Lacks) (.cons (.own (by rfl) T.mx_NoName) .nil))))))))))) (by rfl) T.z_isinstance)) (s_cons (s_set (i := 3) nd rfl (by first | exact Or.inl rfl | exact Or.inr rfl) (d_or (dv 3) (d_one (d_isET (i := 2) eD hz hf (kitAnyC (hk_NoProgram T n D hn hC) (kitAnyC (hk_NoMake T n D hn hC) kitAny0)) (.cons (.own (by rfl) T.mx_NoProgram) (.cons (.own (by rfl) T.mx_NoMake) .nil)) (by rfl) T.z_isinstance)))) (s_one (s_set (i := 1) nd rfl (by first | exact Or.inl rfl | exact Or.inr rfl) (d_lst (i_cons (d_isE (i := 2) eD hz hf (hk_MendError T n D hn hC) (.own (by rfl) T.mx_MendError) (by rfl) T.z_isinstance) (i_cons (d_isE (i := 2) eD hz hf (hk_ValueError T n D hn hC) (.ty (by rfl) T.z_ValueError boot_ve) (by rfl) T.z_isinstance) (i_cons (dv 3) (i_nil)))))))))) (s_one (s_ret (d_cmp (op_eqA hr.units) opd_eq (dv 1) (d_lst (i_cons (d_bl) (i_cons (d_bl) (i_cons (d_bl) (i_nil))))) (nomark _)))))
theorem ok_law (T : Txt K mg) : FnOk P w K mg base CX0 6 T.a_law T.fd_law P_law (spD K spec_law) := by
  refine okD (ws := ws_law) T.F_law sc_law len_law (fun cdv A outer s H E hr => ?_) pure_law
  have nd := sc_law.nd
  exact s_cons (s_set (i := 1) nd rfl (by first | exact Or.inl rfl | exact Or.inr rfl) (d_call (ok__law_rows T) (hr.mono (by decide)) (by rfl) T.m__law_rows T.F__law_rows.kp T.b__law_rows .nil (fun _ _ => .nil) (a_cons (dv 0) (a_nil)))) (s_cons (s_set (i := 2) nd rfl (by first | exact Or.inl rfl | exact Or.inr rfl) (d_call (ok__law_due T) (hr.mono (by decide)) (by rfl) T.m__law_due T.F__law_due.kp T.b__law_due .nil (fun _ _ => .nil) (a_cons (df 1) (a_nil)))) (s_cons (s_set (i := 3) nd rfl (by first | exact Or.inl rfl | exact Or.inr rfl) (d_BT call_list_of cd_list (by rfl) T.z_list PyProof.Rows.boot_list (a_cons (df 1) (a_nil)))) (s_cons (s_if (t_cmp op_isN opd_is (dv 2) (d_non) (nomark _)) (s_one (s_ret (d_and (d_call (ok__law_refused T) (hr.mono (by decide)) (by rfl) T.m__law_refused T.F__law_refused.kp T.b__law_refused .nil (fun _ _ => .nil) (a_cons (df 3) (a_nil))) (d_and (d_call (ok__law_refused T) (hr.mono (by decide)) (by rfl) T.m__law_refused T.F__law_refused.kp T.b__law_refused .nil (fun _ _ => .nil) (a_cons (df 3) (a_nil))) (d_one (d_cmp (op_eqA hr.units) opd_eq (dv 3) (dv 1) (nomark _))))))) (s_nil)) (s_one (s_ret (d_and (d_cmp (op_eqA hr.units) opd_eq (d_callF (ok_read_laid T) (hr.mono (by decide)) (by rfl) T.m_read_laid T.F_read_laid.kp T.b_read_laid .nil (fun _ _ => .nil) passF (a_cons (df 3) (a_nil))) (dv 2) (nomark _)) (d_and (d_cmp (op_eqA hr.units) opd_eq (d_callF (ok_read_laid T) (hr.mono (by decide)) (by rfl) T.m_read_laid T.F_read_laid.kp T.b_read_laid .nil (fun _ _ => .nil) passF (a_cons (df 3) (a_nil))) (dv 2) (nomark _)) (d_one (d_cmp (op_eqA hr.units) opd_eq (dv 3) (dv 1) (nomark _))))))))))
end
theorem all_mk {l : PySem.W.OpenLaw} {w : World} {K : PySem.W.Frag} {h : Heap} {mg : Str → Option Value} {fa : Addr} (X : K.In h) (G : h.Ns mainGlobals mg) (hfa : mg "law" = some (.ref fa))
    {od0 an0 : Option Addr} {sl0 : Array (Option Value)} {oc0 kV0 dc0 pm0 cd0 ct0 : Value} {f0 : Addr} {od1 an1 : Option Addr} {sl1 : Array (Option Value)} {oc1 kV1 dc1 pm1 cd1 ct1 : Value} {f1 : Addr} {od2 an2 : Option Addr} {sl2 : Array (Option Value)} {oc2 kV2 dc2 pm2 cd2 ct2 : Value} {f2 : Addr} {od3 an3 : Option Addr} {sl3 : Array (Option Value)} {oc3 kV3 dc3 pm3 cd3 ct3 : Value} {f3 : Addr} {od4 an4 : Option Addr} {sl4 : Array (Option Value)} {oc4 kV4 dc4 pm4 cd4 ct4 : Value} {f4 : Addr} {od5 an5 : Option Addr} {sl5 : Array (Option Value)} {oc5 kV5 dc5 pm5 cd5 ct5 : Value} {f5 : Addr} {od6 an6 : Option Addr} {sl6 : Array (Option Value)} {oc6 kV6 dc6 pm6 cd6 ct6 : Value} {f6 : Addr} {od7 an7 : Option Addr} {sl7 : Array (Option Value)} {oc7 kV7 dc7 pm7 cd7 ct7 : Value} {f7 : Addr} {od8 an8 : Option Addr} {sl8 : Array (Option Value)} {oc8 kV8 dc8 pm8 cd8 ct8 : Value} {f8 : Addr} {od9 an9 : Option Addr} {sl9 : Array (Option Value)} {oc9 kV9 dc9 pm9 cd9 ct9 : Value} {f9 : Addr} {od10 an10 : Option Addr} {sl10 : Array (Option Value)} {oc10 kV10 dc10 pm10 cd10 ct10 : Value} {f10 : Addr} {od11 an11 : Option Addr} {sl11 : Array (Option Value)} {oc11 kV11 dc11 pm11 cd11 ct11 : Value} {f11 : Addr} {od12 an12 : Option Addr} {sl12 : Array (Option Value)} {oc12 kV12 dc12 pm12 cd12 ct12 : Value} {f12 : Addr} {od13 an13 : Option Addr} {sl13 : Array (Option Value)} {oc13 kV13 dc13 pm13 cd13 ct13 : Value} {f13 : Addr} {od14 an14 : Option Addr} {sl14 : Array (Option Value)} {oc14 kV14 dc14 pm14 cd14 ct14 : Value} {f14 : Addr} {od15 an15 : Option Addr} {sl15 : Array (Option Value)} {oc15 kV15 dc15 pm15 cd15 ct15 : Value} {f15 : Addr} {od16 an16 : Option Addr} {sl16 : Array (Option Value)} {oc16 kV16 dc16 pm16 cd16 ct16 : Value} {f16 : Addr} {od17 an17 : Option Addr} {sl17 : Array (Option Value)} {oc17 kV17 dc17 pm17 cd17 ct17 : Value} {f17 : Addr} {od18 an18 : Option Addr} {sl18 : Array (Option Value)} {oc18 kV18 dc18 pm18 cd18 ct18 : Value} {f18 : Addr} {od19 an19 : Option Addr} {sl19 : Array (Option Value)} {oc19 kV19 dc19 pm19 cd19 ct19 : Value} {f19 : Addr} {od20 an20 : Option Addr} {sl20 : Array (Option Value)} {oc20 kV20 dc20 pm20 cd20 ct20 : Value} {f20 : Addr} {od21 an21 : Option Addr} {sl21 : Array (Option Value)} {oc21 kV21 dc21 pm21 cd21 ct21 : Value} {f21 : Addr} {od22 an22 : Option Addr} {sl22 : Array (Option Value)} {oc22 kV22 dc22 pm22 cd22 ct22 : Value} {f22 : Addr} {od23 an23 : Option Addr} {sl23 : Array (Option Value)} {oc23 kV23 dc23 pm23 cd23 ct23 : Value} {f23 : Addr} {od24 an24 : Option Addr} {sl24 : Array (Option Value)} {oc24 kV24 dc24 pm24 cd24 ct24 : Value} {f24 : Addr} {od25 an25 : Option Addr} {sl25 : Array (Option Value)} {oc25 kV25 dc25 pm25 cd25 ct25 : Value} {f25 : Addr} {od26 an26 : Option Addr} {sl26 : Array (Option Value)} {oc26 kV26 dc26 pm26 cd26 ct26 : Value} {f26 : Addr} {od27 an27 : Option Addr} {sl27 : Array (Option Value)} {oc27 kV27 dc27 pm27 cd27 ct27 : Value} {f27 : Addr}
    (a0 : PySem.W.nsIn K mainGlobals "elder_list" = some (some (.ref f0))) (l0 : K.lookup f0 = some ⟨oc0, od0, .func (PySem.W.fnOf "elder_list" "elder_list" (defArgs s_elder_list) (defBody s_elder_list) (defScope s_elder_list) .none kV0 dc0 pm0 an0 cd0 ct0), sl0⟩) (c0 : PySem.W.codeIn K cd0 "elder_list" = true) (k0 : PySem.W.keepIn K (.ref f0) = true)
    (a1 : PySem.W.nsIn K mainGlobals "is_pairing" = some (some (.ref f1))) (l1 : K.lookup f1 = some ⟨oc1, od1, .func (PySem.W.fnOf "is_pairing" "is_pairing" (defArgs s_is_pairing) (defBody s_is_pairing) (defScope s_is_pairing) .none kV1 dc1 pm1 an1 cd1 ct1), sl1⟩) (c1 : PySem.W.codeIn K cd1 "is_pairing" = true) (k1 : PySem.W.keepIn K (.ref f1) = true)
    (a2 : PySem.W.nsIn K mainGlobals "is_word" = some (some (.ref f2))) (l2 : K.lookup f2 = some ⟨oc2, od2, .func (PySem.W.fnOf "is_word" "is_word" (defArgs s_is_word) (defBody s_is_word) (defScope s_is_word) .none kV2 dc2 pm2 an2 cd2 ct2), sl2⟩) (c2 : PySem.W.codeIn K cd2 "is_word" = true) (k2 : PySem.W.keepIn K (.ref f2) = true)
    (a3 : PySem.W.nsIn K mainGlobals "is_tree" = some (some (.ref f3))) (l3 : K.lookup f3 = some ⟨oc3, od3, .func (PySem.W.fnOf "is_tree" "is_tree" (defArgs s_is_tree) (defBody s_is_tree) (defScope s_is_tree) .none kV3 dc3 pm3 an3 cd3 ct3), sl3⟩) (c3 : PySem.W.codeIn K cd3 "is_tree" = true) (k3 : PySem.W.keepIn K (.ref f3) = true)
    (a4 : PySem.W.nsIn K mainGlobals "row_by" = some (some (.ref f4))) (l4 : K.lookup f4 = some ⟨oc4, od4, .func (PySem.W.fnOf "row_by" "row_by" (defArgs s_row_by) (defBody s_row_by) (defScope s_row_by) .none kV4 dc4 pm4 an4 cd4 ct4), sl4⟩) (c4 : PySem.W.codeIn K cd4 "row_by" = true) (k4 : PySem.W.keepIn K (.ref f4) = true)
    (a5 : PySem.W.nsIn K mainGlobals "pair_row" = some (some (.ref f5))) (l5 : K.lookup f5 = some ⟨oc5, od5, .func (PySem.W.fnOf "pair_row" "pair_row" (defArgs s_pair_row) (defBody s_pair_row) (defScope s_pair_row) .none kV5 dc5 pm5 an5 cd5 ct5), sl5⟩) (c5 : PySem.W.codeIn K cd5 "pair_row" = true) (k5 : PySem.W.keepIn K (.ref f5) = true)
    (a6 : PySem.W.nsIn K mainGlobals "laid_out" = some (some (.ref f6))) (l6 : K.lookup f6 = some ⟨oc6, od6, .func (PySem.W.fnOf "laid_out" "laid_out" (defArgs s_laid_out) (defBody s_laid_out) (defScope s_laid_out) .none kV6 dc6 pm6 an6 cd6 ct6), sl6⟩) (c6 : PySem.W.codeIn K cd6 "laid_out" = true) (k6 : PySem.W.keepIn K (.ref f6) = true)
    (a7 : PySem.W.nsIn K mainGlobals "deep_of" = some (some (.ref f7))) (l7 : K.lookup f7 = some ⟨oc7, od7, .func (PySem.W.fnOf "deep_of" "deep_of" (defArgs s_deep_of) (defBody s_deep_of) (defScope s_deep_of) .none kV7 dc7 pm7 an7 cd7 ct7), sl7⟩) (c7 : PySem.W.codeIn K cd7 "deep_of" = true) (k7 : PySem.W.keepIn K (.ref f7) = true)
    (a8 : PySem.W.nsIn K mainGlobals "words_of" = some (some (.ref f8))) (l8 : K.lookup f8 = some ⟨oc8, od8, .func (PySem.W.fnOf "words_of" "words_of" (defArgs s_words_of) (defBody s_words_of) (defScope s_words_of) .none kV8 dc8 pm8 an8 cd8 ct8), sl8⟩) (c8 : PySem.W.codeIn K cd8 "words_of" = true) (k8 : PySem.W.keepIn K (.ref f8) = true)
    (a9 : PySem.W.nsIn K mainGlobals "read_laid" = some (some (.ref f9))) (l9 : K.lookup f9 = some ⟨oc9, od9, .func (PySem.W.fnOf "read_laid" "read_laid" (defArgs s_read_laid) (defBody s_read_laid) (defScope s_read_laid) .none kV9 dc9 pm9 an9 cd9 ct9), sl9⟩) (c9 : PySem.W.codeIn K cd9 "read_laid" = true) (k9 : PySem.W.keepIn K (.ref f9) = true)
    (a10 : PySem.W.nsIn K mainGlobals "_law_cell_at" = some (some (.ref f10))) (l10 : K.lookup f10 = some ⟨oc10, od10, .func (PySem.W.fnOf "_law_cell_at" "_law_cell_at" (defArgs s__law_cell_at) (defBody s__law_cell_at) (defScope s__law_cell_at) .none kV10 dc10 pm10 an10 cd10 ct10), sl10⟩) (c10 : PySem.W.codeIn K cd10 "_law_cell_at" = true) (k10 : PySem.W.keepIn K (.ref f10) = true)
    (a11 : PySem.W.nsIn K mainGlobals "_law_word" = some (some (.ref f11))) (l11 : K.lookup f11 = some ⟨oc11, od11, .func (PySem.W.fnOf "_law_word" "_law_word" (defArgs s__law_word) (defBody s__law_word) (defScope s__law_word) .none kV11 dc11 pm11 an11 cd11 ct11), sl11⟩) (c11 : PySem.W.codeIn K cd11 "_law_word" = true) (k11 : PySem.W.keepIn K (.ref f11) = true)
    (a12 : PySem.W.nsIn K mainGlobals "_law_tree" = some (some (.ref f12))) (l12 : K.lookup f12 = some ⟨oc12, od12, .func (PySem.W.fnOf "_law_tree" "_law_tree" (defArgs s__law_tree) (defBody s__law_tree) (defScope s__law_tree) .none kV12 dc12 pm12 an12 cd12 ct12), sl12⟩) (c12 : PySem.W.codeIn K cd12 "_law_tree" = true) (k12 : PySem.W.keepIn K (.ref f12) = true)
    (a13 : PySem.W.nsIn K mainGlobals "_law_end" = some (some (.ref f13))) (l13 : K.lookup f13 = some ⟨oc13, od13, .func (PySem.W.fnOf "_law_end" "_law_end" (defArgs s__law_end) (defBody s__law_end) (defScope s__law_end) .none kV13 dc13 pm13 an13 cd13 ct13), sl13⟩) (c13 : PySem.W.codeIn K cd13 "_law_end" = true) (k13 : PySem.W.keepIn K (.ref f13) = true)
    (a14 : PySem.W.nsIn K mainGlobals "_law_changed" = some (some (.ref f14))) (l14 : K.lookup f14 = some ⟨oc14, od14, .func (PySem.W.fnOf "_law_changed" "_law_changed" (defArgs s__law_changed) (defBody s__law_changed) (defScope s__law_changed) .none kV14 dc14 pm14 an14 cd14 ct14), sl14⟩) (c14 : PySem.W.codeIn K cd14 "_law_changed" = true) (k14 : PySem.W.keepIn K (.ref f14) = true)
    (a15 : PySem.W.nsIn K mainGlobals "_law_young" = some (some (.ref f15))) (l15 : K.lookup f15 = some ⟨oc15, od15, .func (PySem.W.fnOf "_law_young" "_law_young" (defArgs s__law_young) (defBody s__law_young) (defScope s__law_young) .none kV15 dc15 pm15 an15 cd15 ct15), sl15⟩) (c15 : PySem.W.codeIn K cd15 "_law_young" = true) (k15 : PySem.W.keepIn K (.ref f15) = true)
    (a16 : PySem.W.nsIn K mainGlobals "_law_draw" = some (some (.ref f16))) (l16 : K.lookup f16 = some ⟨oc16, od16, .func (PySem.W.fnOf "_law_draw" "_law_draw" (defArgs s__law_draw) (defBody s__law_draw) (defScope s__law_draw) .none kV16 dc16 pm16 an16 cd16 ct16), sl16⟩) (c16 : PySem.W.codeIn K cd16 "_law_draw" = true) (k16 : PySem.W.keepIn K (.ref f16) = true)
    (a17 : PySem.W.nsIn K mainGlobals "_law_pairing" = some (some (.ref f17))) (l17 : K.lookup f17 = some ⟨oc17, od17, .func (PySem.W.fnOf "_law_pairing" "_law_pairing" (defArgs s__law_pairing) (defBody s__law_pairing) (defScope s__law_pairing) .none kV17 dc17 pm17 an17 cd17 ct17), sl17⟩) (c17 : PySem.W.codeIn K cd17 "_law_pairing" = true) (k17 : PySem.W.keepIn K (.ref f17) = true)
    (a18 : PySem.W.nsIn K mainGlobals "_law_laid" = some (some (.ref f18))) (l18 : K.lookup f18 = some ⟨oc18, od18, .func (PySem.W.fnOf "_law_laid" "_law_laid" (defArgs s__law_laid) (defBody s__law_laid) (defScope s__law_laid) .none kV18 dc18 pm18 an18 cd18 ct18), sl18⟩) (c18 : PySem.W.codeIn K cd18 "_law_laid" = true) (k18 : PySem.W.keepIn K (.ref f18) = true)
    (a19 : PySem.W.nsIn K mainGlobals "_law_elder" = some (some (.ref f19))) (l19 : K.lookup f19 = some ⟨oc19, od19, .func (PySem.W.fnOf "_law_elder" "_law_elder" (defArgs s__law_elder) (defBody s__law_elder) (defScope s__law_elder) .none kV19 dc19 pm19 an19 cd19 ct19), sl19⟩) (c19 : PySem.W.codeIn K cd19 "_law_elder" = true) (k19 : PySem.W.keepIn K (.ref f19) = true)
    (a20 : PySem.W.nsIn K mainGlobals "_law_is_tree" = some (some (.ref f20))) (l20 : K.lookup f20 = some ⟨oc20, od20, .func (PySem.W.fnOf "_law_is_tree" "_law_is_tree" (defArgs s__law_is_tree) (defBody s__law_is_tree) (defScope s__law_is_tree) .none kV20 dc20 pm20 an20 cd20 ct20), sl20⟩) (c20 : PySem.W.codeIn K cd20 "_law_is_tree" = true) (k20 : PySem.W.keepIn K (.ref f20) = true)
    (a21 : PySem.W.nsIn K mainGlobals "_law_words" = some (some (.ref f21))) (l21 : K.lookup f21 = some ⟨oc21, od21, .func (PySem.W.fnOf "_law_words" "_law_words" (defArgs s__law_words) (defBody s__law_words) (defScope s__law_words) .none kV21 dc21 pm21 an21 cd21 ct21), sl21⟩) (c21 : PySem.W.codeIn K cd21 "_law_words" = true) (k21 : PySem.W.keepIn K (.ref f21) = true)
    (a22 : PySem.W.nsIn K mainGlobals "_law_due" = some (some (.ref f22))) (l22 : K.lookup f22 = some ⟨oc22, od22, .func (PySem.W.fnOf "_law_due" "_law_due" (defArgs s__law_due) (defBody s__law_due) (defScope s__law_due) .none kV22 dc22 pm22 an22 cd22 ct22), sl22⟩) (c22 : PySem.W.codeIn K cd22 "_law_due" = true) (k22 : PySem.W.keepIn K (.ref f22) = true)
    (a23 : PySem.W.nsIn K mainGlobals "_law_row" = some (some (.ref f23))) (l23 : K.lookup f23 = some ⟨oc23, od23, .func (PySem.W.fnOf "_law_row" "_law_row" (defArgs s__law_row) (defBody s__law_row) (defScope s__law_row) .none kV23 dc23 pm23 an23 cd23 ct23), sl23⟩) (c23 : PySem.W.codeIn K cd23 "_law_row" = true) (k23 : PySem.W.keepIn K (.ref f23) = true)
    (a24 : PySem.W.nsIn K mainGlobals "_law_spoilt" = some (some (.ref f24))) (l24 : K.lookup f24 = some ⟨oc24, od24, .func (PySem.W.fnOf "_law_spoilt" "_law_spoilt" (defArgs s__law_spoilt) (defBody s__law_spoilt) (defScope s__law_spoilt) .none kV24 dc24 pm24 an24 cd24 ct24), sl24⟩) (c24 : PySem.W.codeIn K cd24 "_law_spoilt" = true) (k24 : PySem.W.keepIn K (.ref f24) = true)
    (a25 : PySem.W.nsIn K mainGlobals "_law_rows" = some (some (.ref f25))) (l25 : K.lookup f25 = some ⟨oc25, od25, .func (PySem.W.fnOf "_law_rows" "_law_rows" (defArgs s__law_rows) (defBody s__law_rows) (defScope s__law_rows) .none kV25 dc25 pm25 an25 cd25 ct25), sl25⟩) (c25 : PySem.W.codeIn K cd25 "_law_rows" = true) (k25 : PySem.W.keepIn K (.ref f25) = true)
    (a26 : PySem.W.nsIn K mainGlobals "_law_refused" = some (some (.ref f26))) (l26 : K.lookup f26 = some ⟨oc26, od26, .func (PySem.W.fnOf "_law_refused" "_law_refused" (defArgs s__law_refused) (defBody s__law_refused) (defScope s__law_refused) .none kV26 dc26 pm26 an26 cd26 ct26), sl26⟩) (c26 : PySem.W.codeIn K cd26 "_law_refused" = true) (k26 : PySem.W.keepIn K (.ref f26) = true)
    (a27 : PySem.W.nsIn K mainGlobals "law" = some (some (.ref f27))) (l27 : K.lookup f27 = some ⟨oc27, od27, .func (PySem.W.fnOf "law" "law" (defArgs s_law) (defBody s_law) (defScope s_law) .none kV27 dc27 pm27 an27 cd27 ct27), sl27⟩) (c27 : PySem.W.codeIn K cd27 "law" = true) (k27 : PySem.W.keepIn K (.ref f27) = true)
    {c_NoRows : Addr}
    (an_NoRows : PySem.W.nsIn K mainGlobals "NoRows" = some (some (.ref c_NoRows)))
    (ax_NoRows : PySem.W.excIn K c_NoRows [.type "ValueError", .type "Exception", .type "BaseException", .type "object"] "ValueError.__new__" = true)
    (ak_NoRows : PySem.W.keepIn K (.ref c_NoRows) = true)
    (as_NoRows : PySem.W.subIn K (.ref c_NoRows) (.type "BaseException") = some true)
    (at_NoRows : PySem.W.typeIn K (.ref c_NoRows) = some (.type "type"))
    (ad_NoRows : PySem.W.hasDictIn K c_NoRows = true)
    {c_NoName : Addr}
    (an_NoName : PySem.W.nsIn K mainGlobals "NoName" = some (some (.ref c_NoName)))
    {c_Lacks : Addr}
    (an_Lacks : PySem.W.nsIn K mainGlobals "Lacks" = some (some (.ref c_Lacks)))
    {c_Touch : Addr}
    (an_Touch : PySem.W.nsIn K mainGlobals "Touch" = some (some (.ref c_Touch)))
    {c_NoFit : Addr}
    (an_NoFit : PySem.W.nsIn K mainGlobals "NoFit" = some (some (.ref c_NoFit)))
    {c_Twice : Addr}
    (an_Twice : PySem.W.nsIn K mainGlobals "Twice" = some (some (.ref c_Twice)))
    {c_NoMark : Addr}
    (an_NoMark : PySem.W.nsIn K mainGlobals "NoMark" = some (some (.ref c_NoMark)))
    {c_NoTree : Addr}
    (an_NoTree : PySem.W.nsIn K mainGlobals "NoTree" = some (some (.ref c_NoTree)))
    {c_TooMany : Addr}
    (an_TooMany : PySem.W.nsIn K mainGlobals "TooMany" = some (some (.ref c_TooMany)))
    {c_NoPlace : Addr}
    (an_NoPlace : PySem.W.nsIn K mainGlobals "NoPlace" = some (some (.ref c_NoPlace)))
    {c_NoNode : Addr}
    (an_NoNode : PySem.W.nsIn K mainGlobals "NoNode" = some (some (.ref c_NoNode)))
    {c_NoText : Addr}
    (an_NoText : PySem.W.nsIn K mainGlobals "NoText" = some (some (.ref c_NoText)))
    {c_NoMake : Addr}
    (an_NoMake : PySem.W.nsIn K mainGlobals "NoMake" = some (some (.ref c_NoMake)))
    {c_NoProgram : Addr}
    (an_NoProgram : PySem.W.nsIn K mainGlobals "NoProgram" = some (some (.ref c_NoProgram)))
    {c_MendError : Addr}
    (an_MendError : PySem.W.nsIn K mainGlobals "MendError" = some (some (.ref c_MendError)))
    (ehg_NoRows : PySem.W.findIn K (.ref c_NoRows) "__getattribute__" = some (some (.builtin "BaseException.__getattribute__")))
    (ehk_NoRows : PySem.W.findIn K (.ref c_NoRows) "__getattr__" = some none)
    (eha_NoRows : PySem.W.findIn K (.ref c_NoRows) "__class__" = some (some (.builtin "object.__class__")))
    (ehm_NoRows : PySem.W.mroIn K c_NoRows (.type "object") = some true)
    (sub_NoRows_NoRows : PySem.W.subIn K (.ref c_NoRows) (.ref c_NoRows) = some true)
    (kit_NoRows_NoName : PySem.W.kitOne K (.ref c_NoRows) (.ref c_NoName) = some false)
    (kit_NoRows_Lacks : PySem.W.kitOne K (.ref c_NoRows) (.ref c_Lacks) = some false)
    (kit_NoRows_Touch : PySem.W.kitOne K (.ref c_NoRows) (.ref c_Touch) = some false)
    (kit_NoRows_NoFit : PySem.W.kitOne K (.ref c_NoRows) (.ref c_NoFit) = some false)
    (kit_NoRows_Twice : PySem.W.kitOne K (.ref c_NoRows) (.ref c_Twice) = some false)
    (kit_NoRows_NoMark : PySem.W.kitOne K (.ref c_NoRows) (.ref c_NoMark) = some false)
    (kit_NoRows_NoTree : PySem.W.kitOne K (.ref c_NoRows) (.ref c_NoTree) = some false)
    (kit_NoRows_TooMany : PySem.W.kitOne K (.ref c_NoRows) (.ref c_TooMany) = some false)
    (kit_NoRows_NoPlace : PySem.W.kitOne K (.ref c_NoRows) (.ref c_NoPlace) = some false)
    (kit_NoRows_NoNode : PySem.W.kitOne K (.ref c_NoRows) (.ref c_NoNode) = some false)
    (kit_NoRows_NoText : PySem.W.kitOne K (.ref c_NoRows) (.ref c_NoText) = some false)
    (kit_NoRows_NoMake : PySem.W.kitOne K (.ref c_NoRows) (.ref c_NoMake) = some false)
    (kit_NoRows_NoProgram : PySem.W.kitOne K (.ref c_NoRows) (.ref c_NoProgram) = some false)
    (kit_NoRows_ValueError : PySem.W.kitOne K (.ref c_NoRows) (.type "ValueError") = some true)
    (kit_NoRows_MendError : PySem.W.kitOne K (.ref c_NoRows) (.ref c_MendError) = some true)
    (ehn : PySem.W.specialIn K (.builtin "object.__class__") "__get__" = some (some (.builtin "getset_descriptor.__get__")))
    (eht : PySem.W.takesIn K (.builtin "object.__class__") = some true)
    (z_enumerate : PySem.W.nsIn K mainGlobals "enumerate" = some none)
    (z_len : PySem.W.nsIn K mainGlobals "len" = some none)
    (z_list : PySem.W.nsIn K mainGlobals "list" = some none)
    (z_zip : PySem.W.nsIn K mainGlobals "zip" = some none)
    (z_range : PySem.W.nsIn K mainGlobals "range" = some none)
    (z_min : PySem.W.nsIn K mainGlobals "min" = some none)
    (z_int : PySem.W.nsIn K mainGlobals "int" = some none)
    (z_sorted : PySem.W.nsIn K mainGlobals "sorted" = some none)
    (z_max : PySem.W.nsIn K mainGlobals "max" = some none)
    (z_isinstance : PySem.W.nsIn K mainGlobals "isinstance" = some none)
    (z_ValueError : PySem.W.nsIn K mainGlobals "ValueError" = some none)
    {t_MOST : Tok} (q_MOST : PySem.W.nsIn K mainGlobals "MOST" = some (some (.int 200 t_MOST)))
    {t_DEEP : Tok} (q_DEEP : PySem.W.nsIn K mainGlobals "DEEP" = some (some (.int 30 t_DEEP)))
    {t_SIGNS : Tok} (q_SIGNS : PySem.W.nsIn K mainGlobals "SIGNS" = some (some (.str "abcdefghijklmnopqrstuvwxyz0123456789+-*=<" t_SIGNS)))
    : ∃ fd : FuncData, (∀ (s : Shared) (v : Value), BindsTo s fd ⟨[v], []⟩ [("script", v)]) ∧ ∀ base : Heap, K.In base → base.Ns mainGlobals mg → FnOk l.prog w K mg base CX0 6 fa fd ["script"] (spD K specLaw) := by
  have e := hfa.symm.trans (PySem.W.mg_of X G a27)
  cases e
  have F0 := fun_mk (st := s_elder_list) l0 c0 k0
  have F1 := fun_mk (st := s_is_pairing) l1 c1 k1
  have F2 := fun_mk (st := s_is_word) l2 c2 k2
  have F3 := fun_mk (st := s_is_tree) l3 c3 k3
  have F4 := fun_mk (st := s_row_by) l4 c4 k4
  have F5 := fun_mk (st := s_pair_row) l5 c5 k5
  have F6 := fun_mk (st := s_laid_out) l6 c6 k6
  have F7 := fun_mk (st := s_deep_of) l7 c7 k7
  have F8 := fun_mk (st := s_words_of) l8 c8 k8
  have F9 := fun_mk (st := s_read_laid) l9 c9 k9
  have F10 := fun_mk (st := s__law_cell_at) l10 c10 k10
  have F11 := fun_mk (st := s__law_word) l11 c11 k11
  have F12 := fun_mk (st := s__law_tree) l12 c12 k12
  have F13 := fun_mk (st := s__law_end) l13 c13 k13
  have F14 := fun_mk (st := s__law_changed) l14 c14 k14
  have F15 := fun_mk (st := s__law_young) l15 c15 k15
  have F16 := fun_mk (st := s__law_draw) l16 c16 k16
  have F17 := fun_mk (st := s__law_pairing) l17 c17 k17
  have F18 := fun_mk (st := s__law_laid) l18 c18 k18
  have F19 := fun_mk (st := s__law_elder) l19 c19 k19
  have F20 := fun_mk (st := s__law_is_tree) l20 c20 k20
  have F21 := fun_mk (st := s__law_words) l21 c21 k21
  have F22 := fun_mk (st := s__law_due) l22 c22 k22
  have F23 := fun_mk (st := s__law_row) l23 c23 k23
  have F24 := fun_mk (st := s__law_spoilt) l24 c24 k24
  have F25 := fun_mk (st := s__law_rows) l25 c25 k25
  have F26 := fun_mk (st := s__law_refused) l26 c26 k26
  have F27 := fun_mk (st := s_law) l27 c27 k27
  let T : Txt K mg := { a_elder_list := f0, fd_elder_list := _, F_elder_list := F0, m_elder_list := PySem.W.mg_of X G a0, b_elder_list := F0.binds (ps := P_elder_list) (fun _ _ _ _ _ _ us hl => match us, hl with | [_], _ => rfl), a_is_pairing := f1, fd_is_pairing := _, F_is_pairing := F1, m_is_pairing := PySem.W.mg_of X G a1, b_is_pairing := F1.binds (ps := P_is_pairing) (fun _ _ _ _ _ _ us hl => match us, hl with | [_, _, _], _ => rfl), a_is_word := f2, fd_is_word := _, F_is_word := F2, m_is_word := PySem.W.mg_of X G a2, b_is_word := F2.binds (ps := P_is_word) (fun _ _ _ _ _ _ us hl => match us, hl with | [_], _ => rfl), a_is_tree := f3, fd_is_tree := _, F_is_tree := F3, m_is_tree := PySem.W.mg_of X G a3, b_is_tree := F3.binds (ps := P_is_tree) (fun _ _ _ _ _ _ us hl => match us, hl with | [_], _ => rfl), a_row_by := f4, fd_row_by := _, F_row_by := F4, m_row_by := PySem.W.mg_of X G a4, b_row_by := F4.binds (ps := P_row_by) (fun _ _ _ _ _ _ us hl => match us, hl with | [_, _, _], _ => rfl), a_pair_row := f5, fd_pair_row := _, F_pair_row := F5, m_pair_row := PySem.W.mg_of X G a5, b_pair_row := F5.binds (ps := P_pair_row) (fun _ _ _ _ _ _ us hl => match us, hl with | [_, _], _ => rfl), a_laid_out := f6, fd_laid_out := _, F_laid_out := F6, m_laid_out := PySem.W.mg_of X G a6, b_laid_out := F6.binds (ps := P_laid_out) (fun _ _ _ _ _ _ us hl => match us, hl with | [_, _, _], _ => rfl), a_deep_of := f7, fd_deep_of := _, F_deep_of := F7, m_deep_of := PySem.W.mg_of X G a7, b_deep_of := F7.binds (ps := P_deep_of) (fun _ _ _ _ _ _ us hl => match us, hl with | [_], _ => rfl), a_words_of := f8, fd_words_of := _, F_words_of := F8, m_words_of := PySem.W.mg_of X G a8, b_words_of := F8.binds (ps := P_words_of) (fun _ _ _ _ _ _ us hl => match us, hl with | [_], _ => rfl), a_read_laid := f9, fd_read_laid := _, F_read_laid := F9, m_read_laid := PySem.W.mg_of X G a9, b_read_laid := F9.binds (ps := P_read_laid) (fun _ _ _ _ _ _ us hl => match us, hl with | [_], _ => rfl), a__law_cell_at := f10, fd__law_cell_at := _, F__law_cell_at := F10, m__law_cell_at := PySem.W.mg_of X G a10, b__law_cell_at := F10.binds (ps := P__law_cell_at) (fun _ _ _ _ _ _ us hl => match us, hl with | [_, _], _ => rfl), a__law_word := f11, fd__law_word := _, F__law_word := F11, m__law_word := PySem.W.mg_of X G a11, b__law_word := F11.binds (ps := P__law_word) (fun _ _ _ _ _ _ us hl => match us, hl with | [_], _ => rfl), a__law_tree := f12, fd__law_tree := _, F__law_tree := F12, m__law_tree := PySem.W.mg_of X G a12, b__law_tree := F12.binds (ps := P__law_tree) (fun _ _ _ _ _ _ us hl => match us, hl with | [_, _], _ => rfl), a__law_end := f13, fd__law_end := _, F__law_end := F13, m__law_end := PySem.W.mg_of X G a13, b__law_end := F13.binds (ps := P__law_end) (fun _ _ _ _ _ _ us hl => match us, hl with | [_, _], _ => rfl), a__law_changed := f14, fd__law_changed := _, F__law_changed := F14, m__law_changed := PySem.W.mg_of X G a14, b__law_changed := F14.binds (ps := P__law_changed) (fun _ _ _ _ _ _ us hl => match us, hl with | [_, _, _], _ => rfl), a__law_young := f15, fd__law_young := _, F__law_young := F15, m__law_young := PySem.W.mg_of X G a15, b__law_young := F15.binds (ps := P__law_young) (fun _ _ _ _ _ _ us hl => match us, hl with | [_, _], _ => rfl), a__law_draw := f16, fd__law_draw := _, F__law_draw := F16, m__law_draw := PySem.W.mg_of X G a16, b__law_draw := F16.binds (ps := P__law_draw) (fun _ _ _ _ _ _ us hl => match us, hl with | [_, _], _ => rfl), a__law_pairing := f17, fd__law_pairing := _, F__law_pairing := F17, m__law_pairing := PySem.W.mg_of X G a17, b__law_pairing := F17.binds (ps := P__law_pairing) (fun _ _ _ _ _ _ us hl => match us, hl with | [_, _, _], _ => rfl), a__law_laid := f18, fd__law_laid := _, F__law_laid := F18, m__law_laid := PySem.W.mg_of X G a18, b__law_laid := F18.binds (ps := P__law_laid) (fun _ _ _ _ _ _ us hl => match us, hl with | [_, _, _], _ => rfl), a__law_elder := f19, fd__law_elder := _, F__law_elder := F19, m__law_elder := PySem.W.mg_of X G a19, b__law_elder := F19.binds (ps := P__law_elder) (fun _ _ _ _ _ _ us hl => match us, hl with | [_, _], _ => rfl), a__law_is_tree := f20, fd__law_is_tree := _, F__law_is_tree := F20, m__law_is_tree := PySem.W.mg_of X G a20, b__law_is_tree := F20.binds (ps := P__law_is_tree) (fun _ _ _ _ _ _ us hl => match us, hl with | [_], _ => rfl), a__law_words := f21, fd__law_words := _, F__law_words := F21, m__law_words := PySem.W.mg_of X G a21, b__law_words := F21.binds (ps := P__law_words) (fun _ _ _ _ _ _ us hl => match us, hl with | [_], _ => rfl), a__law_due := f22, fd__law_due := _, F__law_due := F22, m__law_due := PySem.W.mg_of X G a22, b__law_due := F22.binds (ps := P__law_due) (fun _ _ _ _ _ _ us hl => match us, hl with | [_], _ => rfl), a__law_row := f23, fd__law_row := _, F__law_row := F23, m__law_row := PySem.W.mg_of X G a23, b__law_row := F23.binds (ps := P__law_row) (fun _ _ _ _ _ _ us hl => match us, hl with | [_, _], _ => rfl), a__law_spoilt := f24, fd__law_spoilt := _, F__law_spoilt := F24, m__law_spoilt := PySem.W.mg_of X G a24, b__law_spoilt := F24.binds (ps := P__law_spoilt) (fun _ _ _ _ _ _ us hl => match us, hl with | [_, _], _ => rfl), a__law_rows := f25, fd__law_rows := _, F__law_rows := F25, m__law_rows := PySem.W.mg_of X G a25, b__law_rows := F25.binds (ps := P__law_rows) (fun _ _ _ _ _ _ us hl => match us, hl with | [_], _ => rfl), a__law_refused := f26, fd__law_refused := _, F__law_refused := F26, m__law_refused := PySem.W.mg_of X G a26, b__law_refused := F26.binds (ps := P__law_refused) (fun _ _ _ _ _ _ us hl => match us, hl with | [_], _ => rfl), a_law := fa, fd_law := _, F_law := F27, m_law := PySem.W.mg_of X G a27, b_law := F27.binds (ps := P_law) (fun _ _ _ _ _ _ us hl => match us, hl with | [_], _ => rfl), a_NoRows := c_NoRows, mx_NoRows := PySem.W.mg_of X G an_NoRows, a_NoName := c_NoName, mx_NoName := PySem.W.mg_of X G an_NoName, a_Lacks := c_Lacks, mx_Lacks := PySem.W.mg_of X G an_Lacks, a_Touch := c_Touch, mx_Touch := PySem.W.mg_of X G an_Touch, a_NoFit := c_NoFit, mx_NoFit := PySem.W.mg_of X G an_NoFit, a_Twice := c_Twice, mx_Twice := PySem.W.mg_of X G an_Twice, a_NoMark := c_NoMark, mx_NoMark := PySem.W.mg_of X G an_NoMark, a_NoTree := c_NoTree, mx_NoTree := PySem.W.mg_of X G an_NoTree, a_TooMany := c_TooMany, mx_TooMany := PySem.W.mg_of X G an_TooMany, a_NoPlace := c_NoPlace, mx_NoPlace := PySem.W.mg_of X G an_NoPlace, a_NoNode := c_NoNode, mx_NoNode := PySem.W.mg_of X G an_NoNode, a_NoText := c_NoText, mx_NoText := PySem.W.mg_of X G an_NoText, a_NoMake := c_NoMake, mx_NoMake := PySem.W.mg_of X G an_NoMake, a_NoProgram := c_NoProgram, mx_NoProgram := PySem.W.mg_of X G an_NoProgram, a_MendError := c_MendError, mx_MendError := PySem.W.mg_of X G an_MendError, x_NoRows := ⟨PySem.W.mg_of X G an_NoRows, an_NoRows, ax_NoRows, ak_NoRows, as_NoRows, at_NoRows, ad_NoRows⟩, e_NoRows := ⟨ehg_NoRows, ehk_NoRows, as_NoRows, ad_NoRows, eha_NoRows, ehn, eht, ehm_NoRows⟩, sub_NoRows_NoRows := sub_NoRows_NoRows, kit_NoRows_NoName := kit_NoRows_NoName, kit_NoRows_Lacks := kit_NoRows_Lacks, kit_NoRows_Touch := kit_NoRows_Touch, kit_NoRows_NoFit := kit_NoRows_NoFit, kit_NoRows_Twice := kit_NoRows_Twice, kit_NoRows_NoMark := kit_NoRows_NoMark, kit_NoRows_NoTree := kit_NoRows_NoTree, kit_NoRows_TooMany := kit_NoRows_TooMany, kit_NoRows_NoPlace := kit_NoRows_NoPlace, kit_NoRows_NoNode := kit_NoRows_NoNode, kit_NoRows_NoText := kit_NoRows_NoText, kit_NoRows_NoMake := kit_NoRows_NoMake, kit_NoRows_NoProgram := kit_NoRows_NoProgram, kit_NoRows_ValueError := kit_NoRows_ValueError, kit_NoRows_MendError := kit_NoRows_MendError, z_enumerate := PySem.W.mg_none_of X G z_enumerate, z_len := PySem.W.mg_none_of X G z_len, z_list := PySem.W.mg_none_of X G z_list, z_zip := PySem.W.mg_none_of X G z_zip, z_range := PySem.W.mg_none_of X G z_range, z_min := PySem.W.mg_none_of X G z_min, z_int := PySem.W.mg_none_of X G z_int, z_sorted := PySem.W.mg_none_of X G z_sorted, z_max := PySem.W.mg_none_of X G z_max, z_isinstance := PySem.W.mg_none_of X G z_isinstance, z_ValueError := PySem.W.mg_none_of X G z_ValueError, t_MOST := t_MOST, c_MOST := PySem.W.mg_of X G q_MOST, t_DEEP := t_DEEP, c_DEEP := PySem.W.mg_of X G q_DEEP, t_SIGNS := t_SIGNS, c_SIGNS := PySem.W.mg_of X G q_SIGNS }
  exact ⟨PySem.W.fnOf "law" "law" (defArgs s_law) (defBody s_law) (defScope s_law) .none kV27 dc27 pm27 an27 cd27 ct27, fun s v => .of_eq rfl, fun base _ _ => ok_law T⟩
end Law
open PySem PySem.W PyProof.Rows
set_option maxRecDepth 100000 in
set_option maxHeartbeats 0 in
theorem PySem.Challenge.cw_treemend_k24_rows_read_or_refused_holds : PySem.Challenge.rw_treemend_k24_rows_read_or_refused.Holds := by
  w_on; o_law; k_head; (case hw => w_witness2)
  k_fill
  refine L2.walk_ofB (l := PySem.Challenge.rw_treemend_k24_rows_read_or_refused) (n := 63) (k := 6) (x := "script") (CX := fun _ => L2.CX0) (sp := fun w => Tm.spD _ Tm.specLaw) rfl (by decide) rfl ⟨rfl, by decide, by decide⟩ (fun w h Y => PySem.W.kIn_of Y) ?F (fun _ _ a ns hl hb _ hS => Tm.law_in hl hb hS) (fun _ _ _ _ _ h => h)
  case F =>
    intro w mg fa h KX G hmg
    refine' Law.all_mk KX G hmg ?a0 ?l0 ?c0 ?k0 ?a1 ?l1 ?c1 ?k1 ?a2 ?l2 ?c2 ?k2 ?a3 ?l3 ?c3 ?k3 ?a4 ?l4 ?c4 ?k4 ?a5 ?l5 ?c5 ?k5 ?a6 ?l6 ?c6 ?k6 ?a7 ?l7 ?c7 ?k7 ?a8 ?l8 ?c8 ?k8 ?a9 ?l9 ?c9 ?k9 ?a10 ?l10 ?c10 ?k10 ?a11 ?l11 ?c11 ?k11 ?a12 ?l12 ?c12 ?k12 ?a13 ?l13 ?c13 ?k13 ?a14 ?l14 ?c14 ?k14 ?a15 ?l15 ?c15 ?k15 ?a16 ?l16 ?c16 ?k16 ?a17 ?l17 ?c17 ?k17 ?a18 ?l18 ?c18 ?k18 ?a19 ?l19 ?c19 ?k19 ?a20 ?l20 ?c20 ?k20 ?a21 ?l21 ?c21 ?k21 ?a22 ?l22 ?c22 ?k22 ?a23 ?l23 ?c23 ?k23 ?a24 ?l24 ?c24 ?k24 ?a25 ?l25 ?c25 ?k25 ?a26 ?l26 ?c26 ?k26 ?a27 ?l27 ?c27 ?k27 ?an_NoRows ?ax_NoRows ?ak_NoRows ?as_NoRows ?at_NoRows ?ad_NoRows ?an_NoName ?an_Lacks ?an_Touch ?an_NoFit ?an_Twice ?an_NoMark ?an_NoTree ?an_TooMany ?an_NoPlace ?an_NoNode ?an_NoText ?an_NoMake ?an_NoProgram ?an_MendError ?ehg_NoRows ?ehk_NoRows ?eha_NoRows ?ehm_NoRows ?sub_NoRows_NoRows ?kit_NoRows_NoName ?kit_NoRows_Lacks ?kit_NoRows_Touch ?kit_NoRows_NoFit ?kit_NoRows_Twice ?kit_NoRows_NoMark ?kit_NoRows_NoTree ?kit_NoRows_TooMany ?kit_NoRows_NoPlace ?kit_NoRows_NoNode ?kit_NoRows_NoText ?kit_NoRows_NoMake ?kit_NoRows_NoProgram ?kit_NoRows_ValueError ?kit_NoRows_MendError ?ehn ?eht ?z_enumerate ?z_len ?z_list ?z_zip ?z_range ?z_min ?z_int ?z_sorted ?z_max ?z_isinstance ?z_ValueError ?q_MOST ?q_DEEP ?q_SIGNS
    (case a0 => k_is)
    (case l0 => k_is)
    (case c0 => k_is)
    (case k0 => k_is)
    (case a1 => k_is)
    (case l1 => k_is)
    (case c1 => k_is)
    (case k1 => k_is)
    (case a2 => k_is)
    (case l2 => k_is)
    (case c2 => k_is)
    (case k2 => k_is)
    (case a3 => k_is)
    (case l3 => k_is)
    (case c3 => k_is)
    (case k3 => k_is)
    (case a4 => k_is)
    (case l4 => k_is)
    (case c4 => k_is)
    (case k4 => k_is)
    (case a5 => k_is)
    (case l5 => k_is)
    (case c5 => k_is)
    (case k5 => k_is)
    (case a6 => k_is)
    (case l6 => k_is)
    (case c6 => k_is)
    (case k6 => k_is)
    (case a7 => k_is)
    (case l7 => k_is)
    (case c7 => k_is)
    (case k7 => k_is)
    (case a8 => k_is)
    (case l8 => k_is)
    (case c8 => k_is)
    (case k8 => k_is)
    (case a9 => k_is)
    (case l9 => k_is)
    (case c9 => k_is)
    (case k9 => k_is)
    (case a10 => k_is)
    (case l10 => k_is)
    (case c10 => k_is)
    (case k10 => k_is)
    (case a11 => k_is)
    (case l11 => k_is)
    (case c11 => k_is)
    (case k11 => k_is)
    (case a12 => k_is)
    (case l12 => k_is)
    (case c12 => k_is)
    (case k12 => k_is)
    (case a13 => k_is)
    (case l13 => k_is)
    (case c13 => k_is)
    (case k13 => k_is)
    (case a14 => k_is)
    (case l14 => k_is)
    (case c14 => k_is)
    (case k14 => k_is)
    (case a15 => k_is)
    (case l15 => k_is)
    (case c15 => k_is)
    (case k15 => k_is)
    (case a16 => k_is)
    (case l16 => k_is)
    (case c16 => k_is)
    (case k16 => k_is)
    (case a17 => k_is)
    (case l17 => k_is)
    (case c17 => k_is)
    (case k17 => k_is)
    (case a18 => k_is)
    (case l18 => k_is)
    (case c18 => k_is)
    (case k18 => k_is)
    (case a19 => k_is)
    (case l19 => k_is)
    (case c19 => k_is)
    (case k19 => k_is)
    (case a20 => k_is)
    (case l20 => k_is)
    (case c20 => k_is)
    (case k20 => k_is)
    (case a21 => k_is)
    (case l21 => k_is)
    (case c21 => k_is)
    (case k21 => k_is)
    (case a22 => k_is)
    (case l22 => k_is)
    (case c22 => k_is)
    (case k22 => k_is)
    (case a23 => k_is)
    (case l23 => k_is)
    (case c23 => k_is)
    (case k23 => k_is)
    (case a24 => k_is)
    (case l24 => k_is)
    (case c24 => k_is)
    (case k24 => k_is)
    (case a25 => k_is)
    (case l25 => k_is)
    (case c25 => k_is)
    (case k25 => k_is)
    (case a26 => k_is)
    (case l26 => k_is)
    (case c26 => k_is)
    (case k26 => k_is)
    (case a27 => k_is)
    (case l27 => k_is)
    (case c27 => k_is)
    (case k27 => k_is)
    (case an_NoRows => k_is)
    (case ax_NoRows => k_exc)
    (case ak_NoRows => k_is)
    (case as_NoRows => first | rfl | k_is)
    (case at_NoRows => k_is)
    (case ad_NoRows => k_is)
    (case an_NoName => k_is)
    (case an_Lacks => k_is)
    (case an_Touch => k_is)
    (case an_NoFit => k_is)
    (case an_Twice => k_is)
    (case an_NoMark => k_is)
    (case an_NoTree => k_is)
    (case an_TooMany => k_is)
    (case an_NoPlace => k_is)
    (case an_NoNode => k_is)
    (case an_NoText => k_is)
    (case an_NoMake => k_is)
    (case an_NoProgram => k_is)
    (case an_MendError => k_is)
    (case ehg_NoRows => k_is)
    (case ehk_NoRows => k_is)
    (case eha_NoRows => k_is)
    (case ehm_NoRows => k_is)
    (case sub_NoRows_NoRows => first | rfl | k_is)
    (case kit_NoRows_NoName => first | rfl | k_is)
    (case kit_NoRows_Lacks => first | rfl | k_is)
    (case kit_NoRows_Touch => first | rfl | k_is)
    (case kit_NoRows_NoFit => first | rfl | k_is)
    (case kit_NoRows_Twice => first | rfl | k_is)
    (case kit_NoRows_NoMark => first | rfl | k_is)
    (case kit_NoRows_NoTree => first | rfl | k_is)
    (case kit_NoRows_TooMany => first | rfl | k_is)
    (case kit_NoRows_NoPlace => first | rfl | k_is)
    (case kit_NoRows_NoNode => first | rfl | k_is)
    (case kit_NoRows_NoText => first | rfl | k_is)
    (case kit_NoRows_NoMake => first | rfl | k_is)
    (case kit_NoRows_NoProgram => first | rfl | k_is)
    (case kit_NoRows_ValueError => first | rfl | k_is)
    (case kit_NoRows_MendError => first | rfl | k_is)
    (case ehn => k_is)
    (case eht => k_is)
    (case z_enumerate => k_is)
    (case z_len => k_is)
    (case z_list => k_is)
    (case z_zip => k_is)
    (case z_range => k_is)
    (case z_min => k_is)
    (case z_int => k_is)
    (case z_sorted => k_is)
    (case z_max => k_is)
    (case z_isinstance => k_is)
    (case z_ValueError => k_is)
    (case q_MOST => k_is)
    (case q_DEEP => k_is)
    (case q_SIGNS => k_is)
#print axioms PySem.Challenge.cw_treemend_k24_rows_read_or_refused_holds
