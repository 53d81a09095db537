import PyProof.Rows.All
import Wide.All
import OpenK.AllK
import Wide.FinOn
import HandS.ForMost
import HandS.Wide
import KE.KDictKeyed
import HandS.CallSlots
import HandS.TupAny
import HandS.Style
import HandS.IsInst
import PyProof.SliceStr
import HandS.More
import PyProof.SliceStr2
import HandS.SortInts
import HandS.Flt
import PyProof.Draws
import PyProof.EnumMake
import HandS.Codes
import HandS.WordsExc
import HandS.ExcIs
import HandS.SortRule
import HandS.Dict
import HandS.Deep
import HandS.NoneIn
import HandS.WordsDict
import HandS.TupLen
import KE.GoesEnumKw
import HandS.Conv
import HandS.StrMore
import PyProof.ListIndex
import PyProof.ListIndexNeg
import HandS.SetKeys
import KE.SortData
import KE.KEqDict
import HandS.Zip
import HandS.ClsMeth
import HandS.SetFor
import HandS.Strs
import HandS.Finally
import KE.KEqNest
import PyProof.NeKinds
import HandS.DictTup
import HandS.EndBits
import PySem.Challenge.RW_treemend_k51_words_meet_spots
set_option Elab.async false
set_option linter.all false
set_option maxRecDepth 100000
set_option maxHeartbeats 1000000
/-! Pure data over the hand layer: every value is told as data (D), what may still change is owned by one place. -/
namespace Tm
open PySem PySem.Spec PyProof.Rows L2

/-- a dict's keys: whole numbers and texts, or tuples of these -/
inductive DKeys where
  | k (ks : List L2.Key)
  | t (ks : List (List L2.Key))
def DKeys.len : DKeys → Nat
  | .k ks => ks.length
  | .t ks => ks.length
def DKeys.ho : DKeys → List V → HO
  | .k ks, vs => .dK (ks.zip vs)
  | .t ks, vs => .dT (ks.zip vs)
/-- whose an object is: frozen, one place's, one place's at a known address -/
inductive Own where
  | f | t | p (a : Addr)
def Own.dirty : Own → Bool
  | .f => false
  | _ => true
mutual
/-- no texts in it -/
def noTx : NestedKey → Bool
  | .text _ => false
  | .tup ks => noTxs ks
  | _ => true
def noTxs : List NestedKey → Bool
  | [] => true
  | k :: ks => noTx k && noTxs ks
end
/-- a tuple, or not -/
def isTp : NestedKey → Bool
  | .tup _ => true
  | _ => false
/-- good for a key of such a dict: no texts, not too deep; all tuples, or all not -/
def okK (t : Bool) (k : NestedKey) : Bool := (noTx k || t) && decide (k.depth ≤ 8) && (isTp k == t)
/-- a dict whose keys are nested tuples of whole numbers and None, or whole numbers and None: key, the key's own value, what it holds -/
abbrev XT := List (NestedKey × V × V)
abbrev XE (W : World) : NestedKey × V × V → DictEntry → Prop := fun t e => RelV t.2.1 e.key ∧ e.hash = t.1.hash W ∧ RelV t.2.2 e.val
def XO (W : World) (a : Addr) (ts : XT) : HO := .ext fun h => ts.length ≤ sizeLine ∧ (a == sysModules) = false ∧ ∃ o es ep, h.get? a = some o ∧ o.ExactDict ∧ o.data = .dict es ep ∧ Paired (XE W) ts es.toList ∧ (ts.map (·.1)).Nodup
/-- data; a list may be owned (true: it may still be changed, by the one place that has it) or frozen -/
inductive D where
  | non | bl (b : Bool) | int (i : Int) | str (x : Str)
  | tup (ds : List D) | lst (o : Bool) (ds : List D) | seq (ds : List D)
  | ref (a : Addr) | ty (n : String)
  | dct (o : Bool) (kd : DKeys) (ds : List D)
  | pin (a : Addr) (ds : List D)
  | obj (o : Own) (c : Str) (ns : List Str) (ds : List D)
  | xd (o t : Bool) (ks : List NestedKey) (ds : List D)

mutual
/-- a key, as data -/
def kD : NestedKey → D
  | .none => .non
  | .num i => .int i
  | .text x => .str x
  | .tup ks => .tup (kDs ks)
def kDs : List NestedKey → List D
  | [] => []
  | k :: ks => kD k :: kDs ks
end
mutual
def dirty : D → Bool
  | .tup ds => dirtys ds
  | .lst o _ => o
  | .dct o _ _ => o
  | .pin _ _ => true
  | .obj o _ _ _ => o.dirty
  | .xd o _ _ _ => o
  | _ => false
def dirtys : List D → Bool
  | [] => false
  | d :: ds => dirty d || dirtys ds
end
mutual
def fz : D → D
  | .tup ds => .tup (fzs ds)
  | .lst _ ds => .lst false (fzs ds)
  | .dct _ kd ds => .dct false kd (fzs ds)
  | .pin _ ds => .lst false (fzs ds)
  | .obj _ c ns ds => .obj .f c ns (fzs ds)
  | .xd _ t ks ds => .xd false t ks (fzs ds)
  | .non => .non
  | .bl b => .bl b
  | .int i => .int i
  | .str x => .str x
  | .seq ds => .seq ds
  | .ref a => .ref a
  | .ty n => .ty n
def fzs : List D → List D
  | [] => []
  | d :: ds => fz d :: fzs ds
end
mutual
/-- does not lean on anything frozen -/
def selfc : D → Bool
  | .tup ds => selfcs ds
  | .lst o ds => o && selfcs ds
  | .dct o _ ds => o && selfcs ds
  | .pin _ ds => selfcs ds
  | .obj o _ _ ds => o.dirty && selfcs ds
  | .xd o _ _ ds => o && selfcs ds
  | .seq _ => false
  | _ => true
def selfcs : List D → Bool
  | [] => true
  | d :: ds => selfc d && selfcs ds
end
theorem dirtys_app : ∀ (a b : List D), dirtys (a ++ b) = (dirtys a || dirtys b)
  | [], b => by simp [dirtys]
  | d :: a, b => by simp [dirtys, dirtys_app a b, Bool.or_assoc]
theorem fzs_map : ∀ (ds : List D), fzs ds = ds.map fz
  | [] => by simp [fzs]
  | d :: ds => by simp [fzs, fzs_map ds]
theorem dirtys_false : ∀ {ds : List D}, dirtys ds = false ↔ ∀ d ∈ ds, dirty d = false
  | [] => by simp [dirtys]
  | d :: ds => by simp [dirtys, dirtys_false (ds := ds)]
theorem selfcs_true : ∀ {ds : List D}, selfcs ds = true ↔ ∀ d ∈ ds, selfc d = true
  | [] => by simp [selfcs]
  | d :: ds => by simp [selfcs, selfcs_true (ds := ds)]

mutual
theorem kD_self : ∀ (k : NestedKey), selfc (kD k) = true
  | .none => rfl
  | .num _ => rfl
  | .text _ => rfl
  | .tup ks => by rw [kD, selfc]; exact kDs_self ks
theorem kDs_self : ∀ (ks : List NestedKey), selfcs (kDs ks) = true
  | [] => rfl
  | k :: ks => by rw [kDs, selfcs, kD_self k, kDs_self ks]; rfl
end
mutual
theorem kD_dirty : ∀ (k : NestedKey), dirty (kD k) = false
  | .none => rfl
  | .num _ => rfl
  | .text _ => rfl
  | .tup ks => by rw [kD, dirty]; exact kDs_dirty ks
theorem kDs_dirty : ∀ (ks : List NestedKey), dirtys (kDs ks) = false
  | [] => rfl
  | k :: ks => by rw [kDs, dirtys, kD_dirty k, kDs_dirty ks]; rfl
end
theorem kDs_map : ∀ (ks : List NestedKey), kDs ks = ks.map kD
  | [] => rfl
  | k :: ks => by rw [kDs, kDs_map ks]; rfl
/-! ### values and data -/
/-- what the text has, and the world it runs in -/
structure KW where
  K : PySem.W.Frag
  w : World
instance : CoeOut KW PySem.W.Frag := ⟨KW.K⟩
abbrev _root_.L2.Cx.kw (X : L2.Cx) : KW := ⟨X.K, X.w⟩
abbrev Ex (H H' : Hp) : Prop := Same H H'
theorem Ex.new {H : Hp} {p : Addr} {o : HO} (h : H p = none) : Ex H (upd H p o) := fun a u e => by
  rw [upd_ne (ne_of_none e h)]; exact e
mutual
inductive Rep (K : KW) (F H : Hp) : V → D → List Addr → Prop
  | non : Rep K F H .non .non []
  | bl (b : Bool) : Rep K F H (.bl b) (.bl b) []
  | int (i : Int) : Rep K F H (.int i) (.int i) []
  | str (x : Str) : Rep K F H (.str x) (.str x) []
  | ref (a : Addr) : Rep K F H (.ref a) (.ref a) []
  | ty (n : String) : Rep K F H (.ty n) (.ty n) []
  | tup {a : Addr} {vs : List V} {ds : List D} {A : List Addr} : H a = some (.tup vs) → Reps K F H vs ds A → Rep K F H (.ref a) (.tup ds) A
  | fz {a : Addr} {vs : List V} {ds : List D} : F a = some (.lst vs) → Reps K F H vs ds [] → Rep K F H (.ref a) (.lst false ds) []
  | own {a : Addr} {vs : List V} {ds : List D} {A : List Addr} : H a = some (.lst vs) → Reps K F H vs ds A → Rep K F H (.ref a) (.lst true ds) (a :: A)
  | seq {a : Addr} {vs : List V} {ds : List D} : SqL K.K F a vs → Reps K F H vs ds [] → Rep K F H (.ref a) (.seq ds) []
  | dF {a : Addr} {vs : List V} {kd : DKeys} {ds : List D} : F a = some (kd.ho vs) → kd.len = vs.length → Reps K F H vs ds [] → Rep K F H (.ref a) (.dct false kd ds) []
  | dL {a : Addr} {od : Obj} {vs : List V} {kd : DKeys} {ds : List D} : F a = some (.frz od (kd.ho vs)) → kd.len = vs.length → Reps K F H vs ds [] → Rep K F H (.ref a) (.dct false kd ds) []
  | dO {a : Addr} {vs : List V} {kd : DKeys} {ds : List D} {A : List Addr} : H a = some (kd.ho vs) → kd.len = vs.length → Reps K F H vs ds A → Rep K F H (.ref a) (.dct true kd ds) (a :: A)
  | pin {a : Addr} {vs : List V} {ds : List D} {A : List Addr} : H a = some (.lst vs) → Reps K F H vs ds A → Rep K F H (.ref a) (.pin a ds) (a :: A)
  | oF {a C dx : Addr} {c : Str} {ns : List Str} {vs : List V} {ds : List D} : F a = some (.ins C dx (ns.zip vs)) → PySem.W.nsIn K mainGlobals c = some (some (.ref C)) → ns.length = vs.length → Reps K F H vs ds [] → Rep K F H (.ref a) (.obj .f c ns ds) []
  | oO {a C dx : Addr} {c : Str} {ns : List Str} {vs : List V} {ds : List D} {A : List Addr} : H a = some (.ins C dx (ns.zip vs)) → PySem.W.nsIn K mainGlobals c = some (some (.ref C)) → ns.length = vs.length → Reps K F H vs ds A → Rep K F H (.ref a) (.obj .t c ns ds) (a :: A)
  | oP {a C dx : Addr} {c : Str} {ns : List Str} {vs : List V} {ds : List D} {A : List Addr} : H a = some (.ins C dx (ns.zip vs)) → PySem.W.nsIn K mainGlobals c = some (some (.ref C)) → ns.length = vs.length → Reps K F H vs ds A → Rep K F H (.ref a) (.obj (.p a) c ns ds) (a :: A)
  | xF {a : Addr} {t : Bool} {ts : XT} {ks : List NestedKey} {ds : List D} : F a = some (XO K.w a ts) → ks = ts.map (·.1) → (∀ k ∈ ks, okK t k = true) → Reps K F H (ts.map (·.2.1)) (kDs ks) [] → Reps K F H (ts.map (·.2.2)) ds [] → Rep K F H (.ref a) (.xd false t ks ds) []
  | xO {a : Addr} {t : Bool} {ts : XT} {ks : List NestedKey} {ds : List D} : H a = some (XO K.w a ts) → ks = ts.map (·.1) → (∀ k ∈ ks, okK t k = true) → Reps K F H (ts.map (·.2.1)) (kDs ks) [] → Reps K F H (ts.map (·.2.2)) ds [] → Rep K F H (.ref a) (.xd true t ks ds) [a]
inductive Reps (K : KW) (F H : Hp) : List V → List D → List Addr → Prop
  | nil : Reps K F H [] [] []
  | cons {v : V} {vs : List V} {d : D} {ds : List D} {A B C : List Addr} : Rep K F H v d A → Reps K F H vs ds B → C = A ++ B → Reps K F H (v :: vs) (d :: ds) C
end
section
variable {K : KW} {F F' H H' : Hp}
theorem same_sqT {a : Addr} {xs : List V} (e : Ex H H') (h : SqT K H a xs) : SqT K H' a xs := by
  rcases h with (h | ⟨o, h⟩) | h
  · exact .inl (.inl (e _ _ h))
  · exact .inl (.inr ⟨o, e _ _ h⟩)
  · exact .inr h
mutual
theorem Rep.mono (hF : Ex F F') (hT : ∀ a xs, H a = some (.tup xs) → H' a = some (.tup xs)) : ∀ {v : V} {d : D} {A : List Addr}, Rep K F H v d A → (∀ a ∈ A, H' a = H a) → Rep K F' H' v d A
  | _, _, _, .non, _ => .non
  | _, _, _, .bl b, _ => .bl b
  | _, _, _, .int i, _ => .int i
  | _, _, _, .str x, _ => .str x
  | _, _, _, .ref a, _ => .ref a
  | _, _, _, .ty n, _ => .ty n
  | _, _, _, .tup h r, hA => .tup (hT _ _ h) (Reps.mono hF hT r hA)
  | _, _, _, .fz h r, hA => .fz (hF _ _ h) (Reps.mono hF hT r hA)
  | _, _, _, .own h r, hA => .own ((hA _ List.mem_cons_self).trans h) (Reps.mono hF hT r fun a ha => hA a (List.mem_cons_of_mem _ ha))
  | _, _, _, .seq h r, hA => .seq (Same.seq hF h) (Reps.mono hF hT r hA)
  | _, _, _, .dF h e r, hA => .dF (hF _ _ h) e (Reps.mono hF hT r hA)
  | _, _, _, .dL h e r, hA => .dL (hF _ _ h) e (Reps.mono hF hT r hA)
  | _, _, _, .dO h e r, hA => .dO ((hA _ List.mem_cons_self).trans h) e (Reps.mono hF hT r fun a ha => hA a (List.mem_cons_of_mem _ ha))
  | _, _, _, .pin h r, hA => .pin ((hA _ List.mem_cons_self).trans h) (Reps.mono hF hT r fun a ha => hA a (List.mem_cons_of_mem _ ha))
  | _, _, _, .oF h n e r, hA => .oF (hF _ _ h) n e (Reps.mono hF hT r hA)
  | _, _, _, .oO h n e r, hA => .oO ((hA _ List.mem_cons_self).trans h) n e (Reps.mono hF hT r fun a ha => hA a (List.mem_cons_of_mem _ ha))
  | _, _, _, .oP h n e r, hA => .oP ((hA _ List.mem_cons_self).trans h) n e (Reps.mono hF hT r fun a ha => hA a (List.mem_cons_of_mem _ ha))
  | _, _, _, .xF h e g r1 r2, hA => .xF (hF _ _ h) e g (Reps.mono hF hT r1 hA) (Reps.mono hF hT r2 hA)
  | _, _, _, .xO h e g r1 r2, hA => .xO ((hA _ List.mem_cons_self).trans h) e g (Reps.mono hF hT r1 fun a ha => absurd ha List.not_mem_nil) (Reps.mono hF hT r2 fun a ha => absurd ha List.not_mem_nil)
theorem Reps.mono (hF : Ex F F') (hT : ∀ a xs, H a = some (.tup xs) → H' a = some (.tup xs)) : ∀ {vs : List V} {ds : List D} {A : List Addr}, Reps K F H vs ds A → (∀ a ∈ A, H' a = H a) → Reps K F' H' vs ds A
  | _, _, _, .nil, _ => .nil
  | _, _, _, .cons h r e, hA => .cons (Rep.mono hF hT h fun a ha => hA a (by rw [e]; exact List.mem_append_left _ ha)) (Reps.mono hF hT r fun a ha => hA a (by rw [e]; exact List.mem_append_right _ ha)) e
end
mutual
/-- what is owned is there -/
theorem Rep.there : ∀ {v : V} {d : D} {A : List Addr}, Rep K F H v d A → ∀ a ∈ A, ∃ o, H a = some o
  | _, _, _, .non, a, ha => absurd ha List.not_mem_nil
  | _, _, _, .bl b, a, ha => absurd ha List.not_mem_nil
  | _, _, _, .int i, a, ha => absurd ha List.not_mem_nil
  | _, _, _, .str x, a, ha => absurd ha List.not_mem_nil
  | _, _, _, .ref b, a, ha => absurd ha List.not_mem_nil
  | _, _, _, .ty n, a, ha => absurd ha List.not_mem_nil
  | _, _, _, .tup _ r, a, ha => Reps.there r a ha
  | _, _, _, .fz _ _, a, ha => absurd ha List.not_mem_nil
  | _, _, _, .own (vs := vs) h r, a, ha => (List.mem_cons.mp ha).elim (fun e => ⟨_, e ▸ h⟩) (fun ha => Reps.there r a ha)
  | _, _, _, .seq _ _, a, ha => absurd ha List.not_mem_nil
  | _, _, _, .dF _ _ _, a, ha => absurd ha List.not_mem_nil
  | _, _, _, .dL _ _ _, a, ha => absurd ha List.not_mem_nil
  | _, _, _, .dO h _ r, a, ha => (List.mem_cons.mp ha).elim (fun e => ⟨_, e ▸ h⟩) (fun ha => Reps.there r a ha)
  | _, _, _, .pin h r, a, ha => (List.mem_cons.mp ha).elim (fun e => ⟨_, e ▸ h⟩) (fun ha => Reps.there r a ha)
  | _, _, _, .oF _ _ _ _, a, ha => absurd ha List.not_mem_nil
  | _, _, _, .oO h _ _ r, a, ha => (List.mem_cons.mp ha).elim (fun e => ⟨_, e ▸ h⟩) (fun ha => Reps.there r a ha)
  | _, _, _, .oP h _ _ r, a, ha => (List.mem_cons.mp ha).elim (fun e => ⟨_, e ▸ h⟩) (fun ha => Reps.there r a ha)
  | _, _, _, .xF _ _ _ _ _, a, ha => absurd ha List.not_mem_nil
  | _, _, _, .xO h _ _ _ _, a, ha => ⟨_, (List.mem_singleton.mp ha) ▸ h⟩
theorem Reps.there : ∀ {vs : List V} {ds : List D} {A : List Addr}, Reps K F H vs ds A → ∀ a ∈ A, ∃ o, H a = some o
  | _, _, _, .nil, a, ha => absurd ha List.not_mem_nil
  | _, _, _, .cons h r e, a, ha => (List.mem_append.mp (by rw [← e]; exact ha)).elim (fun ha => Rep.there h a ha) (fun ha => Reps.there r a ha)
end
theorem Rep.ex (hF : Ex F F') (hH : Ex H H') {v : V} {d : D} {A : List Addr} (h : Rep K F H v d A) : Rep K F' H' v d A :=
  h.mono hF (fun _ _ z => hH _ _ z) fun a ha => by
    obtain ⟨xs, e⟩ := h.there a ha
    rw [e]; exact hH _ _ e
theorem Reps.ex (hF : Ex F F') (hH : Ex H H') {vs : List V} {ds : List D} {A : List Addr} (h : Reps K F H vs ds A) : Reps K F' H' vs ds A :=
  h.mono hF (fun _ _ z => hH _ _ z) fun a ha => by
    obtain ⟨xs, e⟩ := h.there a ha
    rw [e]; exact hH _ _ e
mutual
theorem Rep.clean : ∀ {v : V} {d : D} {A : List Addr}, Rep K F H v d A → dirty d = false → A = []
  | _, _, _, .non, _ => rfl
  | _, _, _, .bl b, _ => rfl
  | _, _, _, .int i, _ => rfl
  | _, _, _, .str x, _ => rfl
  | _, _, _, .ref a, _ => rfl
  | _, _, _, .ty n, _ => rfl
  | _, _, _, .tup h r, hd => Reps.clean r (by simpa [dirty] using hd)
  | _, _, _, .fz h r, _ => rfl
  | _, _, _, .own h r, hd => by simp [dirty] at hd
  | _, _, _, .seq h r, _ => rfl
  | _, _, _, .dF _ _ _, _ => rfl
  | _, _, _, .dL _ _ _, _ => rfl
  | _, _, _, .dO _ _ _, hd => by simp [dirty] at hd
  | _, _, _, .pin _ _, hd => by simp [dirty] at hd
  | _, _, _, .oF _ _ _ _, _ => rfl
  | _, _, _, .oO _ _ _ _, hd => by simp [dirty, Own.dirty] at hd
  | _, _, _, .oP _ _ _ _, hd => by simp [dirty, Own.dirty] at hd
  | _, _, _, .xF _ _ _ _ _, _ => rfl
  | _, _, _, .xO _ _ _ _ _, hd => by simp [dirty] at hd
theorem Reps.clean : ∀ {vs : List V} {ds : List D} {A : List Addr}, Reps K F H vs ds A → dirtys ds = false → A = []
  | _, _, _, .nil, _ => rfl
  | _, _, _, .cons h r e, hd => by
    simp only [dirtys, Bool.or_eq_false_iff] at hd
    rw [e, Rep.clean h hd.1, Reps.clean r hd.2]; rfl
end
mutual
/-- frozen: what was owned is in the frozen part now -/
theorem Rep.frozen (hF : Ex F F') : ∀ {v : V} {d : D} {A : List Addr}, Rep K F H v d A → (∀ a ∈ A, F' a = H a) → Rep K F' H v (Tm.fz d) []
  | _, _, _, .non, _ => by rw [Tm.fz]; exact .non
  | _, _, _, .bl b, _ => by rw [Tm.fz]; exact .bl b
  | _, _, _, .int i, _ => by rw [Tm.fz]; exact .int i
  | _, _, _, .str x, _ => by rw [Tm.fz]; exact .str x
  | _, _, _, .ref a, _ => by rw [Tm.fz]; exact .ref a
  | _, _, _, .ty n, _ => by rw [Tm.fz]; exact .ty n
  | _, _, _, .tup h r, hA => by rw [Tm.fz]; exact .tup h (Reps.frozen hF r hA)
  | _, _, _, .fz h r, hA => by rw [Tm.fz]; exact .fz (hF _ _ h) (Reps.frozen hF r hA)
  | _, _, _, .own h r, hA => by
    rw [Tm.fz]
    exact .fz ((hA _ List.mem_cons_self).trans h) (Reps.frozen hF r fun a ha => hA a (List.mem_cons_of_mem _ ha))
  | _, _, _, .seq h r, hA => by
    rw [Tm.fz]
    exact .seq (Same.seq hF h) (Reps.mono hF (fun _ _ z => z) r fun a ha => rfl)
  | _, _, _, .dF h e r, hA => by rw [Tm.fz]; exact .dF (hF _ _ h) e (Reps.frozen hF r hA)
  | _, _, _, .dL h e r, hA => by rw [Tm.fz]; exact .dL (hF _ _ h) e (Reps.frozen hF r hA)
  | _, _, _, .dO h e r, hA => by
    rw [Tm.fz]
    exact .dF ((hA _ List.mem_cons_self).trans h) e (Reps.frozen hF r fun a ha => hA a (List.mem_cons_of_mem _ ha))
  | _, _, _, .pin h r, hA => by
    rw [Tm.fz]
    exact .fz ((hA _ List.mem_cons_self).trans h) (Reps.frozen hF r fun a ha => hA a (List.mem_cons_of_mem _ ha))
  | _, _, _, .oF h n e r, hA => by rw [Tm.fz]; exact .oF (hF _ _ h) n e (Reps.frozen hF r hA)
  | _, _, _, .oO h n e r, hA => by
    rw [Tm.fz]
    exact .oF ((hA _ List.mem_cons_self).trans h) n e (Reps.frozen hF r fun a ha => hA a (List.mem_cons_of_mem _ ha))
  | _, _, _, .oP h n e r, hA => by
    rw [Tm.fz]
    exact .oF ((hA _ List.mem_cons_self).trans h) n e (Reps.frozen hF r fun a ha => hA a (List.mem_cons_of_mem _ ha))
  | _, _, _, .xF h e g r1 r2, hA => by
    rw [Tm.fz]
    exact .xF (hF _ _ h) e g (Reps.mono hF (fun _ _ z => z) r1 fun a ha => rfl) (Reps.frozen hF r2 hA)
  | _, _, _, .xO h e g r1 r2, hA => by
    rw [Tm.fz]
    exact .xF ((hA _ List.mem_cons_self).trans h) e g (Reps.mono hF (fun _ _ z => z) r1 fun a ha => rfl) (Reps.frozen hF r2 fun a ha => absurd ha List.not_mem_nil)
theorem Reps.frozen (hF : Ex F F') : ∀ {vs : List V} {ds : List D} {A : List Addr}, Reps K F H vs ds A → (∀ a ∈ A, F' a = H a) → Reps K F' H vs (fzs ds) []
  | _, _, _, .nil, _ => by rw [fzs]; exact .nil
  | _, _, _, .cons h r e, hA => by
    rw [fzs]
    exact .cons (Rep.frozen hF h fun a ha => hA a (by rw [e]; exact List.mem_append_left _ ha)) (Reps.frozen hF r fun a ha => hA a (by rw [e]; exact List.mem_append_right _ ha)) rfl
end
mutual
/-- what does not lean on the frozen part holds over any -/
theorem Rep.alone : ∀ {v : V} {d : D} {A : List Addr}, Rep K F H v d A → selfc d = true → Rep K F' H v d A
  | _, _, _, .non, _ => .non
  | _, _, _, .bl b, _ => .bl b
  | _, _, _, .int i, _ => .int i
  | _, _, _, .str x, _ => .str x
  | _, _, _, .ref a, _ => .ref a
  | _, _, _, .ty n, _ => .ty n
  | _, _, _, .tup h r, hd => .tup h (Reps.alone r (by simpa [selfc] using hd))
  | _, _, _, .fz h r, hd => by simp [selfc] at hd
  | _, _, _, .own h r, hd => .own h (Reps.alone r (by simpa [selfc] using hd))
  | _, _, _, .seq h r, hd => by simp [selfc] at hd
  | _, _, _, .dF _ _ _, hd => by simp [selfc] at hd
  | _, _, _, .dL _ _ _, hd => by simp [selfc] at hd
  | _, _, _, .dO h e r, hd => .dO h e (Reps.alone r (by simpa [selfc] using hd))
  | _, _, _, .pin h r, hd => .pin h (Reps.alone r (by simpa [selfc] using hd))
  | _, _, _, .oF h n e r, hd => by simp [selfc, Own.dirty] at hd
  | _, _, _, .oO h n e r, hd => .oO h n e (Reps.alone r (by simpa [selfc, Own.dirty] using hd))
  | _, _, _, .oP h n e r, hd => .oP h n e (Reps.alone r (by simpa [selfc, Own.dirty] using hd))
  | _, _, _, .xF _ _ _ _ _, hd => by simp [selfc] at hd
  | _, _, _, .xO h e g r1 r2, hd => .xO h e g (Reps.alone r1 (kDs_self _)) (Reps.alone r2 (by simpa [selfc] using hd))
theorem Reps.alone : ∀ {vs : List V} {ds : List D} {A : List Addr}, Reps K F H vs ds A → selfcs ds = true → Reps K F' H vs ds A
  | _, _, _, .nil, _ => .nil
  | _, _, _, .cons h r e, hd => by
    simp only [selfcs, Bool.and_eq_true] at hd
    exact .cons (Rep.alone h hd.1) (Reps.alone r hd.2) e
end
theorem Reps.length : ∀ {vs : List V} {ds : List D} {A : List Addr}, Reps K F H vs ds A → vs.length = ds.length
  | _, _, _, .nil => rfl
  | _, _, _, .cons _ r _ => by simp [Reps.length r]
theorem Reps.get : ∀ {vs : List V} {ds : List D} {A : List Addr} {i : Nat} {d : D}, Reps K F H vs ds A → ds[i]? = some d → ∃ v B, vs[i]? = some v ∧ Rep K F H v d B ∧ (∀ a ∈ B, a ∈ A)
  | _, _, _, 0, d, .cons h _ e, q => by
    simp at q; subst q
    exact ⟨_, _, rfl, h, fun a ha => by rw [e]; exact List.mem_append_left _ ha⟩
  | _, _, _, i + 1, d, .cons _ r e, q => by
    obtain ⟨v, B, h1, h2, h3⟩ := Reps.get (i := i) (d := d) r (by simpa using q)
    exact ⟨v, B, by simpa using h1, h2, fun a ha => by rw [e]; exact List.mem_append_right _ (h3 a ha)⟩
theorem Reps.get' : ∀ {vs : List V} {ds : List D} {A : List Addr} {i : Nat} {v : V}, Reps K F H vs ds A → vs[i]? = some v → ∃ d B, ds[i]? = some d ∧ Rep K F H v d B ∧ (∀ a ∈ B, a ∈ A) := fun {vs ds A i v} r q => by
  have hi : i < ds.length := by rw [← r.length]; exact (List.getElem?_eq_some_iff.mp q).1
  obtain ⟨v', B, h1, h2, h3⟩ := r.get (List.getElem?_eq_getElem hi)
  rw [q] at h1; cases h1
  exact ⟨_, B, List.getElem?_eq_getElem hi, h2, h3⟩
theorem Reps.app : ∀ {vs ws : List V} {ds es : List D} {A B : List Addr}, Reps K F H vs ds A → Reps K F H ws es B → Reps K F H (vs ++ ws) (ds ++ es) (A ++ B)
  | _, _, _, _, _, _, .nil, s => s
  | _, _, _, _, _, _, .cons h r e, s => .cons h (Reps.app r s) (by rw [e, List.append_assoc])
theorem Reps.split : ∀ {vs ws : List V} {ds : List D} {C : List Addr}, Reps K F H (vs ++ ws) ds C → ∃ d1 d2 A B, ds = d1 ++ d2 ∧ C = A ++ B ∧ Reps K F H vs d1 A ∧ Reps K F H ws d2 B
  | [], ws, ds, C, h => ⟨[], ds, [], C, rfl, rfl, .nil, h⟩
  | v :: vs, ws, _, _, .cons h r e => by
    obtain ⟨d1, d2, A, B, e1, e2, r1, r2⟩ := Reps.split r
    exact ⟨_ :: d1, d2, _ ++ A, B, by rw [e1]; rfl, by rw [e, e2, List.append_assoc], .cons h r1 rfl, r2⟩
/-- clean items by items -/
theorem Reps.of_clean {vs : List V} {ds : List D} (hl : vs.length = ds.length) (h : ∀ (i : Nat) (v : V) (d : D), vs[i]? = some v → ds[i]? = some d → Rep K F H v d []) : Reps K F H vs ds [] := by
  induction vs generalizing ds with
  | nil =>
    cases ds with
    | nil => exact .nil
    | cons d ds => simp at hl
  | cons v vs ih =>
    cases ds with
    | nil => simp at hl
    | cons d ds => exact .cons (h 0 v d rfl rfl) (ih (by simpa using hl) fun i v' d' h1 h2 => h (i + 1) v' d' (by simpa using h1) (by simpa using h2)) rfl
theorem Reps.clean_get {vs : List V} {ds : List D} {i : Nat} {v : V} {d : D} (r : Reps K F H vs ds []) (h1 : vs[i]? = some v) (h2 : ds[i]? = some d) : Rep K F H v d [] := by
  obtain ⟨v', B, e1, e2, e3⟩ := r.get h2
  rw [h1] at e1; cases e1
  have : B = [] := List.eq_nil_iff_forall_not_mem.mpr fun a ha => by have := e3 a ha; simp at this
  rw [this] at e2; exact e2
theorem Reps.ints : ∀ {vs : List V} {ns : List Int} {A : List Addr}, Reps K F H vs (ns.map D.int) A → vs = ns.map V.int ∧ A = []
  | _, [], _, .nil => ⟨rfl, rfl⟩
  | _, n :: ns, _, .cons h r e => by
    obtain ⟨e1, e2⟩ := Reps.ints r
    cases h
    exact ⟨by rw [e1]; rfl, by rw [e, e2]; rfl⟩
theorem Reps.of_ints : ∀ (ns : List Int), Reps K F H (ns.map V.int) (ns.map D.int) []
  | [] => .nil
  | n :: ns => .cons (.int n) (Reps.of_ints ns) rfl
end

/-! ### the slots -/
abbrev Env := List (Option D)
inductive Slots (K : KW) (F H : Hp) : L2.St → Env → List Addr → Prop
  | nil : Slots K F H [] [] []
  | skip {x : Option V} {σ : L2.St} {env : Env} {A : List Addr} : Slots K F H σ env A → Slots K F H (x :: σ) (none :: env) A
  | cons {v : V} {d : D} {σ : L2.St} {env : Env} {A B C : List Addr} : Rep K F H v d A → Slots K F H σ env B → C = A ++ B → Slots K F H (some v :: σ) (some d :: env) C
section
variable {K : KW} {F F' H H' : Hp}
theorem Slots.mono (hF : Ex F F') (hT : ∀ a xs, H a = some (.tup xs) → H' a = some (.tup xs)) : ∀ {σ : L2.St} {env : Env} {A : List Addr}, Slots K F H σ env A → (∀ a ∈ A, H' a = H a) → Slots K F' H' σ env A
  | _, _, _, .nil, _ => .nil
  | _, _, _, .skip r, hA => .skip (Slots.mono hF hT r hA)
  | _, _, _, .cons h r e, hA => .cons (h.mono hF hT fun a ha => hA a (by rw [e]; exact List.mem_append_left _ ha)) (Slots.mono hF hT r fun a ha => hA a (by rw [e]; exact List.mem_append_right _ ha)) e
theorem Slots.there : ∀ {σ : L2.St} {env : Env} {A : List Addr}, Slots K F H σ env A → ∀ a ∈ A, ∃ o, H a = some o
  | _, _, _, .nil, a, ha => absurd ha List.not_mem_nil
  | _, _, _, .skip r, a, ha => Slots.there r a ha
  | _, _, _, .cons h r e, a, ha => by
    rw [e] at ha
    rcases List.mem_append.mp ha with ha | ha
    · exact h.there a ha
    · exact Slots.there r a ha
theorem Slots.ex (hF : Ex F F') (hH : Ex H H') {σ : L2.St} {env : Env} {A : List Addr} (h : Slots K F H σ env A) : Slots K F' H' σ env A :=
  h.mono hF (fun _ _ z => hH _ _ z) fun a ha => by
    obtain ⟨xs, e⟩ := h.there a ha
    rw [e]; exact hH _ _ e
theorem Slots.length : ∀ {σ : L2.St} {env : Env} {A : List Addr}, Slots K F H σ env A → σ.length = env.length
  | _, _, _, .nil => rfl
  | _, _, _, .skip r => by simp [Slots.length r]
  | _, _, _, .cons _ r _ => by simp [Slots.length r]
/-- the i-th slot, and what may be put in its place -/
theorem Slots.at : ∀ {σ : L2.St} {env : Env} {A : List Addr} {i : Nat} {d : D}, Slots K F H σ env A → env[i]? = some (some d) → ∃ v A1 Ai A2, σ[i]? = some (some v) ∧ A = A1 ++ Ai ++ A2 ∧ Rep K F H v d Ai ∧
    Slots K F H σ (env.set i none) (A1 ++ A2) ∧
    ∀ {F' H' : Hp} {v' : V} {d' : D} {Ai' : List Addr}, Ex F F' → (∀ a xs, H a = some (.tup xs) → H' a = some (.tup xs)) → (∀ a ∈ A1 ++ A2, H' a = H a) → Rep K F' H' v' d' Ai' → Slots K F' H' (σ.set i (some v')) (env.set i (some d')) (A1 ++ Ai' ++ A2)
  | _, _, _, 0, d, .cons (A := A) (B := B) h r e, q => by
    simp at q; subst q
    refine ⟨_, [], A, B, rfl, by rw [e]; rfl, h, .skip r, fun hF hT hA h' => .cons h' (r.mono hF hT fun a ha => hA a (by simpa using ha)) (by simp)⟩
  | _, _, _, i + 1, d, .skip r, q => by
    obtain ⟨v, A1, Ai, A2, h1, h2, h3, h4, h5⟩ := Slots.at (i := i) (d := d) r (by simpa using q)
    exact ⟨v, A1, Ai, A2, by simpa using h1, h2, h3, .skip h4, fun hF hT hA h' => .skip (h5 hF hT hA h')⟩
  | _, _, _, i + 1, d, .cons (A := A) h r e, q => by
    obtain ⟨v, A1, Ai, A2, h1, h2, h3, h4, h5⟩ := Slots.at (i := i) (d := d) r (by simpa using q)
    refine ⟨v, A ++ A1, Ai, A2, by simpa using h1, by rw [e, h2]; simp [List.append_assoc], h3, .cons h h4 (by simp [List.append_assoc]), fun hF hT hA h' => ?_⟩
    refine .cons (h.mono hF hT fun a ha => hA a (by simp [ha])) (h5 hF hT (fun a ha => hA a (by simp at ha ⊢; rcases ha with ha | ha <;> simp [ha])) h') (by simp [List.append_assoc])
/-- any slot stored anew -/
theorem Slots.put : ∀ {σ : L2.St} {env : Env} {A : List Addr} {i : Nat} {v : V} {d : D} {B : List Addr}, Slots K F H σ env A → i < env.length → Rep K F H v d B →
    ∃ A1 A2 Ai, A = A1 ++ Ai ++ A2 ∧ Slots K F H (σ.set i (some v)) (env.set i (some d)) (A1 ++ B ++ A2)
  | _, _, _, 0, v, d, B, .skip (A := A) r, _, h => ⟨[], A, [], by simp, .cons h r (by simp)⟩
  | _, _, _, 0, v, d, B, .cons (A := A) (B := C) _ r e, _, h => ⟨[], C, A, by simp [e], .cons h r (by simp)⟩
  | _, _, _, i + 1, v, d, B, .skip r, hi, h => by
    obtain ⟨A1, A2, Ai, e, q⟩ := Slots.put (i := i) r (by simpa using hi) h
    exact ⟨A1, A2, Ai, e, .skip q⟩
  | _, _, _, i + 1, v, d, B, .cons (A := A) h0 r e0, hi, h => by
    obtain ⟨A1, A2, Ai, e, q⟩ := Slots.put (i := i) r (by simpa using hi) h
    exact ⟨A ++ A1, A2, Ai, by rw [e0, e]; simp [List.append_assoc], .cons h0 q (by simp [List.append_assoc])⟩
/-- slots forgotten -/
theorem Slots.drop : ∀ {σ : L2.St} {env : Env} {A : List Addr} (i : Nat), Slots K F H σ env A → ∃ B, Slots K F H σ (env.set i none) B ∧ B.Sublist A
  | _, _, _, _, .nil => ⟨[], by simpa using Slots.nil, List.Sublist.refl _⟩
  | _, _, _, 0, .skip r => ⟨_, .skip r, List.Sublist.refl _⟩
  | _, _, _, 0, .cons h r e => ⟨_, .skip r, by rw [e]; exact List.sublist_append_right _ _⟩
  | _, _, _, i + 1, .skip r => by
    obtain ⟨B, q, s⟩ := Slots.drop i r
    exact ⟨B, .skip q, s⟩
  | _, _, _, i + 1, .cons (A := A) h r e => by
    obtain ⟨B, q, s⟩ := Slots.drop i r
    exact ⟨A ++ B, .cons h q rfl, by rw [e]; exact List.Sublist.append (List.Sublist.refl _) s⟩
end
end Tm

set_option Elab.async false
set_option linter.all false
set_option maxRecDepth 100000
set_option maxHeartbeats 1000000
namespace Tm
open PySem PySem.Spec PyProof.Rows L2

/-! ### the state -/
structure Sta (K : KW) (F0 H0 F H : Hp) (σ : L2.St) (env : Env) (pv : List V) (pd : List D) : Prop where
  exF : Ex F0 F
  exH : Ex H0 H
  sub : Ex F H
  new : ∀ a, F a ≠ none → F0 a ≠ none ∨ H0 a = none
  own : ∃ A B, Slots K F H σ env A ∧ Reps K F H pv pd B ∧ (A ++ B).Nodup ∧ ∀ a ∈ A ++ B, F a = none ∧ H0 a = none
section
variable {K : KW} {F0 H0 F F' H H' : Hp} {σ : L2.St} {env : Env} {pv : List V} {pd : List D}
theorem Ex.none {H H' : Hp} (e : Ex H H') {a : Addr} (h : H' a = Option.none) : H a = Option.none := e.free h
theorem Sta.grow (S : Sta K F0 H0 F H σ env pv pd) (e : Ex H H') : Sta K F0 H0 F H' σ env pv pd := by
  obtain ⟨A, B, h1, h2, h3, h4⟩ := S.own
  exact ⟨S.exF, S.exH.trans e, S.sub.trans e, S.new, A, B, h1.ex (Same.refl _) e, h2.ex (Same.refl _) e, h3, h4⟩
/-- a new value -/
theorem Sta.push {v : V} {d : D} {A : List Addr} (S : Sta K F0 H0 F H σ env pv pd) (e : Ex H H') (r : Rep K F H' v d A) (hn : A.Nodup) (hA : ∀ a ∈ A, H a = none) : Sta K F0 H0 F H' σ env (v :: pv) (d :: pd) := by
  obtain ⟨A0, B, h1, h2, h3, h4⟩ := S.own
  refine ⟨S.exF, S.exH.trans e, S.sub.trans e, S.new, A0, A ++ B, h1.ex (Same.refl _) e, .cons r (h2.ex (Same.refl _) e) rfl, ?_, fun a ha => ?_⟩
  · have dis : ∀ a ∈ A, ∀ b ∈ A0 ++ B, a ≠ b := fun a ha b hb z => by
      subst z
      have : ∃ o, H a = some o := by
        rcases List.mem_append.mp hb with hb | hb
        · exact h1.there a hb
        · exact h2.there a hb
      obtain ⟨xs, q⟩ := this
      rw [hA a ha] at q; cases q
    rw [List.nodup_append] at h3 ⊢
    refine ⟨h3.1, ?_, fun a ha b hb => ?_⟩
    · rw [List.nodup_append]
      exact ⟨hn, h3.2.1, fun a ha b hb => dis a ha b (List.mem_append_right _ hb)⟩
    · rcases List.mem_append.mp hb with hb | hb
      · exact (dis b hb a (List.mem_append_left _ ha)).symm
      · exact h3.2.2 a ha b hb
  · rcases List.mem_append.mp ha with ha | ha
    · exact h4 a (List.mem_append_left _ ha)
    · rcases List.mem_append.mp ha with ha | ha
      · exact ⟨S.sub.none (hA a ha), S.exH.none (hA a ha)⟩
      · exact h4 a (List.mem_append_right _ ha)
theorem Sta.clean {v : V} {d : D} (S : Sta K F0 H0 F H σ env pv pd) (r : Rep K F H v d []) : Sta K F0 H0 F H σ env (v :: pv) (d :: pd) :=
  S.push (Same.refl _) r List.nodup_nil fun a ha => absurd ha List.not_mem_nil
/-- the newest value dropped, told -/
theorem Sta.pop {v : V} {d : D} (S : Sta K F0 H0 F H σ env (v :: pv) (d :: pd)) : (∃ A, Rep K F H v d A) ∧ Sta K F0 H0 F H σ env pv pd := by
  obtain ⟨A0, B, h1, h2, h3, h4⟩ := S.own
  cases h2 with
  | cons r rr e =>
    subst e
    rename_i A B
    refine ⟨⟨_, r⟩, S.exF, S.exH, S.sub, S.new, A0, B, h1, rr, ?_, fun a ha => h4 a ?_⟩
    · rw [List.nodup_append] at h3 ⊢
      exact ⟨h3.1, (List.nodup_append.mp h3.2.1).2.1, fun a ha b hb => h3.2.2 a ha b (List.mem_append_right _ hb)⟩
    · rcases List.mem_append.mp ha with ha | ha
      · exact List.mem_append_left _ ha
      · exact List.mem_append_right _ (List.mem_append_right _ ha)
/-- the pending values in another order -/
theorem Sta.swap {vs : List V} {ds : List D} {x : V} {d : D} (hl : vs.length = ds.length) (S : Sta K F0 H0 F H σ env (vs ++ x :: pv) (ds ++ d :: pd)) : Sta K F0 H0 F H σ env (x :: vs ++ pv) (d :: ds ++ pd) := by
  obtain ⟨A0, B, h1, h2, h3, h4⟩ := S.own
  obtain ⟨d1, d2, A, B2, e1, e2, r1, r2⟩ := h2.split
  have hd := List.append_inj e1 (by rw [← r1.length]; exact hl.symm)
  obtain ⟨rfl, rfl⟩ := hd
  cases r2 with
  | cons r rr e =>
    rename_i A1 B1
    subst e e2
    refine ⟨S.exF, S.exH, S.sub, S.new, A0, A1 ++ (A ++ B1), h1, .cons r (r1.app rr) rfl, ?_, fun a ha => h4 a ?_⟩
    · refine (List.Perm.nodup_iff (List.Perm.append_left _ ?_)).mp h3
      rw [← List.append_assoc, ← List.append_assoc]
      exact List.Perm.append_right _ List.perm_append_comm
    · simp only [List.mem_append] at ha ⊢
      rcases ha with ha | ha | ha | ha
      · exact .inl ha
      · exact .inr (.inr (.inl ha))
      · exact .inr (.inl ha)
      · exact .inr (.inr (.inr ha))
theorem Sta.slot {i : Nat} {d : D} (S : Sta K F0 H0 F H σ env pv pd) (h : env[i]? = some (some d)) : ∃ v A, σ[i]? = some (some v) ∧ Rep K F H v d A := by
  obtain ⟨A0, B, h1, h2, h3, h4⟩ := S.own
  obtain ⟨v, A1, Ai, A2, e, _, r, _⟩ := h1.at h
  exact ⟨v, Ai, e, r⟩
end
def Res (K : KW) (F0 H0 F H : Hp) (σ : L2.St) (env : Env) (pv : List V) (pd : List D) (v : V) (d : D) : Bool → Prop
  | true => (∃ A, Rep K F H v d A) ∧ Sta K F0 H0 F H σ env pv pd
  | false => Sta K F0 H0 F H σ env (v :: pv) (d :: pd)
section
variable {K : KW} {F0 H0 F F' H H' : Hp} {σ : L2.St} {env : Env} {pv : List V} {pd : List D} {v : V} {d : D} {b : Bool}
theorem Res.forget (r : Res K F0 H0 F H σ env pv pd v d b) : (∃ A, Rep K F H v d A) ∧ Sta K F0 H0 F H σ env pv pd := by
  cases b with
  | true => exact r
  | false => exact Sta.pop r
theorem Res.owned (r : Res K F0 H0 F H σ env pv pd v d b) (h : b = false ∨ dirty d = false) : Sta K F0 H0 F H σ env (v :: pv) (d :: pd) := by
  cases b with
  | false => exact r
  | true =>
    rcases h with h | h
    · cases h
    · obtain ⟨⟨A, q⟩, S⟩ := r
      have e := q.clean h
      subst e
      exact S.clean q
end

/-! ### what is asked of expressions -/
/-- the errors that may leave, by their classes' names, and the slots as they stand -/
abbrev PX := Str → Env → Prop
abbrev EX := L2.St → XK
abbrev EN : EX := fun _ => E0
abbrev WE := PX → Env → (D → Bool → Env → Prop) → Prop
abbrev WT := PX → Env → (Bool → Env → Prop) → Prop
abbrev WA := PX → Env → (List D → Env → Prop) → Prop
def LinkX (K : KW) (F0 H0 : Hp) (px : PX) (E : EX) (pv : List V) (pd : List D) : Prop := ∀ (n : Str) (C : Value) (σ' : L2.St) (env' : Env) (F' H' : Hp) (pvx : List V) (pdx : List D),
  PySem.W.nsIn K mainGlobals n = some (some C) → px n env' → pvx.length = pdx.length → Sta K F0 H0 F' H' σ' env' (pvx ++ pv) (pdx ++ pd) → E σ' C none H'
def px0 : PX := fun _ _ => False
theorem link0 {K : KW} {F0 H0 : Hp} {E : EX} {pv : List V} {pd : List D} : LinkX K F0 H0 px0 E pv pd := fun _ _ _ _ _ _ _ _ _ h => h.elim
theorem LinkX.push {K : KW} {F0 H0 : Hp} {px : PX} {E : EX} {pv qv : List V} {pd qd : List D} (L : LinkX K F0 H0 px E pv pd) (hl : qv.length = qd.length) : LinkX K F0 H0 px E (qv ++ pv) (qd ++ pd) := fun n C σ' env' F' H' pvx pdx hn h hl2 S =>
  L n C σ' env' F' H' (pvx ++ qv) (pdx ++ qd) hn h (by simp [hl, hl2]) (by rw [List.append_assoc, List.append_assoc]; exact S)
def Sim (K : KW) (E : EX) (w : WE) (t : TE) : Prop := ∀ (px : PX) (F0 H0 F H : Hp) (σ : L2.St) (env : Env) (pv : List V) (pd : List D), LinkX K F0 H0 px E pv pd → Sta K F0 H0 F H σ env pv pd →
  ∀ (Q' : D → Bool → Env → Prop) (Q : VK), w px env Q' → (∀ d b env' v F' H', Q' d b env' → Ex F F' → Ex H H' → Res K F0 H0 F' H' σ env' pv pd v d b → Q v H') → t σ H Q
def SimT (K : KW) (E : EX) (w : WT) (t : TT) : Prop := ∀ (px : PX) (F0 H0 F H : Hp) (σ : L2.St) (env : Env) (pv : List V) (pd : List D), LinkX K F0 H0 px E pv pd → Sta K F0 H0 F H σ env pv pd →
  ∀ (Q' : Bool → Env → Prop) (Q : Bool → Hp → Prop), w px env Q' → (∀ b env' F' H', Q' b env' → Ex F F' → Ex H H' → Sta K F0 H0 F' H' σ env' pv pd → Q b H') → t σ H Q
/-- arguments, borrowed -/
def SimA (K : KW) (E : EX) (w : WA) (t : TA) : Prop := ∀ (px : PX) (F0 H0 F H : Hp) (σ : L2.St) (env : Env) (pv : List V) (pd : List D), LinkX K F0 H0 px E pv pd → Sta K F0 H0 F H σ env pv pd →
  ∀ (Q' : List D → Env → Prop) (Q : List V → Hp → Prop), w px env Q' → (∀ ds env' vs F' H' A, Q' ds env' → Ex F F' → Ex H H' → Reps K F' H' vs ds A → Sta K F0 H0 F' H' σ env' pv pd → Q vs H') → t σ H Q
/-- items of a display, owned -/
def SimD (K : KW) (E : EX) (w : WA) (t : TA) : Prop := ∀ (px : PX) (F0 H0 F H : Hp) (σ : L2.St) (env : Env) (pv : List V) (pd : List D), LinkX K F0 H0 px E pv pd → Sta K F0 H0 F H σ env pv pd →
  ∀ (Q' : List D → Env → Prop) (Q : List V → Hp → Prop), w px env Q' → (∀ ds env' vs F' H', Q' ds env' → Ex F F' → Ex H H' → vs.length = ds.length → Sta K F0 H0 F' H' σ env' (vs ++ pv) (ds ++ pd) → Q vs H') → t σ H Q

structure DE (X : Cx) (E : EX) (e : Expr) (w : WE) : Prop where
  ex : ∃ t, PE X e t ∧ Sim X.kw E w t
structure DT (X : Cx) (E : EX) (e : Expr) (w : WT) : Prop where
  ex : ∃ t, PT X e t ∧ SimT X.kw E w t
structure DW (X : Cx) (E : EX) (e : Expr) (w : WT) : Prop where
  ex : ∃ t, PW X e t ∧ SimT X.kw E w t
structure DA (X : Cx) (E : EX) (es : List Expr) (w : WA) : Prop where
  ex : ∃ t, PA X es t ∧ SimA X.kw E w t
structure DD (X : Cx) (E : EX) (es : List Expr) (w : WA) : Prop where
  ex : ∃ t, PA X es t ∧ SimD X.kw E w t

/-! ### names, constants -/
def wVar (i : Nat) : WE := fun _ env Q => match env[i]? with
  | some (some d) => Q d (dirty d) env
  | _ => False
/-- .. given away -/
def wMov (i : Nat) : WE := fun _ env Q => match env[i]? with
  | some (some d) => Q d false (env.set i none)
  | _ => False
/-- .. frozen -/
def wFrz (i : Nat) : WE := fun _ env Q => match env[i]? with
  | some (some d) => Q (fz d) false (env.set i (some (fz d)))
  | _ => False
def wC (d : D) : WE := fun _ env Q => Q d false env
theorem sim_var {K : KW} {E : EX} {i : Nat} : Sim K E (wVar i) (tVar i) := by
  intro px F0 H0 F H σ env pv pd L S Q' Q w k
  unfold wVar at w
  split at w
  · rename_i d e
    obtain ⟨v, A, e2, r⟩ := S.slot e
    refine ⟨v, e2, k d _ env v F H w (Same.refl _) (Same.refl _) ?_⟩
    cases hd : dirty d with
    | true => exact ⟨⟨A, r⟩, S⟩
    | false =>
      have e := r.clean hd
      subst e
      exact S.clean r
  · exact w.elim
theorem sim_mov {K : KW} {E : EX} {i : Nat} : Sim K E (wMov i) (tVar i) := by
  intro px F0 H0 F H σ env pv pd L S Q' Q w k
  unfold wMov at w
  split at w
  · rename_i d e
    obtain ⟨A0, B, h1, h2, h3, h4⟩ := S.own
    obtain ⟨v, A1, Ai, A2, e2, e3, r, s, _⟩ := h1.at e
    subst e3
    refine ⟨v, e2, k d _ _ v F H w (Same.refl _) (Same.refl _) ?_⟩
    refine ⟨S.exF, S.exH, S.sub, S.new, A1 ++ A2, Ai ++ B, s, .cons r h2 rfl, ?_, fun a ha => h4 a ?_⟩
    · refine (List.Perm.nodup_iff ?_).mp h3
      rw [List.append_assoc, List.append_assoc, List.append_assoc]
      refine List.Perm.append_left _ ?_
      rw [← List.append_assoc, ← List.append_assoc]
      exact List.Perm.append_right _ List.perm_append_comm
    · simp only [List.mem_append] at ha ⊢
      rcases ha with (ha | ha) | ha | ha
      · exact .inl (.inl (.inl ha))
      · exact .inl (.inr ha)
      · exact .inl (.inl (.inr ha))
      · exact .inr ha
  · exact w.elim
theorem sim_frz {K : KW} {E : EX} {i : Nat} : Sim K E (wFrz i) (tVar i) := by
  intro px F0 H0 F H σ env pv pd L S Q' Q w k
  unfold wFrz at w
  split at w
  · rename_i d e
    obtain ⟨A0, B, h1, h2, h3, h4⟩ := S.own
    obtain ⟨v, A1, Ai, A2, e2, e3, r, s, back⟩ := h1.at e
    subst e3
    let F' : Hp := fun a => if a ∈ Ai then H a else F a
    have hF : Ex F F' := fun a o q => by
      show (if a ∈ Ai then H a else F a) = some o
      split
      · exact S.sub _ _ q
      · exact q
    have hA : ∀ a ∈ Ai, F' a = H a := fun a ha => if_pos ha
    have r' := r.frozen hF hA
    have sl := back (H' := H) hF (fun _ _ z => z) (fun _ _ => rfl) r'
    have ev : (σ.set i (some v)) = σ := by
      obtain ⟨hi, hv⟩ := List.getElem?_eq_some_iff.mp e2
      rw [← hv]; exact List.set_getElem_self hi
    rw [ev] at sl
    refine ⟨v, e2, k (fz d) _ _ v F' H w hF (Same.refl _) ?_⟩
    have S' : Sta K F0 H0 F' H σ (env.set i (some (fz d))) pv pd := by
      refine ⟨S.exF.trans hF, S.exH, fun a o q => ?_, fun a q => ?_, A1 ++ A2, B, by simpa using sl, h2.ex hF (Same.refl _), ?_, fun a ha => ?_⟩
      · by_cases hm : a ∈ Ai
        · rw [hA a hm] at q; exact q
        · have : F' a = F a := if_neg hm
          rw [this] at q; exact S.sub _ _ q
      · by_cases hm : a ∈ Ai
        · exact .inr (h4 a (by simp [hm])).2
        · have : F' a = F a := if_neg hm
          rw [this] at q; exact S.new a q
      · refine List.Nodup.sublist ?_ h3
        refine List.Sublist.append ?_ (List.Sublist.refl _)
        exact List.Sublist.append (List.sublist_append_left _ _) (List.Sublist.refl _)
      · have hm : a ∉ Ai := fun hm => by
          rw [List.nodup_append] at h3
          have h5 := (List.nodup_append.mp h3.1)
          have h6 := (List.nodup_append.mp h5.1)
          simp only [List.mem_append] at ha
          rcases ha with (ha | ha) | ha
          · exact h6.2.2 a ha a hm rfl
          · exact h5.2.2 a (List.mem_append_right _ hm) a ha rfl
          · exact h3.2.2 a (by simp [hm]) a ha rfl
        have : F' a = F a := if_neg hm
        rw [this]
        exact h4 a (by
          simp only [List.mem_append] at ha ⊢
          rcases ha with (ha | ha) | ha
          · exact .inl (.inl (.inl ha))
          · exact .inl (.inr ha)
          · exact .inr ha)
    exact S'.clean r'
  · exact w.elim
theorem sim_c {K : KW} {E : EX} {v : V} {d : D} (h : ∀ F H, Rep K F H v d []) : Sim K E (wC d) (tC v) := by
  intro px F0 H0 F H σ env pv pd L S Q' Q w k
  exact k d false env v F H w (Same.refl _) (Same.refl _) (S.clean (h F H))
section
variable {X : Cx} {E : EX}
theorem dv (i : Nat) {x : Str} {pos : Pos} (hN : X.N[i]? = some x := by rfl) (hv : Vis X.env.scope x := by first | exact Or.inl rfl | exact Or.inr (Or.inl rfl) | exact Or.inr (Or.inr rfl)) (hd : (x == ("__debug__" : Str)) = false := by decide)
    (hcd : (x == ("__classdict__" : Str)) = false := by decide) : DE X E (.Name x pos) (wVar i) := ⟨_, pe_var hN hv hd hcd, sim_var⟩
theorem dm (i : Nat) {x : Str} {pos : Pos} (hN : X.N[i]? = some x := by rfl) (hv : Vis X.env.scope x := by first | exact Or.inl rfl | exact Or.inr (Or.inl rfl) | exact Or.inr (Or.inr rfl)) (hd : (x == ("__debug__" : Str)) = false := by decide)
    (hcd : (x == ("__classdict__" : Str)) = false := by decide) : DE X E (.Name x pos) (wMov i) := ⟨_, pe_var hN hv hd hcd, sim_mov⟩
theorem df (i : Nat) {x : Str} {pos : Pos} (hN : X.N[i]? = some x := by rfl) (hv : Vis X.env.scope x := by first | exact Or.inl rfl | exact Or.inr (Or.inl rfl) | exact Or.inr (Or.inr rfl)) (hd : (x == ("__debug__" : Str)) = false := by decide)
    (hcd : (x == ("__classdict__" : Str)) = false := by decide) : DE X E (.Name x pos) (wFrz i) := ⟨_, pe_var hN hv hd hcd, sim_frz⟩
theorem d_int {i j pos} : DE X E (.Constant (.int i) j pos) (wC (.int i)) := ⟨_, pe_int, sim_c fun _ _ => .int i⟩
theorem d_bl {b j pos} : DE X E (.Constant (.bool b) j pos) (wC (.bl b)) := ⟨_, pe_bl, sim_c fun _ _ => .bl b⟩
theorem d_non {j pos} : DE X E (.Constant .none j pos) (wC .non) := ⟨_, pe_non, sim_c fun _ _ => .non⟩
theorem d_str {x j pos} : DE X E (.Constant (.str x) j pos) (wC (.str x)) := ⟨_, pe_str, sim_c fun _ _ => .str x⟩
/-- a module's int or text -/
theorem d_gint {x : Str} {i : Int} {t : Tok} {pos : Pos} (hg : Gl X x) (hm : X.mg x = some (.int i t)) (hd : (x == ("__debug__" : Str)) = false := by decide) : DE X E (.Name x pos) (wC (.int i)) := ⟨_, pe_glob (v := .int i) hg hm ⟨_, rfl⟩ hd, sim_c fun _ _ => .int i⟩
theorem d_gstr {x : Str} {y : Str} {t : Tok} {pos : Pos} (hg : Gl X x) (hm : X.mg x = some (.str y t)) (hd : (x == ("__debug__" : Str)) = false := by decide) : DE X E (.Name x pos) (wC (.str y)) := ⟨_, pe_glob (v := .str y) hg hm ⟨_, rfl⟩ hd, sim_c fun _ _ => .str y⟩
end

/-! ### operations -/
/-- an operation's end: a value over what stands, with perhaps something new -/
def Ends1 (K : KW) (F H : Hp) (Q' : D → Prop) (Q : VK) : Prop := ∀ d v H' C, Q' d → Ex H H' → Rep K F H' v d C → C.Nodup → (∀ a ∈ C, H a = none) → Q v H'
theorem Ends1.same {K : KW} {F H : Hp} {Q' : D → Prop} {Q : VK} (k : Ends1 K F H Q' Q) {d : D} {v : V} (h : Q' d) (r : Rep K F H v d []) : Q v H := k d v H [] h (Same.refl _) r List.nodup_nil fun _ z => absurd z List.not_mem_nil
theorem Ends1.lst {K : KW} {F H : Hp} {Q' : D → Prop} {Q : VK} (k : Ends1 K F H Q' Q) {ds : List D} {vs : List V} (h : Q' (.lst true ds)) (r : Reps K F H vs ds []) : ∀ p, H p = none → Q (.ref p) (upd H p (.lst vs)) := fun p hp =>
  k (.lst true ds) (.ref p) (upd H p (.lst vs)) [p] h (Ex.new hp) (.own upd_same (r.ex (Same.refl _) (Ex.new hp))) (by simp) (by simpa using hp)
theorem Ends1.tup {K : KW} {F H : Hp} {Q' : D → Prop} {Q : VK} (k : Ends1 K F H Q' Q) {ds : List D} {vs : List V} (h : Q' (.tup ds)) (r : Reps K F H vs ds []) : ∀ p, H p = none → Q (.ref p) (upd H p (.tup vs)) := fun p hp =>
  k (.tup ds) (.ref p) (upd H p (.tup vs)) [] h (Ex.new hp) (.tup upd_same (r.ex (Same.refl _) (Ex.new hp))) List.nodup_nil (fun _ z => absurd z List.not_mem_nil)
abbrev G2 := D → D → (D → Prop) → Prop
def OpD (K : KW) (g : G2) (r : R2) : Prop := ∀ (F H : Hp) (x y : V) (dx dy : D) (A B : List Addr) (Q' : D → Prop) (Q : VK), Ex F H → Rep K F H x dx A → Rep K F H y dy B → g dx dy Q' → Ends1 K F H Q' Q → r x y H Q
abbrev G1 := D → (D → Prop) → Prop
def UnD (K : KW) (g : G1) (r : V → Hp → VK → Prop) : Prop := ∀ (F H : Hp) (x : V) (dx : D) (A : List Addr) (Q' : D → Prop) (Q : VK), Ex F H → Rep K F H x dx A → g dx Q' → Ends1 K F H Q' Q → r x H Q
def wOp (g : G2) (wa wb : WE) : WE := fun px env Q => wa px env fun a _ env1 => wb px env1 fun b _ env2 => g a b fun d => Q d false env2
def wUn (g : G1) (wa : WE) : WE := fun px env Q => wa px env fun a _ env1 => g a fun d => Q d false env1
theorem sim_op {K : KW} {E : EX} {g : G2} {r : R2} {wa wb : WE} {ta tb : TE} (h : OpD K g r) (ha : Sim K E wa ta) (hb : Sim K E wb tb) : Sim K E (wOp g wa wb) (tOp r ta tb) := by
  intro px F0 H0 F H σ env pv pd L S Q' Q w k
  refine ha px F0 H0 F H σ env pv pd L S _ _ w fun a ba env1 x F1 H1 w1 eF1 eH1 R1 => ?_
  obtain ⟨⟨A, rx⟩, S1⟩ := R1.forget
  refine hb px F0 H0 F1 H1 σ env1 pv pd L S1 _ _ w1 fun b bb env2 y F2 H2 w2 eF2 eH2 R2 => ?_
  obtain ⟨⟨B, ry⟩, S2⟩ := R2.forget
  refine h F2 H2 x y a b A B _ _ S2.sub (rx.ex eF2 eH2) ry w2 fun d v H' C q e r hn hC => ?_
  exact k d false env2 v F2 H' q (eF1.trans eF2) ((eH1.trans eH2).trans e) (S2.push e r hn hC)
theorem sim_un {K : KW} {E : EX} {g : G1} {r : V → Hp → VK → Prop} {wa : WE} {ta : TE} (h : UnD K g r) (ha : Sim K E wa ta) : Sim K E (wUn g wa) (tUn r ta) := by
  intro px F0 H0 F H σ env pv pd L S Q' Q w k
  refine ha px F0 H0 F H σ env pv pd L S _ _ w fun a ba env1 x F1 H1 w1 eF1 eH1 R1 => ?_
  obtain ⟨⟨A, rx⟩, S1⟩ := R1.forget
  refine h F1 H1 x a A _ _ S1.sub rx w1 fun d v H' C q e r hn hC => ?_
  exact k d false env1 v F1 H' q eF1 (eH1.trans e) (S1.push e r hn hC)
theorem OpD.or {K : KW} {g1 g2 : G2} {r1 r2 : R2} (h1 : OpD K g1 r1) (h2 : OpD K g2 r2) : OpD K (fun a b Q => g1 a b Q ∨ g2 a b Q) (fun x y H Q => r1 x y H Q ∨ r2 x y H Q) :=
  fun F H x y dx dy A B Q' Q e rx ry w k => w.elim (fun w => .inl (h1 F H x y dx dy A B Q' Q e rx ry w k)) (fun w => .inr (h2 F H x y dx dy A B Q' Q e rx ry w k))
/-- ints -/
def gI (C : Int → Int → Prop) (f : Int → Int → D) : G2
  | .int i, .int j, Q => C i j ∧ Q (f i j)
  | _, _, _ => False
def scalD : D → Bool
  | .non => true | .bl _ => true | .int _ => true | .str _ => true | _ => false
def toV : D → V
  | .non => .non | .bl b => .bl b | .int i => .int i | .str x => .str x | _ => .non
theorem rep_toV {K : KW} {F H : Hp} : ∀ {d : D}, scalD d = true → Rep K F H (toV d) d []
  | .non, _ => .non
  | .bl b, _ => .bl b
  | .int i, _ => .int i
  | .str x, _ => .str x
theorem rep_int {K : KW} {F H : Hp} {v : V} {i : Int} {A : List Addr} (r : Rep K F H v (.int i) A) : v = .int i := by cases r; rfl
theorem rep_str {K : KW} {F H : Hp} {v : V} {i : Str} {A : List Addr} (r : Rep K F H v (.str i) A) : v = .str i := by cases r; rfl
theorem rep_bl {K : KW} {F H : Hp} {v : V} {i : Bool} {A : List Addr} (r : Rep K F H v (.bl i) A) : v = .bl i := by cases r; rfl
theorem rep_scal {K : KW} {F H : Hp} {v : V} {d : D} {A : List Addr} (r : Rep K F H v d A) (h : scalD d = true) : v = toV d := by
  cases r <;> first | rfl | cases h
theorem opd_I {K : KW} {C : Int → Int → Prop} {f : Int → Int → D} (hf : ∀ i j, scalD (f i j) = true) : OpD K (gI C f) (rI C fun i j => toV (f i j)) := by
  intro F H x y dx dy A B Q' Q e rx ry w k
  unfold gI at w
  split at w
  · rw [rep_int rx, rep_int ry]
    exact ⟨_, _, rfl, rfl, w.1, k.same w.2 (rep_toV (hf _ _))⟩
  · exact w.elim
theorem opd_I0 {K : KW} {f : Int → Int → D} (hf : ∀ i j, scalD (f i j) = true) : OpD K (gI (fun _ _ => True) f) (rI0 fun i j => toV (f i j)) := by
  intro F H x y dx dy A B Q' Q e rx ry w k
  unfold gI at w
  split at w
  · rw [rep_int rx, rep_int ry]
    exact ⟨_, _, rfl, rfl, k.same w.2 (rep_toV (hf _ _))⟩
  · exact w.elim
end Tm

set_option Elab.async false
set_option linter.all false
set_option maxRecDepth 100000
set_option maxHeartbeats 1000000
namespace Tm
open PySem PySem.Spec PyProof.Rows L2

/-! ### tests -/
def wTest (w : WE) : WT := fun px env Q => w px env fun d _ env1 => match d with
  | .bl b => Q b env1
  | _ => False
theorem sim_test {K : KW} {E : EX} {w : WE} {t : TE} (h : Sim K E w t) : SimT K E (wTest w) (tTest t) := by
  intro px F0 H0 F H σ env pv pd L S Q' Q w1 k
  refine h px F0 H0 F H σ env pv pd L S _ _ w1 fun d b env1 v F1 H1 w2 eF eH R => ?_
  obtain ⟨⟨A, r⟩, S1⟩ := R.forget
  cases d with
  | bl c => exact ⟨c, rep_bl r, k c env1 F1 H1 w2 eF eH S1⟩
  | _ => exact w2.elim
def wAnd (a b : WT) : WT := fun px env Q => a px env fun c env1 => if c = true then b px env1 Q else Q false env1
def wOr (a b : WT) : WT := fun px env Q => a px env fun c env1 => if c = true then Q true env1 else b px env1 Q
def wNot (a : WT) : WT := fun px env Q => a px env fun c env1 => Q (!c) env1
theorem sim_and {K : KW} {E : EX} {a b : WT} {t u : TT} (h1 : SimT K E a t) (h2 : SimT K E b u) : SimT K E (wAnd a b) (tAnd t u) := by
  intro px F0 H0 F H σ env pv pd L S Q' Q w k
  refine h1 px F0 H0 F H σ env pv pd L S _ _ w fun c env1 F1 H1 w1 eF eH S1 => ?_
  cases c with
  | true => exact h2 px F0 H0 F1 H1 σ env1 pv pd L S1 _ _ w1 fun c2 env2 F2 H2 w2 eF2 eH2 S2 => k c2 env2 F2 H2 w2 (eF.trans eF2) (eH.trans eH2) S2
  | false => exact k false env1 F1 H1 w1 eF eH S1
theorem sim_or {K : KW} {E : EX} {a b : WT} {t u : TT} (h1 : SimT K E a t) (h2 : SimT K E b u) : SimT K E (wOr a b) (tOr t u) := by
  intro px F0 H0 F H σ env pv pd L S Q' Q w k
  refine h1 px F0 H0 F H σ env pv pd L S _ _ w fun c env1 F1 H1 w1 eF eH S1 => ?_
  cases c with
  | false => exact h2 px F0 H0 F1 H1 σ env1 pv pd L S1 _ _ w1 fun c2 env2 F2 H2 w2 eF2 eH2 S2 => k c2 env2 F2 H2 w2 (eF.trans eF2) (eH.trans eH2) S2
  | true => exact k true env1 F1 H1 w1 eF eH S1
theorem sim_not {K : KW} {E : EX} {a : WT} {t : TT} (h1 : SimT K E a t) : SimT K E (wNot a) (tNot t) := by
  intro px F0 H0 F H σ env pv pd L S Q' Q w k
  exact h1 px F0 H0 F H σ env pv pd L S _ _ w fun c env1 F1 H1 w1 eF eH S1 => k (!c) env1 F1 H1 w1 eF eH S1
/-- a if t else b -/
def wIfE (t : WT) (a b : WE) : WE := fun px env Q => t px env fun c env1 => if c = true then a px env1 Q else b px env1 Q
theorem sim_ifE {K : KW} {E : EX} {c : WT} {a b : WE} {t : TT} {u v : TE} (h : SimT K E c t) (h1 : Sim K E a u) (h2 : Sim K E b v) : Sim K E (wIfE c a b) (tIf t u v) := by
  intro px F0 H0 F H σ env pv pd L S Q' Q w k
  refine h px F0 H0 F H σ env pv pd L S _ _ w fun c env1 F1 H1 w1 eF eH S1 => ?_
  cases c with
  | true => exact h1 px F0 H0 F1 H1 σ env1 pv pd L S1 _ _ w1 fun d b env2 v F2 H2 w2 eF2 eH2 S2 => k d b env2 v F2 H2 w2 (eF.trans eF2) (eH.trans eH2) S2
  | false => exact h2 px F0 H0 F1 H1 σ env1 pv pd L S1 _ _ w1 fun d b env2 v F2 H2 w2 eF2 eH2 S2 => k d b env2 v F2 H2 w2 (eF.trans eF2) (eH.trans eH2) S2
/-- and, or, not as values -/
def asB (Q : Bool → Env → Prop) : D → Bool → Env → Prop := fun d _ env => match d with
  | .bl b => Q b env
  | _ => False
def wAndV (a b : WE) : WE := fun px env Q => a px env (asB fun c env1 => if c = true then b px env1 Q else Q (.bl false) false env1)
def wOrV (a b : WE) : WE := fun px env Q => a px env (asB fun c env1 => if c = true then Q (.bl true) false env1 else b px env1 Q)
def wNotV (a : WE) : WE := fun px env Q => a px env (asB fun c env1 => Q (.bl (!c)) false env1)
theorem asB_is {Q : Bool → Env → Prop} {d : D} {b : Bool} {env : Env} (h : asB Q d b env) : ∃ c, d = .bl c ∧ Q c env := by
  cases d with
  | bl c => exact ⟨c, rfl, h⟩
  | _ => exact h.elim
theorem sim_andV {K : KW} {E : EX} {a b : WE} {t u : TE} (h1 : Sim K E a t) (h2 : Sim K E b u) : Sim K E (wAndV a b) (tAndV t u) := by
  intro px F0 H0 F H σ env pv pd L S Q' Q w k
  refine h1 px F0 H0 F H σ env pv pd L S _ _ w fun d b env1 v F1 H1 w1 eF eH R => ?_
  obtain ⟨⟨A, r⟩, S1⟩ := R.forget
  obtain ⟨c, rfl, w1⟩ := asB_is w1
  refine ⟨c, rep_bl r, ?_⟩
  cases c with
  | true => exact h2 px F0 H0 F1 H1 σ env1 pv pd L S1 _ _ w1 fun d b env2 v F2 H2 w2 eF2 eH2 S2 => k d b env2 v F2 H2 w2 (eF.trans eF2) (eH.trans eH2) S2
  | false => exact k (.bl false) false env1 (.bl false) F1 H1 w1 eF eH (S1.clean (.bl false))
theorem sim_orV {K : KW} {E : EX} {a b : WE} {t u : TE} (h1 : Sim K E a t) (h2 : Sim K E b u) : Sim K E (wOrV a b) (tOrV t u) := by
  intro px F0 H0 F H σ env pv pd L S Q' Q w k
  refine h1 px F0 H0 F H σ env pv pd L S _ _ w fun d b env1 v F1 H1 w1 eF eH R => ?_
  obtain ⟨⟨A, r⟩, S1⟩ := R.forget
  obtain ⟨c, rfl, w1⟩ := asB_is w1
  refine ⟨c, rep_bl r, ?_⟩
  cases c with
  | false => exact h2 px F0 H0 F1 H1 σ env1 pv pd L S1 _ _ w1 fun d b env2 v F2 H2 w2 eF2 eH2 S2 => k d b env2 v F2 H2 w2 (eF.trans eF2) (eH.trans eH2) S2
  | true => exact k (.bl true) false env1 (.bl true) F1 H1 w1 eF eH (S1.clean (.bl true))
theorem sim_notV {K : KW} {E : EX} {a : WE} {t : TE} (h1 : Sim K E a t) : Sim K E (wNotV a) (tNotV t) := by
  intro px F0 H0 F H σ env pv pd L S Q' Q w k
  refine h1 px F0 H0 F H σ env pv pd L S _ _ w fun d b env1 v F1 H1 w1 eF eH R => ?_
  obtain ⟨⟨A, r⟩, S1⟩ := R.forget
  obtain ⟨c, rfl, w1⟩ := asB_is w1
  exact ⟨c, rep_bl r, k (.bl (!c)) false env1 (.bl (!c)) F1 H1 w1 eF eH (S1.clean (.bl (!c)))⟩
/-- a op b op' c -/
def wChain (g g' : G2) (wa wb wc : WE) : WE := fun px env Q => wa px env fun a _ env1 => wb px env1 fun b _ env2 => g a b fun d => match d with
  | .bl true => wc px env2 fun c _ env3 => g' b c fun d => Q d false env3
  | .bl false => Q (.bl false) false env2
  | _ => False
theorem sim_chain {K : KW} {E : EX} {g g' : G2} {r r' : R2} {wa wb wc : WE} {ta tb tc : TE} (h : OpD K g r) (h' : OpD K g' r') (ha : Sim K E wa ta) (hb : Sim K E wb tb) (hc : Sim K E wc tc) : Sim K E (wChain g g' wa wb wc) (tChain r r' ta tb tc) := by
  intro px F0 H0 F H σ env pv pd L S Q' Q w k
  refine ha px F0 H0 F H σ env pv pd L S _ _ w fun a ba env1 x F1 H1 w1 eF1 eH1 R1 => ?_
  obtain ⟨⟨A, rx⟩, S1⟩ := R1.forget
  refine hb px F0 H0 F1 H1 σ env1 pv pd L S1 _ _ w1 fun b bb env2 y F2 H2 w2 eF2 eH2 R2 => ?_
  obtain ⟨⟨B, ry⟩, S2⟩ := R2.forget
  refine h F2 H2 x y a b A B _ _ S2.sub (rx.ex eF2 eH2) ry w2 fun d v H' C q e r hn hC => ?_
  cases d with
  | bl c =>
    refine ⟨c, rep_bl r, ?_⟩
    have S3 := S2.grow e
    cases c with
    | false => exact k (.bl false) false env2 _ F2 H' q (eF1.trans eF2) ((eH1.trans eH2).trans e) (S3.clean (.bl false))
    | true =>
      refine hc px F0 H0 F2 H' σ env2 pv pd L S3 _ _ q fun c bc env3 z F3 H3 w3 eF3 eH3 R3 => ?_
      obtain ⟨⟨C3, rz⟩, S4⟩ := R3.forget
      refine h' F3 H3 y z b c B C3 _ _ S4.sub ((ry.ex (Same.refl _) e).ex eF3 eH3) rz w3 fun d v H4 C q e4 r hn hC => ?_
      exact k d false env3 v F3 H4 q ((eF1.trans eF2).trans eF3) ((((eH1.trans eH2).trans e).trans eH3).trans e4) (S4.push e4 r hn hC)
  | _ => exact q.elim
section
variable {X : Cx} {E : EX} {a b c : Expr} {wa wb wc : WE} {pos : Pos} {ta tb : WT} {rest : List Expr}
theorem d_op {op : Operator} {g : G2} {r : R2} (ho : OpR X (binaryOp op) r) (hd : OpD X.kw g r) (ha : DE X E a wa) (hb : DE X E b wb) : DE X E (.BinOp a op b pos) (wOp g wa wb) := by
  obtain ⟨ta, pa, sa⟩ := ha.ex
  obtain ⟨tb, pb, sb⟩ := hb.ex
  exact ⟨_, pe_op ho pa pb, sim_op hd sa sb⟩
theorem d_un {op : UnaryOp} {g : G1} {r : V → Hp → VK → Prop} (ho : UnR X (unaryOp op) r) (hd : UnD X.kw g r) (ha : DE X E a wa) : DE X E (.UnaryOp op a pos) (wUn g wa) := by
  obtain ⟨ta, pa, sa⟩ := ha.ex
  exact ⟨_, pe_un ho pa, sim_un hd sa⟩
theorem d_cmp {op : CmpOp} {g : G2} {r : R2} (ho : OpR X (compareOp op) r) (hd : OpD X.kw g r) (ha : DE X E a wa) (hb : DE X E b wb) (hm : behindInMarks op b = false) : DE X E (.Compare a [op] [b] pos) (wOp g wa wb) := by
  obtain ⟨ta, pa, sa⟩ := ha.ex
  obtain ⟨tb, pb, sb⟩ := hb.ex
  exact ⟨_, pe_cmpR ho pa pb hm, sim_op hd sa sb⟩
theorem t_cmp {op : CmpOp} {g : G2} {r : R2} (ho : OpR X (compareOp op) r) (hd : OpD X.kw g r) (ha : DE X E a wa) (hb : DE X E b wb) (hm : behindInMarks op b = false) : DT X E (.Compare a [op] [b] pos) (wTest (wOp g wa wb)) := by
  obtain ⟨ta, pa, sa⟩ := ha.ex
  obtain ⟨tb, pb, sb⟩ := hb.ex
  exact ⟨_, pt_cmpR ho pa pb hm, sim_test (sim_op hd sa sb)⟩
theorem d_chain {op op' : CmpOp} {g g' : G2} {r r' : R2} (ho : OpR X (compareOp op) r) (ho' : OpR X (compareOp op') r') (hd : OpD X.kw g r) (hd' : OpD X.kw g' r') (ha : DE X E a wa) (hb : DE X E b wb) (hc : DE X E c wc)
    (hm : lastMarks [op, op'] [b, c] = false := by with_unfolding_all rfl) : DE X E (.Compare a [op, op'] [b, c] pos) (wChain g g' wa wb wc) := by
  obtain ⟨ta, pa, sa⟩ := ha.ex
  obtain ⟨tb, pb, sb⟩ := hb.ex
  obtain ⟨tc, pc, sc⟩ := hc.ex
  exact ⟨_, pe_chain ho ho' pa pb pc hm, sim_chain hd hd' sa sb sc⟩
theorem t_chain {op op' : CmpOp} {g g' : G2} {r r' : R2} (ho : OpR X (compareOp op) r) (ho' : OpR X (compareOp op') r') (hd : OpD X.kw g r) (hd' : OpD X.kw g' r') (ha : DE X E a wa) (hb : DE X E b wb) (hc : DE X E c wc)
    (hm : lastMarks [op, op'] [b, c] = false := by with_unfolding_all rfl) : DT X E (.Compare a [op, op'] [b, c] pos) (wTest (wChain g g' wa wb wc)) := by
  obtain ⟨ta, pa, sa⟩ := ha.ex
  obtain ⟨tb, pb, sb⟩ := hb.ex
  obtain ⟨tc, pc, sc⟩ := hc.ex
  exact ⟨_, pt_chain ho ho' pa pb pc hm, sim_test (sim_chain hd hd' sa sb sc)⟩
/-- a value that is a bool, as a test -/
theorem t_val {e : Expr} {w : WE} (h : DE X E e w) (he : ∀ whole, isTrue e X.env whole = (do let v ← whole; standAt e.pos; holding [v] (truthy v)) := by intro _; rfl) : DT X E e (wTest w) := by
  obtain ⟨t, p, s⟩ := h.ex
  exact ⟨_, pt_val p he, sim_test s⟩
theorem w_and1 (h : DT X E a ta) : DW X E (.BoolOp .And [a] pos) ta := by
  obtain ⟨t, p, s⟩ := h.ex
  exact ⟨_, pw_and1 p, s⟩
theorem w_or1 (h : DT X E a ta) : DW X E (.BoolOp .Or [a] pos) ta := by
  obtain ⟨t, p, s⟩ := h.ex
  exact ⟨_, pw_or1 p, s⟩
theorem w_and (h : DT X E a ta) (h2 : DW X E (.BoolOp .And (b :: rest) pos) tb) : DW X E (.BoolOp .And (a :: b :: rest) pos) (wAnd ta tb) := by
  obtain ⟨t, p, s⟩ := h.ex
  obtain ⟨t2, p2, s2⟩ := h2.ex
  exact ⟨_, pw_and p p2, sim_and s s2⟩
theorem w_or (h : DT X E a ta) (h2 : DW X E (.BoolOp .Or (b :: rest) pos) tb) : DW X E (.BoolOp .Or (a :: b :: rest) pos) (wOr ta tb) := by
  obtain ⟨t, p, s⟩ := h.ex
  obtain ⟨t2, p2, s2⟩ := h2.ex
  exact ⟨_, pw_or p p2, sim_or s s2⟩
theorem DW.t (h : DW X E a ta) : DT X E a ta := by
  obtain ⟨t, p, s⟩ := h.ex
  exact ⟨_, p.pt, s⟩
theorem t_not (h : DT X E a ta) : DT X E (.UnaryOp .Not a pos) (wNot ta) := by
  obtain ⟨t, p, s⟩ := h.ex
  exact ⟨_, pt_not p, sim_not s⟩
theorem d_ifE (h : DT X E c tb) (h1 : DE X E a wa) (h2 : DE X E b wb) : DE X E (.IfExp c a b pos) (wIfE tb wa wb) := by
  obtain ⟨t, p, s⟩ := h.ex
  obtain ⟨t1, p1, s1⟩ := h1.ex
  obtain ⟨t2, p2, s2⟩ := h2.ex
  exact ⟨_, pe_ifExp p p1 p2, sim_ifE s s1 s2⟩
theorem d_one {op} (h : DE X E a wa) : DE X E (.BoolOp op [a] pos) wa := by
  obtain ⟨t, p, s⟩ := h.ex
  exact ⟨_, pe_one p, s⟩
theorem d_and (h : DE X E a wa) (h2 : DE X E (.BoolOp .And (b :: rest) pos) wb) : DE X E (.BoolOp .And (a :: b :: rest) pos) (wAndV wa wb) := by
  obtain ⟨t, p, s⟩ := h.ex
  obtain ⟨t2, p2, s2⟩ := h2.ex
  exact ⟨_, pe_and p p2, sim_andV s s2⟩
theorem d_or (h : DE X E a wa) (h2 : DE X E (.BoolOp .Or (b :: rest) pos) wb) : DE X E (.BoolOp .Or (a :: b :: rest) pos) (wOrV wa wb) := by
  obtain ⟨t, p, s⟩ := h.ex
  obtain ⟨t2, p2, s2⟩ := h2.ex
  exact ⟨_, pe_or p p2, sim_orV s s2⟩
theorem d_not (h : DE X E a wa) : DE X E (.UnaryOp .Not a pos) (wNotV wa) := by
  obtain ⟨t, p, s⟩ := h.ex
  exact ⟨_, pe_not p, sim_notV s⟩
end

/-! ### arguments, displays -/
def wNil : WA := fun _ env Q => Q [] env
def wArg (w : WE) (r : WA) : WA := fun px env Q => w px env fun d _ env1 => r px env1 fun ds env2 => Q (d :: ds) env2
def wItm (w : WE) (r : WA) : WA := fun px env Q => w px env fun d b env1 => (b = false ∨ dirty d = false) ∧ r px env1 fun ds env2 => Q (d :: ds) env2
theorem sim_anil {K : KW} {E : EX} : SimA K E wNil tNil := by
  intro px F0 H0 F H σ env pv pd L S Q' Q w k
  exact k [] env [] F H [] w (Same.refl _) (Same.refl _) .nil S
theorem sim_arg {K : KW} {E : EX} {w : WE} {r : WA} {t : TE} {u : TA} (h : Sim K E w t) (hr : SimA K E r u) : SimA K E (wArg w r) (tCons t u) := by
  intro px F0 H0 F H σ env pv pd L S Q' Q w k
  refine h px F0 H0 F H σ env pv pd L S _ _ w fun d b env1 v F1 H1 w1 eF eH R => ?_
  obtain ⟨⟨A, r⟩, S1⟩ := R.forget
  refine hr px F0 H0 F1 H1 σ env1 pv pd L S1 _ _ w1 fun ds env2 vs F2 H2 B w2 eF2 eH2 rs S2 => ?_
  exact k (d :: ds) env2 (v :: vs) F2 H2 _ w2 (eF.trans eF2) (eH.trans eH2) (.cons (r.ex eF2 eH2) rs rfl) S2
theorem sim_dnil {K : KW} {E : EX} : SimD K E wNil tNil := by
  intro px F0 H0 F H σ env pv pd L S Q' Q w k
  exact k [] env [] F H w (Same.refl _) (Same.refl _) rfl S
theorem sim_itm {K : KW} {E : EX} {w : WE} {r : WA} {t : TE} {u : TA} (h : Sim K E w t) (hr : SimD K E r u) : SimD K E (wItm w r) (tCons t u) := by
  intro px F0 H0 F H σ env pv pd L S Q' Q w k
  refine h px F0 H0 F H σ env pv pd L S _ _ w fun d b env1 v F1 H1 w1 eF eH R => ?_
  have S1 := R.owned w1.1
  refine hr px F0 H0 F1 H1 σ env1 (v :: pv) (d :: pd) (L.push (qv := [v]) (qd := [d]) rfl) S1 _ _ w1.2 fun ds env2 vs F2 H2 w2 eF2 eH2 hl S2 => ?_
  exact k (d :: ds) env2 (v :: vs) F2 H2 w2 (eF.trans eF2) (eH.trans eH2) (by simp [hl]) (Sta.swap hl S2)
/-- the pending items gathered -/
theorem Sta.gather {K : KW} {F0 H0 F H : Hp} {σ : L2.St} {env : Env} {pv vs : List V} {pd ds : List D} (hl : vs.length = ds.length) (S : Sta K F0 H0 F H σ env (vs ++ pv) (ds ++ pd)) :
    ∃ A, Reps K F H vs ds A ∧ A.Nodup ∧ ∀ (o : HO) (p : Addr) (d : D) (B : List Addr), H p = none → Ex H (upd H p o) → Rep K F (upd H p o) (.ref p) d B → (B = A ∨ B = p :: A) → Sta K F0 H0 F (upd H p o) σ env (.ref p :: pv) (d :: pd) := by
  obtain ⟨A0, B0, h1, h2, h3, h4⟩ := S.own
  obtain ⟨d1, d2, A, B2, e1, e2, r1, r2⟩ := h2.split
  obtain ⟨rfl, rfl⟩ := List.append_inj e1 (by rw [← r1.length]; exact hl.symm)
  subst e2
  have h5 := List.nodup_append.mp h3
  have h6 := List.nodup_append.mp h5.2.1
  refine ⟨A, r1, h6.1, fun o p d B hp e r hB => ?_⟩
  have hpn : ∀ a ∈ A0 ++ (A ++ B2), a ≠ p := fun a ha z => by
    subst z
    have : ∃ o, H a = some o := by
      rcases List.mem_append.mp ha with ha | ha
      · exact h1.there a ha
      · exact h2.there a ha
    obtain ⟨xs, q⟩ := this
    rw [hp] at q; cases q
  refine ⟨S.exF, S.exH.trans e, S.sub.trans e, S.new, A0, B ++ B2, h1.ex (Same.refl _) e, .cons r (r2.ex (Same.refl _) e) rfl, ?_, fun a ha => ?_⟩
  · rcases hB with rfl | rfl
    · exact h3
    · refine (List.Perm.nodup_iff (l₁ := p :: (A0 ++ (A ++ B2))) ?_).mp (List.nodup_cons.mpr ⟨fun z => hpn p z rfl, h3⟩)
      exact (List.perm_middle (l₁ := A0) (l₂ := A ++ B2) (a := p)).symm
  · rcases hB with rfl | rfl
    · exact h4 a ha
    · simp only [List.mem_append, List.mem_cons] at ha
      rcases ha with ha | (rfl | ha) | ha
      · exact h4 a (by simp [ha])
      · exact ⟨S.sub.none hp, S.exH.none hp⟩
      · exact h4 a (by simp [ha])
      · exact h4 a (by simp [ha])
theorem le_line {n : Nat} (h : n ≤ 100000) : n ≤ sizeLine := Nat.le_trans h (by decide)
theorem lt_line {n : Nat} (h : n ≤ 100000) : n < sizeLine := Nat.lt_of_le_of_lt h (by decide)
def wTup (w : WA) : WE := fun px env Q => w px env fun ds env1 => ds.length ≤ 100000 ∧ Q (.tup ds) false env1
def wLst (w : WA) : WE := fun px env Q => w px env fun ds env1 => ds.length ≤ 100000 ∧ Q (.lst true ds) false env1
theorem sim_tup {K : KW} {E : EX} {w : WA} {t : TA} (h : SimD K E w t) : Sim K E (wTup w) (tTup t) := by
  intro px F0 H0 F H σ env pv pd L S Q' Q w k
  refine h px F0 H0 F H σ env pv pd L S _ _ w fun ds env1 vs F1 H1 w1 eF eH hl S1 => ?_
  refine ⟨by rw [hl]; exact le_line w1.1, fun p hp => ?_⟩
  obtain ⟨A, r, hn, put⟩ := S1.gather hl
  exact k (.tup ds) false env1 (.ref p) F1 _ w1.2 eF (eH.trans (Ex.new hp)) (put (.tup vs) p (.tup ds) A hp (Ex.new hp) (.tup upd_same (r.ex (Same.refl _) (Ex.new hp))) (.inl rfl))
theorem sim_lst {K : KW} {E : EX} {w : WA} {t : TA} (h : SimD K E w t) : Sim K E (wLst w) (tLst t) := by
  intro px F0 H0 F H σ env pv pd L S Q' Q w k
  refine h px F0 H0 F H σ env pv pd L S _ _ w fun ds env1 vs F1 H1 w1 eF eH hl S1 => ?_
  refine ⟨by rw [hl]; exact le_line w1.1, fun p hp => ?_⟩
  obtain ⟨A, r, hn, put⟩ := S1.gather hl
  exact k (.lst true ds) false env1 (.ref p) F1 _ w1.2 eF (eH.trans (Ex.new hp)) (put (.lst vs) p (.lst true ds) (p :: A) hp (Ex.new hp) (.own upd_same (r.ex (Same.refl _) (Ex.new hp))) (.inr rfl))
section
variable {X : Cx} {E : EX} {e : Expr} {es : List Expr} {w : WE} {r : WA} {pos : Pos}
theorem a_nil : DA X E [] wNil := ⟨_, pa_nil, sim_anil⟩
theorem a_cons (h : DE X E e w) (hr : DA X E es r) (hs : starEach (e :: es) X.env = (false, eval e X.env) :: starEach es X.env := by rfl) : DA X E (e :: es) (wArg w r) := by
  obtain ⟨t, p, s⟩ := h.ex
  obtain ⟨t2, p2, s2⟩ := hr.ex
  exact ⟨_, pa_cons p p2 hs, sim_arg s s2⟩
theorem i_nil : DD X E [] wNil := ⟨_, pa_nil, sim_dnil⟩
theorem i_cons (h : DE X E e w) (hr : DD X E es r) (hs : starEach (e :: es) X.env = (false, eval e X.env) :: starEach es X.env := by rfl) : DD X E (e :: es) (wItm w r) := by
  obtain ⟨t, p, s⟩ := h.ex
  obtain ⟨t2, p2, s2⟩ := hr.ex
  exact ⟨_, pa_cons p p2 hs, sim_itm s s2⟩
theorem d_tup {x1} (h : DD X E es r) : DE X E (.Tuple es x1 pos) (wTup r) := by
  obtain ⟨t, p, s⟩ := h.ex
  exact ⟨_, pe_tup p, sim_tup s⟩
theorem d_lst (h : DD X E es r) : DE X E (.List es pos) (wLst r) := by
  obtain ⟨t, p, s⟩ := h.ex
  exact ⟨_, pe_lst p, sim_lst s⟩
end

/-! ### calls -/
abbrev SpecT := List D → PX → (D → Prop) → Prop
/-- what a def lets out -/
def LinkP (K : KW) (H : Hp) (px : PX) (E : XK) : Prop := ∀ (n : Str) (C : Value) (env : Env) (H' : Hp), PySem.W.nsIn K mainGlobals n = some (some C) → px n env → Ex H H' → E C none H'
theorem linkP0 {K : KW} {H : Hp} {E : XK} : LinkP K H px0 E := fun _ _ _ _ _ h => h.elim
/-- a def's promise over data -/
def spD (K : KW) (spec : SpecT) : Sp := fun vs H Q E => ∃ (F : Hp) (ds : List D) (px : PX) (Qd : D → Prop), Ex F H ∧ Reps K F H vs ds [] ∧ spec ds px Qd ∧ LinkP K H px E ∧
  ∀ d v F' H' A, Qd d → Ex F F' → Ex H H' → Ex F' H' → (∀ a, F' a ≠ none → F a ≠ none ∨ H a = none) → Rep K F' H' v d A → A.Nodup → (∀ a ∈ A, F' a = none ∧ H a = none) → Q v H'
def wCall (spec : SpecT) (dds : List D) (w : WA) : WE := fun px env Q => w px env fun ds env1 => spec (fzs (ds ++ dds)) (fun n _ => px n env1) fun d => (dirtys ds = false ∨ selfc d = true) ∧ Q d false env1
def wCall0 (spec : SpecT) (dds : List D) (w : WA) : WE := fun px env Q => w px env fun ds env1 => spec (fzs (ds ++ dds)) px0 fun d => (dirtys ds = false ∨ selfc d = true) ∧ Q d false env1
theorem call_core {K : KW} {E' : XK} {spec : SpecT} {dvs : List V} {dds : List D} {px' : PX} {F0 H0 F H F1 H1 : Hp} {σ : L2.St} {env1 : Env} {pv : List V} {pd : List D} {Q' : D → Bool → Env → Prop} {Q : VK} {ds : List D} {vs : List V} {A : List Addr}
    (hdd : ∀ F H, Reps K F H dvs dds []) (hL : LinkP K H1 px' E') (w2 : spec (fzs (ds ++ dds)) px' fun d => (dirtys ds = false ∨ selfc d = true) ∧ Q' d false env1) (eF : Ex F F1) (eH : Ex H H1) (r : Reps K F1 H1 vs ds A) (S1 : Sta K F0 H0 F1 H1 σ env1 pv pd)
    (k : ∀ d b env' v F' H', Q' d b env' → Ex F F' → Ex H H' → Res K F0 H0 F' H' σ env' pv pd v d b → Q v H') : spD K spec (vs ++ dvs) H1 Q E' := by
  have rall := r.app (hdd F1 H1)
  rw [List.append_nil] at rall
  let Fc : Hp := fun a => if a ∈ A then H1 a else F1 a
  have hF : Ex F1 Fc := fun a o q => by
    show (if a ∈ A then H1 a else F1 a) = some o
    split
    · exact S1.sub _ _ q
    · exact q
  have hA : ∀ a ∈ A, Fc a = H1 a := fun a ha => if_pos ha
  have hsub : Ex Fc H1 := fun a o q => by
    by_cases hm : a ∈ A
    · rw [hA a hm] at q; exact q
    · have : Fc a = F1 a := if_neg hm
      rw [this] at q; exact S1.sub _ _ q
  refine ⟨Fc, _, px', _, hsub, rall.frozen hF hA, w2, hL, fun d v F' H' C q eF' eH' sub' new' rv hn hC => ?_⟩
  obtain ⟨ha, q⟩ := q
  rcases ha with ha | ha
  · -- the arguments are clean
    have eA : A = [] := r.clean ha
    have eFc : Fc = F1 := by
      funext a
      show (if a ∈ A then H1 a else F1 a) = F1 a
      rw [eA, if_neg (by simp)]
    rw [eFc] at eF' new'
    refine k d false env1 v F' H' q (eF.trans eF') (eH.trans eH') ?_
    obtain ⟨A0, B0, h1, h2, h3, h4⟩ := S1.own
    have away : ∀ a ∈ A0 ++ B0, F' a = none := fun a ha => by
      have : ∃ o, H1 a = some o := by
        rcases List.mem_append.mp ha with ha | ha
        · exact h1.there a ha
        · exact h2.there a ha
      obtain ⟨xs, e⟩ := this
      cases z : F' a with
      | none => rfl
      | some o =>
        rcases new' a (by rw [z]; simp) with y | y
        · exact absurd (h4 a ha).1 y
        · rw [y] at e; cases e
    have S2 : Sta K F0 H0 F' H' σ env1 pv pd := by
      refine ⟨S1.exF.trans eF', S1.exH.trans eH', sub', fun a z => ?_, A0, B0, h1.ex eF' eH', h2.ex eF' eH', h3, fun a ha => ⟨away a ha, (h4 a ha).2⟩⟩
      rcases new' a z with y | y
      · exact S1.new a y
      · exact .inr (S1.exH.none y)
    -- the value, new
    obtain ⟨A0', B0', g1, g2, g3, g4⟩ := S2.own
    refine ⟨S2.exF, S2.exH, S2.sub, S2.new, A0, C ++ B0, h1.ex eF' eH', .cons rv (h2.ex eF' eH') rfl, ?_, fun a ha => ?_⟩
    · have dis : ∀ a ∈ C, ∀ b ∈ A0 ++ B0, a ≠ b := fun a ha b hb z => by
        subst z
        have : ∃ o, H1 a = some o := by
          rcases List.mem_append.mp hb with hb | hb
          · exact h1.there a hb
          · exact h2.there a hb
        obtain ⟨xs, q⟩ := this
        rw [(hC a ha).2] at q; cases q
      rw [List.nodup_append] at h3 ⊢
      refine ⟨h3.1, ?_, fun a ha b hb => ?_⟩
      · rw [List.nodup_append]
        exact ⟨hn, h3.2.1, fun a ha b hb => dis a ha b (List.mem_append_right _ hb)⟩
      · rcases List.mem_append.mp hb with hb | hb
        · exact (dis b hb a (List.mem_append_left _ ha)).symm
        · exact h3.2.2 a ha b hb
    · rcases List.mem_append.mp ha with ha | ha
      · exact ⟨away a (List.mem_append_left _ ha), (h4 a (List.mem_append_left _ ha)).2⟩
      · rcases List.mem_append.mp ha with ha | ha
        · exact ⟨(hC a ha).1, S1.exH.none (hC a ha).2⟩
        · exact ⟨away a (List.mem_append_right _ ha), (h4 a (List.mem_append_right _ ha)).2⟩
  · -- the value leans on nothing frozen
    exact k d false env1 v F1 H' q eF (eH.trans eH') (S1.push eH' (rv.alone ha) hn fun a ha => (hC a ha).2)
theorem call_sim {K : KW} {E : EX} {E' : XK} {spec : SpecT} {dvs : List V} {dds : List D} {w : WA} {t : TA} {px : PX} {px' : Env → PX} {F0 H0 F H : Hp} {σ : L2.St} {env : Env} {pv : List V} {pd : List D} {Q' : D → Bool → Env → Prop} {Q : VK}
    (hdd : ∀ F H, Reps K F H dvs dds []) (h : SimA K E w t) (L : LinkX K F0 H0 px E pv pd) (hL : ∀ F1 H1 env1, Sta K F0 H0 F1 H1 σ env1 pv pd → LinkP K H1 (px' env1) E') (S : Sta K F0 H0 F H σ env pv pd)
    (w1 : w px env fun ds env1 => spec (fzs (ds ++ dds)) (px' env1) fun d => (dirtys ds = false ∨ selfc d = true) ∧ Q' d false env1)
    (k : ∀ d b env' v F' H', Q' d b env' → Ex F F' → Ex H H' → Res K F0 H0 F' H' σ env' pv pd v d b → Q v H') : tCall (spD K spec) dvs E' t σ H Q := by
  refine h px F0 H0 F H σ env pv pd L S _ _ w1 fun ds env1 vs F1 H1 A w2 eF eH r S1 => ?_
  exact call_core hdd (hL F1 H1 env1 S1) w2 eF eH r S1 k
section
variable {X : Cx} {E : EX} {CX : CXT} {k : Nat} {f : Addr} {fd : FuncData} {ps : List Str} {spec : SpecT} {dvs : List V} {dds : List D} {ds : List Value} {x : Str} {p pos : Pos} {e : Expr} {es : List Expr} {w : WA}
/-- a call of a def from which no exception leaves -/
theorem d_call (G : FnOk X.prog X.w X.K X.mg X.base CX0 k f fd ps (spD X.kw spec)) (hr : Room k X.A) (hg : Gl X x) (hm : X.mg x = some (.ref f)) (hk : PySem.W.keepIn X.K (.ref f) = true) (hb : Binds X.K fd ps ds) (hd : Vals dvs ds) (hdd : ∀ F H, Reps X.kw F H dvs dds [])
    (ha : DA X E (e :: es) w) (hdb : (x == ("__debug__" : Str)) = false := by decide) (he : starEach (e :: es) X.env = (false, eval e X.env) :: starEach es X.env := by rfl) (hpl : (backTo pos (starEach es X.env)).any (·.1) = false := by rfl) :
    DE X E (.Call (.Name x p) (e :: es) [] pos) (wCall0 spec dds w) := by
  obtain ⟨t, pa, sa⟩ := ha.ex
  refine ⟨_, pe_call G hr hg hm hk hb hd pass0 pa hdb he hpl, ?_⟩
  intro px F0 H0 F H σ env pv pd L S Q' Q w1 k
  exact call_sim (px' := fun _ => px0) hdd sa L (fun _ _ _ _ => linkP0) S w1 k
theorem d_call0 (G : FnOk X.prog X.w X.K X.mg X.base CX0 k f fd ps (spD X.kw spec)) (hr : Room k X.A) (hg : Gl X x) (hm : X.mg x = some (.ref f)) (hk : PySem.W.keepIn X.K (.ref f) = true) (hb : Binds X.K fd ps ds) (hd : Vals dvs ds) (hdd : ∀ F H, Reps X.kw F H dvs dds [])
    (hdb : (x == ("__debug__" : Str)) = false := by decide) : DE X E (.Call (.Name x p) [] [] pos) (wCall0 spec dds wNil) := by
  refine ⟨_, pe_call0 G hr hg hm hk hb hd pass0 hdb, ?_⟩
  intro px F0 H0 F H σ env pv pd L S Q' Q w1 k
  exact call_sim (E := E) (px' := fun _ => px0) hdd sim_anil L (fun _ _ _ _ => linkP0) S w1 k
/-- .. that may raise elsewhere, but not here -/
theorem d_callF (G : FnOk X.prog X.w X.K X.mg X.base CX k f fd ps (spD X.kw spec)) (hr : Room k X.A) (hg : Gl X x) (hm : X.mg x = some (.ref f)) (hk : PySem.W.keepIn X.K (.ref f) = true) (hb : Binds X.K fd ps ds) (hd : Vals dvs ds) (hdd : ∀ F H, Reps X.kw F H dvs dds [])
    (hx : ∀ σ, PassesAt CX X σ fun _ _ _ => False)
    (ha : DA X E (e :: es) w) (hdb : (x == ("__debug__" : Str)) = false := by decide) (he : starEach (e :: es) X.env = (false, eval e X.env) :: starEach es X.env := by rfl) (hpl : (backTo pos (starEach es X.env)).any (·.1) = false := by rfl) :
    DE X E (.Call (.Name x p) (e :: es) [] pos) (wCall0 spec dds w) := by
  obtain ⟨t, pa, sa⟩ := ha.ex
  refine ⟨_, pe_callSD (E := fun _ _ _ _ => False) G hr hg hm hk hb hd hx pa hdb he hpl, ?_⟩
  intro px F0 H0 F H σ env pv pd L S Q' Q w1 k
  exact call_sim (px' := fun _ => px0) hdd sa L (fun _ _ _ _ => linkP0) S w1 k
/-- a call of a def that may raise -/
theorem d_callX (G : FnOk X.prog X.w X.K X.mg X.base CX k f fd ps (spD X.kw spec)) (hr : Room k X.A) (hg : Gl X x) (hm : X.mg x = some (.ref f)) (hk : PySem.W.keepIn X.K (.ref f) = true) (hb : Binds X.K fd ps ds) (hd : Vals dvs ds) (hdd : ∀ F H, Reps X.kw F H dvs dds []) (hx : ∀ σ, PassesAt CX X σ (E σ))
    (ha : DA X E (e :: es) w) (hdb : (x == ("__debug__" : Str)) = false := by decide) (he : starEach (e :: es) X.env = (false, eval e X.env) :: starEach es X.env := by rfl) (hpl : (backTo pos (starEach es X.env)).any (·.1) = false := by rfl) :
    DE X E (.Call (.Name x p) (e :: es) [] pos) (wCall spec dds w) := by
  obtain ⟨t, pa, sa⟩ := ha.ex
  refine ⟨_, pe_callSD G hr hg hm hk hb hd hx pa hdb he hpl, ?_⟩
  intro px F0 H0 F H σ env pv pd L S Q' Q w1 k
  refine call_sim (E' := E σ) (px' := fun env1 n _ => px n env1) hdd sa L (fun F1 H1 env1 S1 n C _ H' hn hp e' => ?_) S w1 k
  exact L n C σ env1 F1 H' [] [] hn hp rfl (S1.grow e')
end
end Tm

set_option Elab.async false
set_option linter.all false
set_option maxRecDepth 100000
set_option maxHeartbeats 1000000
namespace Tm
open PySem PySem.Spec PyProof.Rows L2

/-! ### statements -/
structure PEnds where
  nx : Env → Prop
  rt : D → Prop
  bk : Env → Prop := fun _ => False
  ct : Env → Prop := fun _ => False
abbrev WS := PEnds → PX → Env → Prop
/-- behind it b -/
def PEnds.then (P : PEnds) (b : WS) (px : PX) : PEnds := { P with nx := fun env => b P px env }
/-- a loop's turn, to come to J -/
def PEnds.turn (P : PEnds) (J : Env → Prop) : PEnds := { P with nx := J, ct := J, bk := P.nx }
/-- a statement that is to come to J -/
def PEnds.mid (P : PEnds) (J : Env → Prop) : PEnds := { P with nx := J }
/-- a def's body -/
def PEnds.top (Q : D → Prop) : PEnds := { nx := fun _ => Q .non, rt := Q }
section
variable {P : PEnds} {b : WS} {px : PX} {J : Env → Prop} {Q : D → Prop} {env : Env} {d : D}
theorem then_nx : (P.then b px).nx env = b P px env := rfl
theorem then_rt : (P.then b px).rt = P.rt := rfl
theorem then_bk : (P.then b px).bk = P.bk := rfl
theorem then_ct : (P.then b px).ct = P.ct := rfl
theorem turn_nx : (P.turn J).nx = J := rfl
theorem turn_rt : (P.turn J).rt = P.rt := rfl
theorem turn_bk : (P.turn J).bk = P.nx := rfl
theorem turn_ct : (P.turn J).ct = J := rfl
theorem mid_nx : (P.mid J).nx = J := rfl
theorem mid_rt : (P.mid J).rt = P.rt := rfl
theorem mid_bk : (P.mid J).bk = P.bk := rfl
theorem mid_ct : (P.mid J).ct = P.ct := rfl
theorem top_nx : (PEnds.top Q).nx env = Q .non := rfl
theorem top_rt : (PEnds.top Q).rt d = Q d := rfl
end
abbrev WG := D → Env → (Env → Prop) → Prop
abbrev WGs := List D → Env → (Env → Prop) → Prop
structure LinkD (K : KW) (F0 H0 : Hp) (pv : List V) (pd : List D) (P : PEnds) (D : Ends) : Prop where
  nx : ∀ σ' env' F' H', P.nx env' → Sta K F0 H0 F' H' σ' env' pv pd → D.nx σ' H'
  rt : ∀ d v F' H' σ' env' pv' pd', P.rt d → Sta K F0 H0 F' H' σ' env' (v :: pv') (d :: pd') → D.rt v H'
  bk : ∀ σ' env' F' H', P.bk env' → Sta K F0 H0 F' H' σ' env' pv pd → D.bk σ' H'
  ct : ∀ σ' env' F' H', P.ct env' → Sta K F0 H0 F' H' σ' env' pv pd → D.ct σ' H'
def SimS (K : KW) (E : EX) (w : WS) (t : TS) : Prop := ∀ (px : PX) (F0 H0 F H : Hp) (σ : L2.St) (env : Env) (pv : List V) (pd : List D), LinkX K F0 H0 px E pv pd → Sta K F0 H0 F H σ env pv pd →
  ∀ (P : PEnds) (D : Ends), w P px env → LinkD K F0 H0 pv pd P D → t D σ H
def SimG (K : KW) (w : WG) (g : TG) : Prop := ∀ (F0 H0 F H : Hp) (σ : L2.St) (env : Env) (pv : List V) (pd : List D) (x : V) (d : D), Sta K F0 H0 F H σ env (x :: pv) (d :: pd) →
  ∀ (Q' : Env → Prop) (Q : L2.St → Hp → Prop), w d env Q' → (∀ env' σ', Q' env' → Sta K F0 H0 F H σ' env' pv pd → Q σ' H) → g x σ H Q
def SimGs (K : KW) (w : WGs) (g : TGs) : Prop := ∀ (F0 H0 F H : Hp) (σ : L2.St) (env : Env) (pv : List V) (pd : List D) (xs : List V) (ds : List D), xs.length = ds.length → Sta K F0 H0 F H σ env (xs ++ pv) (ds ++ pd) →
  ∀ (Q' : Env → Prop) (Q : L2.St → Hp → Prop), w ds env Q' → (∀ env' σ', Q' env' → Sta K F0 H0 F H σ' env' pv pd → Q σ' H) → g xs σ H Q
structure DS (X : Cx) (E : EX) (s : Stmt) (w : WS) : Prop where
  ex : ∃ t, PS X s t ∧ SimS X.kw E w t
structure DSs (X : Cx) (E : EX) (s : List Stmt) (w : WS) : Prop where
  ex : ∃ t, PSs X s t ∧ SimS X.kw E w t
structure DG (X : Cx) (e : Expr) (w : WG) : Prop where
  ex : ∃ t, PG X e t ∧ SimG X.kw w t
structure DGs (X : Cx) (e : List Expr) (w : WGs) : Prop where
  ex : ∃ t, PGs X e t ∧ SimGs X.kw w t

section
variable {K : KW} {F0 H0 F F' H H' : Hp} {σ : L2.St} {env : Env} {pv : List V} {pd : List D}
/-- the newest value goes into a slot -/
theorem Sta.store {i : Nat} {x : V} {d : D} (S : Sta K F0 H0 F H σ env (x :: pv) (d :: pd)) : Sta K F0 H0 F H (σ.set i (some x)) (env.set i (some d)) pv pd := by
  obtain ⟨A0, B, h1, h2, h3, h4⟩ := S.own
  cases h2 with
  | cons r rr e =>
    rename_i A B1
    subst e
    by_cases hi : i < env.length
    · obtain ⟨A1, A2, Ai, e, q⟩ := h1.put hi r
      subst e
      refine ⟨S.exF, S.exH, S.sub, S.new, A1 ++ A ++ A2, B1, q, rr, ?_, fun a ha => h4 a ?_⟩
      · refine List.Nodup.sublist (l₂ := A1 ++ A ++ A2 ++ (Ai ++ B1)) ?_ ((List.Perm.nodup_iff ?_).mp h3)
        · exact List.Sublist.append (List.Sublist.refl _) (List.sublist_append_right _ _)
        · have p1 : (A1 ++ Ai ++ A2 ++ (A ++ B1)).Perm (A1 ++ (A ++ A2 ++ (Ai ++ B1))) := by
            rw [List.append_assoc, List.append_assoc]
            refine List.Perm.append_left _ ?_
            rw [show A ++ A2 ++ (Ai ++ B1) = A ++ (A2 ++ Ai) ++ B1 by simp [List.append_assoc], show Ai ++ (A2 ++ (A ++ B1)) = (Ai ++ A2) ++ A ++ B1 by simp [List.append_assoc]]
            refine List.Perm.append_right _ ?_
            refine List.Perm.trans List.perm_append_comm ?_
            exact List.Perm.append_left _ List.perm_append_comm
          rw [show A1 ++ A ++ A2 ++ (Ai ++ B1) = A1 ++ (A ++ A2 ++ (Ai ++ B1)) by simp [List.append_assoc]]
          exact p1
      · simp only [List.mem_append] at ha ⊢
        rcases ha with ((ha | ha) | ha) | ha
        · exact .inl (.inl (.inl ha))
        · exact .inr (.inl ha)
        · exact .inl (.inr ha)
        · exact .inr (.inr ha)
    · have l1 := h1.length
      rw [List.set_eq_of_length_le (by omega), List.set_eq_of_length_le (by omega)]
      exact (Sta.pop S).2
/-- the newest value, a tuple: its items -/
theorem Sta.open {x : V} {ds : List D} (S : Sta K F0 H0 F H σ env (x :: pv) (.tup ds :: pd)) : ∃ a vs, x = .ref a ∧ SqT K H a vs ∧ vs.length = ds.length ∧ Sta K F0 H0 F H σ env (vs ++ pv) (ds ++ pd) := by
  obtain ⟨A0, B, h1, h2, h3, h4⟩ := S.own
  cases h2 with
  | cons r rr e =>
    subst e
    cases r with
    | tup hq rs => exact ⟨_, _, rfl, SqT.of hq, rs.length, S.exF, S.exH, S.sub, S.new, A0, _, h1, rs.app rr, h3, h4⟩
theorem Sta.drops : ∀ {vs : List V} {ds : List D}, vs.length = ds.length → Sta K F0 H0 F H σ env (vs ++ pv) (ds ++ pd) → Sta K F0 H0 F H σ env pv pd
  | [], [], _, S => S
  | v :: vs, d :: ds, hl, S => Sta.drops (by simpa using hl) (Sta.pop S).2
theorem Sta.told {vs : List V} {ds : List D} (hl : vs.length = ds.length) (S : Sta K F0 H0 F H σ env (vs ++ pv) (ds ++ pd)) : ∃ A, Reps K F H vs ds A := by
  obtain ⟨A, r, _⟩ := S.gather hl
  exact ⟨A, r⟩
theorem Sta.len (S : Sta K F0 H0 F H σ env pv pd) : σ.length = env.length := by
  obtain ⟨A0, B, h1, _⟩ := S.own
  exact h1.length
end

/-! ### targets -/
def gtName (i : Nat) : WG := fun d env Q => Q (env.set i (some d))
def gtTup (n : Nat) (gs : WGs) : WG := fun d env Q => match d with
  | .tup ds => ds.length = n ∧ gs ds env Q
  | _ => False
def gtNil : WGs := fun _ env Q => Q env
def gtCons (g : WG) (r : WGs) : WGs := fun ds env Q => match ds with
  | d :: ds => g d env fun env1 => r ds env1 Q
  | [] => False
theorem simG_name {K : KW} {i : Nat} : SimG K (gtName i) (gName i) := by
  intro F0 H0 F H σ env pv pd x d S Q' Q w k
  exact k _ _ w S.store
theorem simGs_nil {K : KW} : SimGs K (fun ds env Q => ds = [] ∧ Q env) gNil := by
  intro F0 H0 F H σ env pv pd xs ds hl S Q' Q w k
  obtain ⟨e, w⟩ := w
  subst e
  have : xs = [] := by simpa using hl
  subst this
  exact ⟨rfl, k _ _ w S⟩
theorem simGs_cons {K : KW} {g : WG} {r : WGs} {t : TG} {u : TGs} (h : SimG K g t) (hr : SimGs K r u) : SimGs K (gtCons g r) (gCons t u) := by
  intro F0 H0 F H σ env pv pd xs ds hl S Q' Q w k
  cases ds with
  | nil => exact w.elim
  | cons d ds =>
    cases xs with
    | nil => simp at hl
    | cons x xs =>
      refine ⟨x, xs, rfl, ?_⟩
      refine h F0 H0 F H σ env (xs ++ pv) (ds ++ pd) x d S _ _ w fun env1 σ1 w1 S1 => ?_
      exact hr F0 H0 F H σ1 env1 pv pd xs ds (by simpa using hl) S1 _ _ w1 k
theorem simG_tup {K : KW} {n : Nat} {gs : WGs} {t : TGs} (h : SimGs K gs t) : SimG K (gtTup n gs) (gTup K n t) := by
  intro F0 H0 F H σ env pv pd x d S Q' Q w k
  unfold gtTup at w
  split at w
  · rename_i ds
    obtain ⟨a, vs, rfl, hq, hl, S1⟩ := S.open
    exact ⟨a, vs, rfl, hq, hl.trans w.1, h F0 H0 F H σ env pv pd vs ds hl S1 _ _ w.2 k⟩
  · exact w.elim
section
variable {X : Cx} {pos : Pos}
theorem g_name {i : Nat} {x : Str} (hN : X.N.Nodup) (hi : X.N[i]? = some x) (hx : Loc X.env.scope x) (hf : X.fn x = true ∨ X.env.scope.names.lookup x = some .local := by first | exact .inl rfl | exact .inr rfl | assumption) : DG X (.Name x pos) (gtName i) := ⟨_, pg_name hN hi hx hf, simG_name⟩
theorem gs_nil : DGs X [] (fun ds env Q => ds = [] ∧ Q env) := ⟨_, pgs_nil, simGs_nil⟩
theorem gs_cons {e : Expr} {es : List Expr} {g : WG} {r : WGs} (h : DG X e g) (hr : DGs X es r) (hs : (assignEach (e :: es) X.env).map (·.2) = assign e X.env :: (assignEach es X.env).map (·.2) := by rfl) : DGs X (e :: es) (gtCons g r) := by
  obtain ⟨t, p, s⟩ := h.ex
  obtain ⟨t2, p2, s2⟩ := hr.ex
  exact ⟨_, pgs_cons p p2 hs, simGs_cons s s2⟩
theorem g_tup {es : List Expr} {k : Nat} {gs : WGs} {n : Nat} (hc : X.calm = true) (h : DGs X es gs) (hn : (assignEach es X.env).length = n := by rfl) (hst : (assignEach es X.env).findIdx? (·.1) = none := by rfl) : DG X (.Tuple es k pos) (gtTup n gs) := by
  obtain ⟨t, p, s⟩ := h.ex
  exact ⟨_, pg_tup hc p hn hst, simG_tup s⟩
end

/-! ### simple statements -/
def wSeq (a b : WS) : WS := fun P px env => a (P.then b px) px env
/-- two statements with a word between them -/
def CutW (J : Env → Prop) (b : WS) (P : PEnds) (px : PX) : Prop := ∀ env1, J env1 → b P px env1
def wCut (a b : WS) : WS := fun P px env => ∃ J : Env → Prop, a (P.mid J) px env ∧ CutW J b P px
def wNext : WS := fun P _ env => P.nx env
def wBrk : WS := fun P _ env => P.bk env
def wCont : WS := fun P _ env => P.ct env
def wRet (w : WE) : WS := fun P px env => w px env fun d b _ => (b = false ∨ dirty d = false) ∧ P.rt d
def wRetN : WS := fun P _ _ => P.rt .non
def wIf (c : WT) (a b : WS) : WS := fun P px env => c px env fun k env1 => if k = true then a P px env1 else b P px env1
def wAsg (w : WE) (g : WG) : WS := fun P px env => w px env fun d b env1 => (b = false ∨ dirty d = false) ∧ g d env1 P.nx
def wDrop (w : WE) : WS := fun P px env => w px env fun _ _ env1 => P.nx env1
def wAug (i : Nat) (g : G2) (w : WE) : WS := fun P px env => match env[i]? with
  | some (some a) => w px env fun b _ env1 => g a b fun d => P.nx (env1.set i (some d))
  | _ => False
def wNever : WS := fun _ _ _ => False
section
variable {K : KW} {E : EX}
theorem simS_next : SimS K E wNext tNext := fun px F0 H0 F H σ env pv pd L S P D w k => k.nx _ _ _ _ w S
theorem simS_brk : SimS K E wBrk tBreak := fun px F0 H0 F H σ env pv pd L S P D w k => k.bk _ _ _ _ w S
theorem simS_cont : SimS K E wCont tCont := fun px F0 H0 F H σ env pv pd L S P D w k => k.ct _ _ _ _ w S
theorem simS_never : SimS K E wNever tNever := fun px F0 H0 F H σ env pv pd L S P D w k => w
theorem simS_seq {a b : WS} {t u : TS} (h1 : SimS K E a t) (h2 : SimS K E b u) : SimS K E (wSeq a b) (tSeq t u) := fun px F0 H0 F H σ env pv pd L S P D w k =>
  h1 px F0 H0 F H σ env pv pd L S (P.then b px) { D with nx := u D } w
    ⟨fun σ' env' F' H' w' S' => h2 px F0 H0 F' H' σ' env' pv pd L S' P D w' k, k.rt, k.bk, k.ct⟩
theorem simS_cut {a b : WS} {t u : TS} (h1 : SimS K E a t) (h2 : SimS K E b u) : SimS K E (wCut a b) (tSeq t u) := fun px F0 H0 F H σ env pv pd L S P D ⟨J, w, w2⟩ k =>
  h1 px F0 H0 F H σ env pv pd L S (P.mid J) { D with nx := u D } w
    ⟨fun σ' env' F' H' w' S' => h2 px F0 H0 F' H' σ' env' pv pd L S' P D (w2 env' w') k, k.rt, k.bk, k.ct⟩
theorem simS_ret {w : WE} {t : TE} (h : Sim K E w t) : SimS K E (wRet w) (tRet t) := fun px F0 H0 F H σ env pv pd L S P D w1 k =>
  h px F0 H0 F H σ env pv pd L S _ _ w1 fun d b env1 v F1 H1 w2 eF eH R => k.rt d v F1 H1 _ _ _ _ w2.2 (R.owned w2.1)
theorem simS_retN : SimS K E wRetN tRetN := fun px F0 H0 F H σ env pv pd L S P D w1 k => k.rt .non .non F H _ _ _ _ w1 (S.clean .non)
theorem simS_if {c : WT} {a b : WS} {t : TT} {u v : TS} (h : SimT K E c t) (h1 : SimS K E a u) (h2 : SimS K E b v) : SimS K E (wIf c a b) (tIfS t u v) := fun px F0 H0 F H σ env pv pd L S P D w1 k =>
  h px F0 H0 F H σ env pv pd L S _ _ w1 fun b env1 F1 H1 w2 eF eH S1 => by
    cases b with
    | true => exact h1 px F0 H0 F1 H1 σ env1 pv pd L S1 P D w2 k
    | false => exact h2 px F0 H0 F1 H1 σ env1 pv pd L S1 P D w2 k
theorem simS_asg {w : WE} {t : TE} {g : WG} {u : TG} (h : Sim K E w t) (hg : SimG K g u) : SimS K E (wAsg w g) (tAsg t u) := fun px F0 H0 F H σ env pv pd L S P D w1 k =>
  h px F0 H0 F H σ env pv pd L S _ _ w1 fun d b env1 v F1 H1 w2 eF eH R =>
    hg F0 H0 F1 H1 σ env1 pv pd v d (R.owned w2.1) _ _ w2.2 fun env2 σ2 w3 S2 => k.nx _ _ _ _ w3 S2
theorem simS_drop {w : WE} {t : TE} (h : Sim K E w t) : SimS K E (wDrop w) (tDrop t) := fun px F0 H0 F H σ env pv pd L S P D w1 k =>
  h px F0 H0 F H σ env pv pd L S _ _ w1 fun d b env1 v F1 H1 w2 eF eH R => k.nx _ _ _ _ w2 R.forget.2
theorem simS_aug {i : Nat} {g : G2} {w : WE} {t : TE} {r : R2} (ho : OpD K g r) (h : Sim K E w t) : SimS K E (wAug i g w) (tAug i t r) := by
  intro px F0 H0 F H σ env pv pd L S P D w1 k
  unfold wAug at w1
  split at w1
  · rename_i a e
    obtain ⟨x, A, e2, rx⟩ := S.slot e
    refine ⟨x, e2, h px F0 H0 F H σ env pv pd L S _ _ w1 fun b bb env1 y F1 H1 w2 eF eH R => ?_⟩
    obtain ⟨⟨B, ry⟩, S1⟩ := R.forget
    exact ho F1 H1 x y a b A B _ _ S1.sub (rx.ex eF eH) ry w2 fun d v H' C q e r hn hC => k.nx _ _ F1 H' q (S1.push e r hn hC).store
  · exact w1.elim
end
section
variable {X : Cx} {E : EX} {st : Stmt} {rest : List Stmt} {a b : WS} {e : Expr} {w : WE} {g : WG} {pos : Pos}
theorem s_nil : DSs X E [] wNext := ⟨_, pss_nil, simS_next⟩
theorem s_cons (h : DS X E st a) (h2 : DSs X E rest b) : DSs X E (st :: rest) (wSeq a b) := by
  obtain ⟨t, p, s⟩ := h.ex
  obtain ⟨t2, p2, s2⟩ := h2.ex
  exact ⟨_, pss_cons p p2, simS_seq s s2⟩
theorem s_cut (h : DS X E st a) (h2 : DSs X E rest b) : DSs X E (st :: rest) (wCut a b) := by
  obtain ⟨t, p, s⟩ := h.ex
  obtain ⟨t2, p2, s2⟩ := h2.ex
  exact ⟨_, pss_cons p p2, simS_cut s s2⟩
theorem s_one (h : DS X E st a) : DSs X E [st] a := by
  obtain ⟨t, p, s⟩ := h.ex
  exact ⟨_, pss_one p, s⟩
theorem s_pass : DS X E (.Pass pos) wNext := ⟨_, ps_pass, simS_next⟩
theorem s_brk : DS X E (.Break pos) wBrk := ⟨_, ps_break, simS_brk⟩
theorem s_cont : DS X E (.Continue pos) wCont := ⟨_, ps_continue, simS_cont⟩
theorem s_doc {x j pos pos'} : DS X E (.Expr (.Constant (.str x) j pos) pos') wNext := ⟨_, ps_doc, simS_next⟩
theorem s_ret (h : DE X E e w) : DS X E (.Return (some e) pos) (wRet w) := by
  obtain ⟨t, p, s⟩ := h.ex
  exact ⟨_, ps_ret p, simS_ret s⟩
theorem s_retN : DS X E (.Return none pos) wRetN := ⟨_, ps_retN, simS_retN⟩
theorem s_if {c : Expr} {ba bb : List Stmt} {wc : WT} (h : DT X E c wc) (h1 : DSs X E ba a) (h2 : DSs X E bb b) : DS X E (.If c ba bb pos) (wIf wc a b) := by
  obtain ⟨t, p, s⟩ := h.ex
  obtain ⟨t1, p1, s1⟩ := h1.ex
  obtain ⟨t2, p2, s2⟩ := h2.ex
  exact ⟨_, ps_if p p1 p2, simS_if s s1 s2⟩
theorem s_asg {tg : Expr} (h : DE X E e w) (hg : DG X tg g) (hs : swapsWithSole [tg] e pos.line X.env = pure false := by rfl) (hw : swappedStores [tg] e X.env = pure none := by rfl) (h1 : (assignEach [tg] X.env).map (·.2) = [assign tg X.env] := by rfl) : DS X E (.Assign [tg] e pos) (wAsg w g) := by
  obtain ⟨t, p, s⟩ := h.ex
  obtain ⟨u, q, r⟩ := hg.ex
  exact ⟨_, ps_asg p q hs hw h1, simS_asg s r⟩
theorem s_set {i : Nat} {x : Str} {pos' : Pos} (hN : X.N.Nodup) (hi : X.N[i]? = some x) (hx : Loc X.env.scope x) (h : DE X E e w) (hs : swapsWith e (some (.Name x pos')) pos.line X.env = pure false := by rfl) (hf : X.fn x = true ∨ X.env.scope.names.lookup x = some .local := by first | exact .inl rfl | exact .inr rfl | assumption) :
    DS X E (.Assign [.Name x pos'] e pos) (wAsg w (gtName i)) := by
  obtain ⟨t, p, s⟩ := h.ex
  exact ⟨_, ps_set hN hi hx p hs hf, simS_asg s simG_name⟩
theorem s_expr (h : DE X E e w) (hs : swapsWith e none pos.line X.env = pure false := by rfl) : DS X E (.Expr e pos) (wDrop w) := by
  obtain ⟨t, p, s⟩ := h.ex
  exact ⟨_, ps_expr p hs, simS_drop s⟩
theorem s_aug {i : Nat} {x : Str} {op : Operator} {r : R2} {g : G2} {pos' : Pos} (hN : X.N.Nodup) (hi : X.N[i]? = some x) (hx : Loc X.env.scope x) (h : DE X E e w) (ho : OpR X (inplaceOp op) r) (hd : OpD X.kw g r) (hf : X.fn x = true ∨ X.env.scope.names.lookup x = some .local := by first | exact .inl rfl | exact .inr rfl | assumption) :
    DS X E (.AugAssign (.Name x pos') op e pos) (wAug i g w) := by
  obtain ⟨t, p, s⟩ := h.ex
  exact ⟨_, ps_aug hN hi hx p ho hf, simS_aug hd s⟩
end

/-! ### loops -/
abbrev WI := PX → Env → (List D → Env → Prop) → Prop
structure ItD (K : KW) (J : It) (pvx : List V) (pdx : List D) (ds : List D) : Prop where
  len : pvx.length = pdx.length
  go : ∀ F H A i d, Ex F H → Reps K F H pvx pdx A → ds[i]? = some d → J.go i H ∧ ∀ x H', J.yld i H x H' → Ex H H' ∧ Rep K F H' x d []
  stop : ∀ F H A, Ex F H → Reps K F H pvx pdx A → J.stop ds.length H
def SimI (K : KW) (E : EX) (w : WI) (t : TI) : Prop := ∀ (px : PX) (F0 H0 F H : Hp) (σ : L2.St) (env : Env) (pv : List V) (pd : List D), LinkX K F0 H0 px E pv pd → Sta K F0 H0 F H σ env pv pd →
  ∀ (Q' : List D → Env → Prop) (R : It → Hp → Prop), w px env Q' → (∀ ds env' J F' H' pvx pdx, Q' ds env' → Ex F F' → Ex H H' → Sta K F0 H0 F' H' σ env' (pvx ++ pv) (pdx ++ pd) → ItD K J pvx pdx ds → R J H') → t σ H R
structure DI (X : Cx) (E : EX) (tg e : Expr) (w : WI) : Prop where
  ex : ∃ t, PI X tg e t ∧ SimI X.kw E w t
def asL : D → Option (List D)
  | .lst _ ds => some ds
  | .seq ds => some ds
  | _ => none
/-- the items of a list that stands still through the loop -/
def itsL (w : WE) : WI := fun px env Q => w px env fun d b env1 => (b = false ∨ dirty d = false) ∧ match asL d with
  | some ds => dirtys ds = false ∧ Q ds env1
  | none => False
def itsT (w : WE) : WI := fun px env Q => w px env fun d b env1 => match d with
  | .tup ds => dirtys ds = false ∧ Q ds env1
  | _ => False
def rngD (lo : Int) (n : Nat) : List D := (List.range n).map fun (i : Nat) => .int (lo + (i : Int))
def its1 (w : WA) : WI := fun px env Q => w px env fun ds env1 => match ds with
  | [.int j] => -(2 ^ 62) ≤ j ∧ j < 2 ^ 62 ∧ Q (rngD 0 j.toNat) env1
  | _ => False
def its2 (w : WA) : WI := fun px env Q => w px env fun ds env1 => match ds with
  | [.int i, .int j] => (-(2 ^ 62) ≤ i ∧ i < 2 ^ 62 ∧ -(2 ^ 62) ≤ j ∧ j < 2 ^ 62) ∧ Q (rngD i (j - i).toNat) env1
  | _ => False
theorem rep_asL {K : KW} {F H : Hp} {v : V} {d : D} {A : List Addr} {ds : List D} (hs : Ex F H) (r : Rep K F H v d A) (h : asL d = some ds) : ∃ a vs B, v = .ref a ∧ SqL K H a vs ∧ Reps K F H vs ds B ∧ ∀ b ∈ B, b ∈ A := by
  cases r with
  | fz h1 h2 => cases h; exact ⟨_, _, [], rfl, .inl (.inl (hs _ _ h1)), h2, fun _ z => z⟩
  | own h1 h2 => cases h; exact ⟨_, _, _, rfl, .inl (.inl h1), h2, fun b hb => List.mem_cons_of_mem _ hb⟩
  | seq h1 h2 => cases h; exact ⟨_, _, [], rfl, Same.seq hs h1, h2, fun _ z => z⟩
  | _ => cases h
theorem sqL_inj_H {K : PySem.W.Frag} {H : Hp} {a : Addr} {xs : List V} (h : SqL K H a xs) : (∀ ys, SqL K H a ys → ys = xs) → True := fun _ => trivial
theorem simI_L {K : KW} {E : EX} {w : WE} {t : TE} (h : Sim K E w t) : SimI K E (itsL w) (iList K t) := by
  intro px F0 H0 F H σ env pv pd L S Q' R w1 k
  refine h px F0 H0 F H σ env pv pd L S _ _ w1 fun d b env1 v F1 H1 w2 eF eH R1 => ?_
  obtain ⟨hb, w2⟩ := w2
  have S1 := R1.owned hb
  obtain ⟨⟨A, r⟩, _⟩ := S1.pop
  split at w2
  · rename_i ds hd
    obtain ⟨a, vs, B, rfl, hq, rs, _⟩ := rep_asL S1.sub r hd
    refine ⟨a, rfl, ⟨vs, hq⟩, k ds env1 _ F1 H1 [.ref a] [d] w2.2 eF eH S1 ⟨rfl, fun F H A i e hs rr he => ?_, fun F H A hs rr => ?_⟩⟩
    · cases rr with
      | cons r1 _ _ =>
        obtain ⟨a', vs', B', e1, hq', rs', _⟩ := rep_asL hs r1 hd
        cases e1
        obtain ⟨x, C, hx, rx, _⟩ := rs'.get he
        refine ⟨⟨vs', x, hq', hx⟩, fun x' H' y => ?_⟩
        obtain ⟨e2, y⟩ := y
        subst e2
        have := y vs' hq'
        rw [hx] at this; cases this
        have cl := rx.clean (dirtys_false.mp w2.1 e (List.mem_of_getElem? he))
        subst cl
        exact ⟨Same.refl _, rx⟩
    · cases rr with
      | cons r1 _ _ =>
        obtain ⟨a', vs', B', e1, hq', rs', _⟩ := rep_asL hs r1 hd
        cases e1
        exact ⟨vs', hq', Nat.le_of_eq rs'.length⟩
  · exact w2.elim
theorem simI_T {K : KW} {E : EX} {w : WE} {t : TE} (h : Sim K E w t) : SimI K E (itsT w) (iTup K t) := by
  intro px F0 H0 F H σ env pv pd L S Q' R w1 k
  refine h px F0 H0 F H σ env pv pd L S _ _ w1 fun d b env1 v F1 H1 w2 eF eH R1 => ?_
  cases d with
  | tup ds =>
    have S1 := R1.owned (.inr (by simpa [dirty] using w2.1))
    obtain ⟨⟨A, r⟩, _⟩ := S1.pop
    cases r with
    | tup hq rs =>
      rename_i a vs
      refine ⟨a, rfl, ⟨_, SqT.of hq⟩, k ds env1 _ F1 H1 [.ref a] [.tup ds] w2.2 eF eH S1 ⟨rfl, fun F H A i e hs rr he => ?_, fun F H A hs rr => ?_⟩⟩
      · cases rr with
        | cons r1 _ _ =>
          cases r1 with
          | tup hq' rs' =>
            obtain ⟨x, C, hx, rx, _⟩ := rs'.get he
            refine ⟨⟨_, x, SqT.of hq', hx⟩, fun x' H' y => ?_⟩
            obtain ⟨e2, y⟩ := y
            subst e2
            have := y _ (SqT.of hq')
            rw [hx] at this; cases this
            have cl := rx.clean (dirtys_false.mp w2.1 e (List.mem_of_getElem? he))
            subst cl
            exact ⟨Same.refl _, rx⟩
      · cases rr with
        | cons r1 _ _ =>
          cases r1 with
          | tup hq' rs' => exact ⟨_, SqT.of hq', Nat.le_of_eq rs'.length⟩
  | _ => exact w2.elim
theorem rngD_len (lo : Int) (n : Nat) : (rngD lo n).length = n := by simp [rngD]
theorem rngD_get {lo : Int} {n i : Nat} {d : D} (h : (rngD lo n)[i]? = some d) : i < n ∧ d = .int (lo + (i : Int)) := by
  have hi : i < n := by rw [← rngD_len lo n]; exact (List.getElem?_eq_some_iff.mp h).1
  simp only [rngD, List.getElem?_map, List.getElem?_range hi, Option.map_some, Option.some.injEq] at h
  exact ⟨hi, h.symm⟩
theorem itD_range {K : KW} (lo : Int) (n : Nat) : ItD K (Itr lo n) [] [] (rngD lo n) := by
  refine ⟨rfl, fun F H A i d hs rr hd => ?_, fun F H A hs rr => ?_⟩
  · obtain ⟨hi, rfl⟩ := rngD_get hd
    refine ⟨hi, fun x H' y => ?_⟩
    obtain ⟨e, rfl⟩ := y
    subst e
    exact ⟨Same.refl _, .int _⟩
  · rw [rngD_len]; exact Nat.le_refl _
theorem simI_1 {K : KW} {E : EX} {w : WA} {t : TA} (h : SimA K E w t) : SimI K E (its1 w) (iRng1 t) := by
  intro px F0 H0 F H σ env pv pd L S Q' R w1 k
  refine h px F0 H0 F H σ env pv pd L S _ _ w1 fun ds env1 vs F1 H1 A w2 eF eH rs S1 => ?_
  split at w2
  · rename_i j
    cases rs with
    | cons r1 r2 _ =>
      cases r2
      rw [rep_int r1]
      exact ⟨j, rfl, w2.1, w2.2.1, k _ env1 _ F1 H1 [] [] w2.2.2 eF eH S1 (itD_range 0 _)⟩
  · exact w2.elim
theorem simI_2 {K : KW} {E : EX} {w : WA} {t : TA} (h : SimA K E w t) : SimI K E (its2 w) (iRng2 t) := by
  intro px F0 H0 F H σ env pv pd L S Q' R w1 k
  refine h px F0 H0 F H σ env pv pd L S _ _ w1 fun ds env1 vs F1 H1 A w2 eF eH rs S1 => ?_
  split at w2
  · rename_i i j
    cases rs with
    | cons r1 r2 _ =>
      cases r2 with
      | cons r3 r4 _ =>
        cases r4
        rw [rep_int r1, rep_int r3]
        exact ⟨i, j, rfl, w2.1, k _ env1 _ F1 H1 [] [] w2.2 eF eH S1 (itD_range i _)⟩
  · exact w2.elim
/-- for: I is what holds ahead of each turn -/
def ForW (g : WG) (b : WS) (P : PEnds) (px : PX) (ds : List D) (env : Env) : Prop := ∃ I : Nat → Env → Prop, I 0 env ∧
  (∀ i d env2, ds[i]? = some d → I i env2 → g d env2 fun env3 => b (P.turn (I (i + 1))) px env3) ∧ ∀ env2, I ds.length env2 → P.nx env2
def wFor (wi : WI) (g : WG) (b : WS) : WS := fun P px env => wi px env fun ds env1 => ForW g b P px ds env1
theorem simS_for {K : KW} {E : EX} {wi : WI} {g : WG} {b : WS} {ti : TI} {tg : TG} {tb : TS} (hi : SimI K E wi ti) (hg : SimG K g tg) (hb : SimS K E b tb) : SimS K E (wFor wi g b) (tFor ti tg tb) := by
  intro px F0 H0 F H σ env pv pd L S P D w k
  refine hi px F0 H0 F H σ env pv pd L S _ _ w fun ds env1 J F1 H1 pvx pdx w1 eF eH S1 J1 => ?_
  obtain ⟨I, i0, turn, done⟩ := w1
  refine ⟨fun i m σ' H' => m = ds.length - i ∧ i ≤ ds.length ∧ ∃ env' F', I i env' ∧ Sta K F0 H0 F' H' σ' env' (pvx ++ pv) (pdx ++ pd), ⟨ds.length, by simp, Nat.zero_le _, env1, F1, i0, S1⟩, ?_⟩
  rintro i m σ2 H2 ⟨rfl, hle, env2, F2, i2, S2⟩
  obtain ⟨A, rs⟩ := S2.told J1.len
  by_cases hlt : i < ds.length
  · obtain ⟨go, yl⟩ := J1.go F2 H2 A i ds[i] S2.sub rs (List.getElem?_eq_getElem hlt)
    refine .inr ⟨go, fun σ' H' => ∃ env' F', I (i + 1) env' ∧ Sta K F0 H0 F' H' σ' env' (pvx ++ pv) (pdx ++ pd), fun σ' H' q => ⟨ds.length - (i + 1), by omega, rfl, hlt, q⟩, fun x H' y => ?_⟩
    obtain ⟨e, rx⟩ := yl x H' y
    have S3 := (S2.grow e).clean rx
    refine hg F0 H0 F2 H' σ2 env2 _ _ x _ S3 _ _ (turn i _ env2 (List.getElem?_eq_getElem hlt) i2) fun env3 σ3 w3 S4 => ?_
    exact hb px F0 H0 F2 H' σ3 env3 _ _ (L.push J1.len) S4 _ _ w3 ⟨fun σ' env' F' H' q S' => ⟨env', F', q, S'⟩, fun d v F' H' σ' env' pv' pd' q S' => k.rt d v F' H' σ' env' pv' pd' q S', fun σ' env' F' H' q S' => k.nx _ _ _ _ q (Sta.drops J1.len S'), fun σ' env' F' H' q S' => ⟨env', F', q, S'⟩⟩
  · have e : i = ds.length := by omega
    subst e
    exact .inl ⟨J1.stop F2 H2 A S2.sub rs, k.nx _ _ _ _ (done env2 i2) (Sta.drops J1.len S2)⟩
/-- while: I by a measure -/
def wWhile (c : WT) (b : WS) : WS := fun P px env => ∃ I : Nat → Env → Prop, (∃ m, I m env) ∧ ∀ m env1, I m env1 → c px env1 fun k env2 => if k = true then
    b (P.turn fun env3 => ∃ m', m' < m ∧ I m' env3) px env2 else P.nx env2
theorem simS_while {K : KW} {E : EX} {c : WT} {b : WS} {tc : TT} {tb : TS} (hc : SimT K E c tc) (hb : SimS K E b tb) : SimS K E (wWhile c b) (tWhile tc tb) := by
  intro px F0 H0 F H σ env pv pd L S P D w k
  obtain ⟨I, ⟨m0, i0⟩, turn⟩ := w
  refine ⟨fun m σ' H' => ∃ env' F', I m env' ∧ Sta K F0 H0 F' H' σ' env' pv pd, ⟨m0, env, F, i0, S⟩, ?_⟩
  rintro m σ1 H1 ⟨env1, F1, i1, S1⟩
  refine hc px F0 H0 F1 H1 σ1 env1 pv pd L S1 _ _ (turn m env1 i1) fun kk env2 F2 H2 w2 eF eH S2 => ?_
  cases kk with
  | false => exact k.nx _ _ _ _ w2 S2
  | true =>
    refine ⟨fun σ' H' => ∃ m', m' < m ∧ ∃ env' F', I m' env' ∧ Sta K F0 H0 F' H' σ' env' pv pd, fun σ' H' q => q, ?_⟩
    exact hb px F0 H0 F2 H2 σ1 env2 pv pd L S2 _ _ w2 ⟨fun σ' env' F' H' ⟨m', hm, q⟩ S' => ⟨m', hm, env', F', q, S'⟩, k.rt, k.nx, fun σ' env' F' H' ⟨m', hm, q⟩ S' => ⟨m', hm, env', F', q, S'⟩⟩
section
variable {X : Cx} {E : EX} {tg e : Expr} {w : WE} {wa : WA} {pos : Pos}
theorem n_L (h : DE X E e w) : DI X E tg e (itsL w) := by
  obtain ⟨t, p, s⟩ := h.ex
  exact ⟨_, pi_list p, simI_L s⟩
theorem n_T (h : DE X E e w) : DI X E tg e (itsT w) := by
  obtain ⟨t, p, s⟩ := h.ex
  exact ⟨_, pi_tup p, simI_T s⟩
theorem n_1 {p pos : Pos} (hg : Gl X "range") (hm : X.mg "range" = none) (h : DA X E [e] wa) (hs : starEach [e] X.env = [(false, eval e X.env)] := by rfl) : DI X E tg (.Call (.Name "range" p) [e] [] pos) (its1 wa) := by
  obtain ⟨t, p, s⟩ := h.ex
  exact ⟨_, pi_range1 hg hm p hs, simI_1 s⟩
theorem n_2 {a b : Expr} {p pos : Pos} (hg : Gl X "range") (hm : X.mg "range" = none) (h : DA X E [a, b] wa) (hs : starEach [a, b] X.env = [(false, eval a X.env), (false, eval b X.env)] := by rfl) (hs2 : starEach [b] X.env = [(false, eval b X.env)] := by rfl) : DI X E tg (.Call (.Name "range" p) [a, b] [] pos) (its2 wa) := by
  obtain ⟨t, p, s⟩ := h.ex
  exact ⟨_, pi_range2 hg hm p hs hs2, simI_2 s⟩
theorem s_for {iter : Expr} {body : List Stmt} {wi : WI} {g : WG} {b : WS} (hp : PassesOwn (model X.prog X.w) X.A X.env X.xe) (hc : X.calm = true) (hi : DI X E tg iter wi) (hg : DG X tg g) (hb : DSs X E body b) (hs : ∀ x, foldedSetIterable iter X.env x = pure x := by intro _; rfl) :
    DS X E (.For tg iter body [] pos) (wFor wi g b) := by
  obtain ⟨t1, p1, s1⟩ := hi.ex
  obtain ⟨t2, p2, s2⟩ := hg.ex
  obtain ⟨t3, p3, s3⟩ := hb.ex
  exact ⟨_, ps_for hp hc p1 p2 p3 hs, simS_for s1 s2 s3⟩
theorem s_while {c : Expr} {body : List Stmt} {wc : WT} {b : WS} (hp : PassesOwn (model X.prog X.w) X.A X.env X.xe) (hc : DT X E c wc) (hb : DSs X E body b) : DS X E (.While c body [] pos) (wWhile wc b) := by
  obtain ⟨t1, p1, s1⟩ := hc.ex
  obtain ⟨t2, p2, s2⟩ := hb.ex
  exact ⟨_, ps_while hp p1 p2, simS_while s1 s2⟩
end

/-! ### a def -/
def start0 (n : Nat) (ds : List D) : Env := ds.map some ++ List.replicate (n - ds.length) none
theorem slots_start {K : KW} {F H : Hp} {n : Nat} : ∀ {vs : List V} {ds : List D}, Reps K F H vs ds [] → Slots K F H (vs.map some ++ List.replicate n none) (ds.map some ++ List.replicate n none) []
  | [], _, .nil => by
    simp only [List.map_nil, List.nil_append]
    induction n with
    | zero => exact .nil
    | succ n ih => exact .skip ih
  | _, _, .cons (A := A) (B := B) r rs e => by
    have e1 : A = [] := by cases A with | nil => rfl | cons _ _ => simp at e
    have e2 : B = [] := by subst e1; simpa using e.symm
    subst e1 e2
    exact .cons r (slots_start rs) rfl
theorem spD_len {K : KW} {spec : SpecT} {n : Nat} (h : ∀ ds px Q, spec ds px Q → ds.length = n) : ∀ vs H Q E, spD K spec vs H Q E → vs.length = n := by
  rintro vs H Q E ⟨F, ds, px, Qd, _, r, s, _⟩
  rw [r.length]; exact h ds px Qd s
theorem body_start {K : KW} {F H : Hp} {N : List Str} {vs : List V} {ds : List D} (hF : Ex F H) (r : Reps K F H vs ds []) : Sta K F H F H (L2.start N vs) (start0 N.length ds) [] [] := by
  refine ⟨Same.refl _, Same.refl _, hF, fun a q => .inl q, [], [], ?_, .nil, List.nodup_nil, fun a ha => absurd ha List.not_mem_nil⟩
  unfold L2.start start0
  rw [r.length]
  exact slots_start r
theorem body_end {K : KW} {F H : Hp} {Q : VK} {Qd : D → Prop} (back : ∀ d v F' H' A, Qd d → Ex F F' → Ex H H' → Ex F' H' → (∀ a, F' a ≠ none → F a ≠ none ∨ H a = none) → Rep K F' H' v d A → A.Nodup → (∀ a ∈ A, F' a = none ∧ H a = none) → Q v H') :
    LinkD K F H [] [] (PEnds.top Qd) { nx := fun _ H' => Q .non H', rt := Q } := by
  have fin : ∀ d v F' H' σ' env' pv' pd', Qd d → Sta K F H F' H' σ' env' (v :: pv') (d :: pd') → Q v H' := fun d v F' H' σ' env' pv' pd' q S' => by
    obtain ⟨A0, B, h1, h2, h3, h4⟩ := S'.own
    cases h2 with
    | cons r1 r2 e =>
      subst e
      rename_i A B1
      refine back d v F' H' A q S'.exF S'.exH S'.sub S'.new r1 ?_ fun a ha => h4 a (by simp [ha])
      exact (List.nodup_append.mp (List.nodup_append.mp h3).2.1).1
  exact ⟨fun σ' env' F' H' q S' => fin .non .non F' H' σ' env' [] [] q (S'.clean .non), fin, fun _ _ _ _ q _ => q, fun _ _ _ _ q _ => q⟩
theorem body_ok {K : KW} {E : XK} {spec : SpecT} {w : WS} {t : TS} {N : List Str} {vs : List V} {H : Hp} {Q : VK} (hs : SimS K (fun _ => E) w t) (h : spD K spec vs H Q E)
    (pure : ∀ ds px Qd, spec ds px Qd → w (PEnds.top Qd) px (start0 N.length ds)) : t { nx := fun _ H' => Q .non H', rt := Q } (L2.start N vs) H := by
  obtain ⟨F, ds, px, Qd, hF, r, sp, L, back⟩ := h
  have S := body_start hF r (N := N)
  have LX : LinkX K F H px (fun _ => E) [] [] := fun n C σ' env' F' H' pvx pdx hn hp _ S' => L n C env' H' hn hp S'.exH
  exact hs px F H F H _ _ [] [] LX S _ _ (pure ds px Qd sp) (body_end back)
/-- .. where nothing is let out -/
theorem body_ok0 {K : KW} {E : XK} {E' : EX} {spec : SpecT} {w : WS} {t : TS} {N : List Str} {vs : List V} {H : Hp} {Q : VK} (hs : SimS K E' w t) (h : spD K spec vs H Q E)
    (pure : ∀ ds px Qd, spec ds px Qd → w (PEnds.top Qd) px0 (start0 N.length ds)) : t { nx := fun _ H' => Q .non H', rt := Q } (L2.start N vs) H := by
  obtain ⟨F, ds, px, Qd, hF, r, sp, L, back⟩ := h
  exact hs px0 F H F H _ _ [] [] link0 (body_start hF r (N := N)) _ _ (pure ds px Qd sp) (body_end back)
section
variable {P : Program} {w : World} {K : KW} {mg : Str → Option Value} {base : Heap}
/-- THE RULE for a def from which no exception leaves -/
theorem okD {x qual : Str} {st : Stmt} {f : Addr} {fd : FuncData} {N ps : List Str} {k : Nat} {spec : SpecT} (F : Fun K x qual st f fd) (S : FnScope N ps (defScope st)) (len : ∀ ds px Q, spec ds px Q → ds.length = ps.length) {ws : WS}
    (body : ∀ (cdv : Value) (A : Around) (outer : List PySem.Env) (s : Shared) (H : Hp) (E : XK), Room k (A.deeper (envOfC qual (defScope st) s.heap.objs.size f cdv)) → DSs (cxOf CX0 P K.w K mg base N qual (defScope st) f cdv A outer s H E).nox (fun _ => E) (defBody st) ws)
    (pure : ∀ ds px Q, spec ds px Q → ws (PEnds.top Q) px (start0 N.length ds)) : FnOk P K.w K mg base CX0 (k + 1) f fd ps (spD K spec) := by
  refine F.ok S (spD_len len) fun cdv A outer s H vs Q E hr h => ?_
  obtain ⟨t, p, sim⟩ := (body cdv A outer s H E hr).ex
  exact ⟨t, p, body_ok sim h pure⟩
end
end Tm

set_option Elab.async false
set_option linter.all false
set_option maxRecDepth 100000
set_option maxHeartbeats 1000000
namespace Tm
open PySem PySem.Spec PyProof.Rows L2

/-! ### + -/
def rAddS : R2 := fun x y H Q => ∃ i j, x = .str i ∧ y = .str j ∧ i.length + j.length ≤ sizeLine ∧ Q (.str (i ++ j)) H
def rAddA (K : PySem.W.Frag) : R2 := fun x y H Q => rI0 (fun i j => .int (i + j)) x y H Q ∨ rAddS x y H Q ∨ rCat x y H Q ∨ rCatA K x y H Q
theorem op_addA {X : Cx} : OpR X (binaryOp .Add) (rAddA X.K) := op_add.or (op_add_str.or (op_cat.or op_catA))
def gAdd : G2
  | .int i, .int j, Q => Q (.int (i + j))
  | .str x, .str y, Q => x.length + y.length ≤ 100000 ∧ Q (.str (x ++ y))
  | .lst _ xs, .lst _ ys, Q => dirtys xs = false ∧ dirtys ys = false ∧ xs.length + ys.length ≤ 100000 ∧ Q (.lst true (xs ++ ys))
  | .tup xs, .tup ys, Q => dirtys xs = false ∧ dirtys ys = false ∧ xs.length + ys.length ≤ 100000 ∧ Q (.tup (xs ++ ys))
  | _, _, _ => False
theorem rep_lst {K : KW} {F H : Hp} {v : V} {o : Bool} {ds : List D} {A : List Addr} (hs : Ex F H) (r : Rep K F H v (.lst o ds) A) : ∃ a vs B, v = .ref a ∧ H a = some (.lst vs) ∧ Reps K F H vs ds B := by
  cases r with
  | fz h1 h2 => exact ⟨_, _, [], rfl, hs _ _ h1, h2⟩
  | own h1 h2 => exact ⟨_, _, _, rfl, h1, h2⟩
theorem rep_tup {K : KW} {F H : Hp} {v : V} {ds : List D} {A : List Addr} (r : Rep K F H v (.tup ds) A) : ∃ a vs, v = .ref a ∧ SqT K H a vs ∧ Reps K F H vs ds A := by
  cases r with
  | tup h1 h2 => exact ⟨_, _, rfl, SqT.of h1, h2⟩
theorem reps_nil_iff {K : KW} {F H : Hp} {vs : List V} {ds : List D} {A : List Addr} (r : Reps K F H vs ds A) : vs = [] ↔ ds = [] := by
  cases r <;> simp
theorem opd_add {K : KW} : OpD K gAdd (rAddA K) := by
  intro F H x y dx dy A B Q' Q hs rx ry w k
  unfold gAdd at w
  split at w
  · rw [rep_int rx, rep_int ry]
    exact .inl ⟨_, _, rfl, rfl, k.same w (.int _)⟩
  · rw [rep_str rx, rep_str ry]
    exact .inr (.inl ⟨_, _, rfl, rfl, le_line w.1, k.same w.2 (.str _)⟩)
  · obtain ⟨a, vs, A', rfl, h1, r1⟩ := rep_lst hs rx
    obtain ⟨b, ws, B', rfl, h2, r2⟩ := rep_lst hs ry
    have e1 := r1.clean w.1
    have e2 := r2.clean w.2.1
    subst e1 e2
    refine .inr (.inr (.inl ⟨a, b, vs, ws, rfl, rfl, h1, h2, by rw [r1.length, r2.length]; exact le_line w.2.2.1, k.lst w.2.2.2 (r1.app r2)⟩))
  · obtain ⟨a, vs, rfl, h1, r1⟩ := rep_tup rx
    obtain ⟨b, ws, rfl, h2, r2⟩ := rep_tup ry
    have e1 := r1.clean w.1
    have e2 := r2.clean w.2.1
    subst e1 e2
    refine .inr (.inr (.inr ⟨a, b, vs, ws, rfl, rfl, h1, h2, by rw [r1.length, r2.length]; exact le_line w.2.2.1, fun z => ?_, fun _ z => ?_, fun _ _ => k.tup w.2.2.2 (r1.app r2)⟩))
    · have := (reps_nil_iff r1).mp z
      subst this
      exact k.same w.2.2.2 ry
    · have := (reps_nil_iff r2).mp z
      subst this
      rw [List.append_nil] at w
      exact k.same w.2.2.2 rx
  · exact w.elim
def rIaddA : R2 := fun x y H Q => rI0 (fun i j => .int (i + j)) x y H Q ∨ rAddS x y H Q
theorem op_iaddA {X : Cx} : OpR X (inplaceOp .Add) rIaddA := iop_add.or iop_add_str
def gIadd : G2
  | .int i, .int j, Q => Q (.int (i + j))
  | .str x, .str y, Q => x.length + y.length ≤ 100000 ∧ Q (.str (x ++ y))
  | _, _, _ => False
theorem opd_iadd {K : KW} : OpD K gIadd rIaddA := by
  intro F H x y dx dy A B Q' Q hs rx ry w k
  unfold gIadd at w
  split at w
  · rw [rep_int rx, rep_int ry]
    exact .inl ⟨_, _, rfl, rfl, k.same w (.int _)⟩
  · rw [rep_str rx, rep_str ry]
    exact .inr ⟨_, _, rfl, rfl, le_line w.1, k.same w.2 (.str _)⟩
  · exact w.elim

/-! ### ints -/
def gMinus : G2 := fun a b Q => gI (fun _ _ => True) (fun i j => .int (i - j)) a b Q
theorem opd_sub {K : KW} : OpD K gMinus (rI0 fun i j => .int (i - j)) := opd_I0 (f := fun i j => .int (i - j)) fun _ _ => rfl
def CDivB (i j : Int) : Prop := 0 < j ∧ j ≤ 10 ^ 100
theorem nat_lt400 {j : Int} (h1 : 0 < j) (h2 : j ≤ 10 ^ 100) : j.natAbs < 2 ^ 400 := by
  have e : ((10 : Int) ^ 100) = (((10 : Nat) ^ 100 : Nat) : Int) := by decide +kernel
  have h4 : j.natAbs ≤ 10 ^ 100 := by
    rw [e] at h2
    have : (j.natAbs : Int) = j := by omega
    exact Int.ofNat_le.mp (by rw [this]; exact h2)
  exact Nat.lt_of_le_of_lt h4 (by decide +kernel)
theorem op_fdivB {X : Cx} : OpR X (binaryOp .FloorDiv) (rI CDivB fun i j => .int (i / j)) := fun pins s σ H x y v u Q I rx ry ⟨i, j, e1, e2, hc, q⟩ =>
  op_fdivW pins s σ H x y v u Q I rx ry ⟨i, j, e1, e2, wide_div (b := 400) hc.1 (nat_lt400 hc.1 hc.2) (by decide) (by decide), q⟩
def gFdiv : G2 := fun a b Q => gI CDivB (fun i j => .int (i / j)) a b Q
theorem opd_fdiv {K : KW} : OpD K gFdiv (rI CDivB fun i j => .int (i / j)) := opd_I (f := fun i j => .int (i / j)) fun _ _ => rfl
def gMod : G2 := fun a b Q => gI (fun _ j => 0 < j) (fun i j => .int (i % j)) a b Q
theorem opd_mod {K : KW} : OpD K gMod (rI (fun _ j => 0 < j) fun i j => .int (i % j)) := opd_I (f := fun i j => .int (i % j)) fun _ _ => rfl
def gPow : G2 := fun a b Q => gI CPow (fun i j => .int (i ^ j.toNat)) a b Q
theorem opd_pow {K : KW} : OpD K gPow (rI CPow fun i j => .int (i ^ j.toNat)) := opd_I (f := fun i j => .int (i ^ j.toNat)) fun _ _ => rfl
/-- *: ints, a text or a list so often -/
def repl {α : Type} (n : Nat) (xs : List α) : List α := (List.replicate n xs).flatten
def repS (n : Nat) (z : Str) : Str := ⟨(repl n z.cps.toList).toArray⟩
def rRepS : R2 := fun x y H Q => ∃ (z : Str) (k : Int), x = .str z ∧ y = .int k ∧ -100000 ≤ k ∧ k ≤ 100000 ∧ z.length * k.toNat ≤ 100000 ∧ Q (.str (repS k.toNat z)) H
theorem fold_repl (a : Array Nat) : ∀ (n : Nat) (b : Array Nat), ((List.replicate n a).foldl (· ++ ·) b).toList = b.toList ++ repl n a.toList
  | 0, b => by simp [repl]
  | n + 1, b => by
    rw [List.replicate_succ, List.foldl_cons, fold_repl a n]
    simp [repl, List.replicate_succ]
theorem repl_len {α : Type} (n : Nat) (xs : List α) : (repl n xs).length = n * xs.length := by
  unfold repl
  induction n with
  | zero => simp
  | succ n ih => rw [List.replicate_succ, List.flatten_cons, List.length_append, ih, Nat.succ_mul]; omega
theorem op_mul_str {X : Cx} : OpR X (binaryOp .Mult) rRepS := by
  intro pins s σ H x y v u Q I rx ry h
  obtain ⟨z, k, rfl, rfl, h1, h2, hz, q⟩ := h
  obtain ⟨t, rfl⟩ := rx
  obtain ⟨t', rfl⟩ := ry
  have hl : z.cps.toList.length = z.length := by show _ = z.cps.size; simp
  refine P.mul_str ?_ (fun h3 h4 => ?_) (fun h3 h4 => ?_) ?_
  · rw [decide_eq_false (by omega), decide_eq_false (by omega)]; rfl
  · have hk : 0 < k := by omega
    have hm : (z.length : Int) * k ≤ 2 ^ 63 - 1 := by
      have e : ((z.length * k.toNat : Nat) : Int) = (z.length : Int) * k := by
        rw [Int.natCast_mul, Int.toNat_of_nonneg (by omega)]
      omega
    have := Int.le_ediv_of_mul_le hk hm
    omega
  · unfold Builtin.Str.tooLong
    exact decide_eq_false (by have : (100000 : Nat) ≤ sizeLine := by decide
                              omega)
  · split
    · rename_i h3
      refine ⟨by decide, .str (repS k.toNat z), H, I.tok _, ⟨s.toks, ?_⟩, q⟩
      rw [show k.toNat = 0 from by omega]; rfl
    · split
      · rename_i h3 h4
        have ez : repS k.toNat z = z := by
          rw [Bool.or_eq_true, beq_iff_eq, beq_iff_eq] at h4
          rcases h4 with h4 | h4
          · rw [h4]
            show (⟨(repl 1 z.cps.toList).toArray⟩ : Str) = z
            simp [repl]
          · have e0 : z.cps.toList = [] := by
              apply List.eq_nil_of_length_eq_zero
              rw [hl]; exact h4
            have e1 : repl k.toNat z.cps.toList = [] := by
              apply List.eq_nil_of_length_eq_zero
              rw [repl_len, e0]; rfl
            obtain ⟨⟨l⟩⟩ := z
            show (⟨(repl k.toNat _).toArray⟩ : Str) = _
            rw [e1]
            simp at e0
            subst e0; rfl
        exact ⟨.str (repS k.toNat z), H, I, ⟨t, by rw [ez]⟩, q⟩
      · refine ⟨?_, .str (repS k.toNat z), H, I.tok _, ⟨s.toks, ?_⟩, q⟩
        · have e1 : (List.replicate k.toNat z.cps).foldl (fun x1 x2 => x1 ++ x2) #[] = (repl k.toNat z.cps.toList).toArray := by
            apply Array.ext'
            rw [fold_repl]; simp
          rw [e1]
          show (repl k.toNat z.cps.toList).toArray.size ≤ sizeLine
          rw [List.size_toArray, repl_len, hl, Nat.mul_comm]
          exact le_line hz
        · have : (List.replicate k.toNat z.cps).foldl (· ++ ·) #[] = (repl k.toNat z.cps.toList).toArray := by
            apply Array.ext'
            rw [fold_repl]; simp
          rw [this]; rfl
def rMulA : R2 := fun x y H Q => rI CMul (fun i j => .int (i * j)) x y H Q ∨ rRep x y H Q ∨ rRepS x y H Q
theorem op_mulA {X : Cx} : OpR X (binaryOp .Mult) rMulA := op_mul.or (op_rep.or op_mul_str)
def gMul : G2
  | .int i, .int j, Q => CMul i j ∧ Q (.int (i * j))
  | .lst _ xs, .int k, Q => dirtys xs = false ∧ k ≤ 100000 ∧ -100000 ≤ k ∧ xs.length * k.toNat ≤ 100000 ∧ Q (.lst true (repl k.toNat xs))
  | .str z, .int k, Q => -100000 ≤ k ∧ k ≤ 100000 ∧ z.length * k.toNat ≤ 100000 ∧ Q (.str (repS k.toNat z))
  | _, _, _ => False
theorem reps_repl {K : KW} {F H : Hp} {vs : List V} {ds : List D} (r : Reps K F H vs ds []) : ∀ n, Reps K F H (List.replicate n vs).flatten (repl n ds) []
  | 0 => .nil
  | n + 1 => by
    have := r.app (reps_repl r n)
    unfold repl
    rw [List.replicate_succ, List.replicate_succ, List.flatten_cons, List.flatten_cons]
    exact this
theorem opd_mul {K : KW} : OpD K gMul rMulA := by
  intro F H x y dx dy A B Q' Q hs rx ry w k
  unfold gMul at w
  split at w
  · rw [rep_int rx, rep_int ry]
    exact .inl ⟨_, _, rfl, rfl, w.1, k.same w.2 (.int _)⟩
  · obtain ⟨a, vs, A', rfl, h1, r1⟩ := rep_lst hs rx
    rw [rep_int ry]
    have e1 := r1.clean w.1
    subst e1
    exact .inr (.inl ⟨a, _, vs, rfl, rfl, h1, by have := w.2.2.1; omega, by have := w.2.1; omega, by rw [r1.length]; exact le_line w.2.2.2.1, k.lst w.2.2.2.2 (reps_repl r1 _)⟩)
  · rw [rep_str rx, rep_int ry]
    exact .inr (.inr ⟨_, _, rfl, rfl, w.1, w.2.1, w.2.2.1, k.same w.2.2.2 (.str _)⟩)
  · exact w.elim
def gNeg : G1
  | .int i, Q => Q (.int (-i))
  | _, _ => False
theorem und_neg {K : KW} : UnD K gNeg (rU fun i => .int (-i)) := by
  intro F H x dx A Q' Q hs rx w k
  unfold gNeg at w
  split at w
  · rw [rep_int rx]
    exact ⟨_, rfl, k.same w (.int _)⟩
  · exact w.elim

/-! ### comparisons -/
def gLt : G2 := fun a b Q => gI (fun _ _ => True) (fun i j => .bl (decide (i < j))) a b Q
def gLe : G2 := fun a b Q => gI (fun _ _ => True) (fun i j => .bl (decide (i ≤ j))) a b Q
def gGt : G2 := fun a b Q => gI (fun _ _ => True) (fun i j => .bl (decide (j < i))) a b Q
def gGe : G2 := fun a b Q => gI (fun _ _ => True) (fun i j => .bl (decide (j ≤ i))) a b Q
theorem opd_lt {K : KW} : OpD K gLt (rI0 fun i j => .bl (decide (i < j))) := opd_I0 (f := fun i j => .bl (decide (i < j))) fun _ _ => rfl
theorem opd_le {K : KW} : OpD K gLe (rI0 fun i j => .bl (decide (i ≤ j))) := opd_I0 (f := fun i j => .bl (decide (i ≤ j))) fun _ _ => rfl
theorem opd_gt {K : KW} : OpD K gGt (rI0 fun i j => .bl (decide (j < i))) := opd_I0 (f := fun i j => .bl (decide (j < i))) fun _ _ => rfl
theorem opd_ge {K : KW} : OpD K gGe (rI0 fun i j => .bl (decide (j ≤ i))) := opd_I0 (f := fun i j => .bl (decide (j ≤ i))) fun _ _ => rfl
mutual
/-- data as the library's == takes it -/
def py : D → PyData
  | .non => .none
  | .bl b => .bool b
  | .int i => .int i
  | .str x => .str x
  | .tup ds => .tuple (pys ds)
  | .lst _ ds => .list (pys ds)
  | .seq ds => .list (pys ds)
  | .ref _ => .none
  | .ty _ => .none
  | .dct _ _ _ => .none
  | .pin _ _ => .none
  | .obj _ _ _ _ => .none
  | .xd _ _ _ _ => .none
def pys : List D → List PyData
  | [] => []
  | d :: ds => py d :: pys ds
end
mutual
def isPy : D → Bool
  | .tup ds => isPys ds
  | .lst _ ds => isPys ds
  | .seq ds => isPys ds
  | .ref _ => false
  | .ty _ => false
  | .dct _ _ _ => false
  | .pin _ _ => false
  | .obj _ _ _ _ => false
  | .xd _ _ _ _ => false
  | _ => true
def isPys : List D → Bool
  | [] => true
  | d :: ds => isPy d && isPys ds
end
mutual
theorem Rep.dp {K : KW} {F H : Hp} (hs : Ex F H) : ∀ {v : V} {d : D} {A : List Addr}, Rep K F H v d A → isPy d = true → Dp K H v (py d)
  | _, _, _, .non, _ => by rw [py]; exact .non
  | _, _, _, .bl b, _ => by rw [py]; exact .bl b
  | _, _, _, .int i, _ => by rw [py]; exact .int i
  | _, _, _, .str x, _ => by rw [py]; exact .str x
  | _, _, _, .ref a, h => by simp [isPy] at h
  | _, _, _, .ty n, h => by simp [isPy] at h
  | _, _, _, .tup h r, hd => by rw [py]; exact .tup (SqT.of h) (Reps.dp hs r (by simpa [isPy] using hd))
  | _, _, _, .dF _ _ _, h => by simp [isPy] at h
  | _, _, _, .dL _ _ _, h => by simp [isPy] at h
  | _, _, _, .dO _ _ _, h => by simp [isPy] at h
  | _, _, _, .fz h r, hd => by rw [py]; exact .lst (.inl (.inl (hs _ _ h))) (Reps.dp hs r (by simpa [isPy] using hd))
  | _, _, _, .own h r, hd => by rw [py]; exact .lst (.inl (.inl h)) (Reps.dp hs r (by simpa [isPy] using hd))
  | _, _, _, .seq h r, hd => by rw [py]; exact .lst (Same.seq hs h) (Reps.dp hs r (by simpa [isPy] using hd))
theorem Reps.dp {K : KW} {F H : Hp} (hs : Ex F H) : ∀ {vs : List V} {ds : List D} {A : List Addr}, Reps K F H vs ds A → isPys ds = true → DpAll K H vs (pys ds)
  | _, _, _, .nil, _ => by rw [pys]; exact .nil
  | _, _, _, .cons h r e, hd => by
    simp only [isPys, Bool.and_eq_true] at hd
    rw [pys]; exact .cons (Rep.dp hs h hd.1) (Reps.dp hs r hd.2)
end
def shD (d : D) : Bool := isPy d && SeqAt.shaped (py d)
def eqD (a b : D) : Bool := PyData.eqv (py a) (py b)
def rEqA (K : PySem.W.Frag) : R2 := fun x y H Q => rEq x y H Q ∨ rEqD K x y H Q
def rNeA (K : PySem.W.Frag) : R2 := fun x y H Q => rNe x y H Q ∨ rNeD K x y H Q
theorem op_eqA {X : Cx} (hu : X.A.units + 64 < cLine) : OpR X (compareOp .Eq) (rEqA X.K) := op_eq.or (op_eqD hu)
theorem op_neA {X : Cx} (hu : X.A.units + 64 < cLine) : OpR X (compareOp .NotEq) (rNeA X.K) := op_ne.or (op_neD hu)
/-- the scalars, whose == is plain; else the library's over data -/
def scEq : D → D → Option Bool
  | .int i, .int j => some (decide (i = j))
  | .str x, .str y => some (decide (x = y))
  | .bl a, .bl b => some (decide (a = b))
  | .non, .non => some true
  | .non, .int _ => some false
  | .int _, .non => some false
  | .non, .str _ => some false
  | .str _, .non => some false
  | _, _ => none
def eqK (o : Option Bool) (a b : D) (Q : Bool → Prop) : Prop := match o with
  | some c => Q c
  | none => shD a = true ∧ shD b = true ∧ Q (eqD a b)
def gEq : G2 := fun a b Q => eqK (scEq a b) a b fun c => Q (.bl c)
def gNe : G2 := fun a b Q => eqK (scEq a b) a b fun c => Q (.bl (!c))
theorem scEq_int {i j : Int} : scEq (.int i) (.int j) = some (decide (i = j)) := rfl
theorem scEq_str {x y : Str} : scEq (.str x) (.str y) = some (decide (x = y)) := rfl
theorem scEq_bl {x y : Bool} : scEq (.bl x) (.bl y) = some (decide (x = y)) := rfl
theorem scEq_nn : scEq .non .non = some true := rfl
theorem scEq_ni {i : Int} : scEq .non (.int i) = some false := rfl
theorem scEq_in {i : Int} : scEq (.int i) .non = some false := rfl
theorem scEq_ns {i : Str} : scEq .non (.str i) = some false := rfl
theorem scEq_sn {i : Str} : scEq (.str i) .non = some false := rfl
theorem scEq_lst {o : Bool} {ds : List D} {e : D} : scEq (.lst o ds) e = none := by cases e <;> rfl
theorem scEq_tup {ds : List D} {e : D} : scEq (.tup ds) e = none := by cases e <;> rfl
theorem scEq_seq {ds : List D} {e : D} : scEq (.seq ds) e = none := by cases e <;> rfl
theorem scEq_xlst {o : Bool} {ds : List D} {e : D} : scEq e (.lst o ds) = none := by cases e <;> rfl
theorem scEq_xtup {ds : List D} {e : D} : scEq e (.tup ds) = none := by cases e <;> rfl
theorem eqK_some {c : Bool} {a b : D} {Q : Bool → Prop} : eqK (some c) a b Q = Q c := rfl
theorem eqK_none {a b : D} {Q : Bool → Prop} : eqK none a b Q = (shD a = true ∧ shD b = true ∧ Q (eqD a b)) := rfl
theorem scEq_ok {a b : D} {c : Bool} (h : scEq a b = some c) : scalD a = true ∧ scalD b = true ∧ scal (toV a) (toV b) = true ∧ decide (toV a = toV b) = c := by
  unfold scEq at h
  split at h <;> first | cases h | skip
  all_goals first | (refine ⟨rfl, rfl, rfl, ?_⟩; simp [toV]) | skip
theorem opd_eq {K : KW} : OpD K gEq (rEqA K) := by
  intro F H x y dx dy A B Q' Q hs rx ry w k
  unfold gEq eqK at w
  split at w
  · rename_i c e
    obtain ⟨h1, h2, h3, h4⟩ := scEq_ok e
    rw [rep_scal rx h1, rep_scal ry h2]
    exact .inl ⟨h3, by rw [h4]; exact k.same w (.bl c)⟩
  · obtain ⟨w1, w2, w3⟩ := w
    unfold shD at w1 w2
    rw [Bool.and_eq_true] at w1 w2
    exact .inr ⟨_, _, rx.dp hs w1.1, ry.dp hs w2.1, w1.2, w2.2, k.same w3 (.bl _)⟩
theorem opd_ne {K : KW} : OpD K gNe (rNeA K) := by
  intro F H x y dx dy A B Q' Q hs rx ry w k
  unfold gNe eqK at w
  split at w
  · rename_i c e
    obtain ⟨h1, h2, h3, h4⟩ := scEq_ok e
    rw [rep_scal rx h1, rep_scal ry h2]
    exact .inl ⟨h3, by rw [h4]; exact k.same w (.bl (!c))⟩
  · obtain ⟨w1, w2, w3⟩ := w
    unfold shD at w1 w2
    rw [Bool.and_eq_true] at w1 w2
    exact .inr ⟨_, _, rx.dp hs w1.1, ry.dp hs w2.1, w1.2, w2.2, k.same w3 (.bl _)⟩
def isNon : D → Bool
  | .non => true
  | _ => false
def gIs : G2 := fun a b Q => match b with
  | .non => Q (.bl (isNon a))
  | _ => False
def gIsnt : G2 := fun a b Q => match b with
  | .non => Q (.bl (!isNon a))
  | _ => False
theorem rep_non {K : KW} {F H : Hp} {v : V} {d : D} {A : List Addr} (r : Rep K F H v d A) : decide (v = .non) = isNon d := by
  cases r <;> simp [isNon]
theorem opd_is {K : KW} : OpD K gIs (fun x y H Q => y = .non ∧ Q (.bl (decide (x = .non))) H) := by
  intro F H x y dx dy A B Q' Q hs rx ry w k
  unfold gIs at w
  split at w
  · cases ry
    exact ⟨rfl, by rw [rep_non rx]; exact k.same w (.bl _)⟩
  · exact w.elim
theorem opd_isnt {K : KW} : OpD K gIsnt (fun x y H Q => y = .non ∧ Q (.bl (!decide (x = .non))) H) := by
  intro F H x y dx dy A B Q' Q hs rx ry w k
  unfold gIsnt at w
  split at w
  · cases ry
    exact ⟨rfl, by rw [rep_non rx]; exact k.same w (.bl _)⟩
  · exact w.elim

/-! ### in -/
def rInS (x y : V) (H : Hp) (Q : VK) : Prop := ∃ (c : Nat) (z : Str), x = .str ⟨#[c]⟩ ∧ y = .str z ∧ Q (.bl (decide (c ∈ z.cps.toList))) H
def rNotInS (x y : V) (H : Hp) (Q : VK) : Prop := ∃ (c : Nat) (z : Str), x = .str ⟨#[c]⟩ ∧ y = .str z ∧ Q (.bl (!decide (c ∈ z.cps.toList))) H
def occ (i j : Str) : Bool := !(Builtin.Str.occurrences j i 0 j.length 1).isEmpty
def rInT (x y : V) (H : Hp) (Q : VK) : Prop := ∃ i j, x = .str i ∧ y = .str j ∧ Q (.bl (!(Builtin.Str.occurrences j i 0 j.length 1).isEmpty)) H
def rNotInT (x y : V) (H : Hp) (Q : VK) : Prop := ∃ i j, x = .str i ∧ y = .str j ∧ Q (.bl (!(!(Builtin.Str.occurrences j i 0 j.length 1).isEmpty))) H
def rInA (K : PySem.W.Frag) : R2 := fun x y H Q => rInS x y H Q ∨ rInT x y H Q ∨ rIn K false x y H Q
def rNotInA (K : PySem.W.Frag) : R2 := fun x y H Q => rNotInS x y H Q ∨ rNotInT x y H Q ∨ rIn K true x y H Q
theorem op_inA {X : Cx} : OpR X (compareOp .In) (rInA X.K) := OpR.or (r := rInS) op_in_sign (OpR.or (r := rInT) op_in_str op_in_seq)
theorem op_notInA {X : Cx} : OpR X (compareOp .NotIn) (rNotInA X.K) := OpR.or (r := rNotInS) op_notIn_sign (OpR.or (r := rNotInT) op_notin_str op_notIn_seq)
/-- the place of one sign, else of a text, in a text -/
def inStr (x z : Str) : Bool := match x.cps.toList with
  | [c] => decide (c ∈ z.cps.toList)
  | _ => occ x z
def eqF : D → D → Bool
  | .non, .non => true
  | .bl a, .bl b => a == b
  | .bl a, .int b => (if a then 1 else 0) == b
  | .int a, .bl b => a == (if b then 1 else 0)
  | .int a, .int b => a == b
  | .str a, .str b => a == b
  | _, _ => false
def inF (x : D) (ds : List D) : Bool := ds.any fun y => eqF y x
def gIn : G2
  | .str x, .str z, Q => Q (.bl (inStr x z))
  | d, .lst _ ds, Q => scalD d = true ∧ ds.all scalD = true ∧ Q (.bl (inF d ds))
  | d, .seq ds, Q => scalD d = true ∧ ds.all scalD = true ∧ Q (.bl (inF d ds))
  | d, .tup ds, Q => scalD d = true ∧ ds.all scalD = true ∧ Q (.bl (inF d ds))
  | _, _, _ => False
def gNotIn : G2
  | .str x, .str z, Q => Q (.bl (!inStr x z))
  | d, .lst _ ds, Q => scalD d = true ∧ ds.all scalD = true ∧ Q (.bl (!inF d ds))
  | d, .seq ds, Q => scalD d = true ∧ ds.all scalD = true ∧ Q (.bl (!inF d ds))
  | d, .tup ds, Q => scalD d = true ∧ ds.all scalD = true ∧ Q (.bl (!inF d ds))
  | _, _, _ => False
theorem eqF_V : ∀ (a b : D), scalD a = true → scalD b = true → eqV (toV a) (toV b) = eqF a b := by
  intro a b h1 h2
  cases a <;> cases b <;> first | rfl | exact Bool.noConfusion h1 | exact Bool.noConfusion h2
theorem reps_scal {K : KW} {F H : Hp} : ∀ {vs : List V} {ds : List D} {A : List Addr}, Reps K F H vs ds A → ds.all scalD = true → vs = ds.map toV
  | _, _, _, .nil, _ => rfl
  | _, _, _, .cons h r e, hd => by
    rw [List.all_cons, Bool.and_eq_true] at hd
    rw [rep_scal h hd.1, reps_scal r hd.2]; rfl
theorem flat_toV : ∀ {d : D}, scalD d = true → flatV (toV d) = true := by
  intro d h
  cases d <;> first | rfl | exact Bool.noConfusion h
theorem inF_V {d : D} {ds : List D} (hd : scalD d = true) (h : ds.all scalD = true) : inV (toV d) (ds.map toV) = inF d ds := by
  unfold inV inF
  rw [List.any_map]
  induction ds with
  | nil => rfl
  | cons e es ih =>
    rw [List.all_cons, Bool.and_eq_true] at h
    rw [List.any_cons, List.any_cons, ih h.2]
    show (eqV (toV e) (toV d) || _) = _
    rw [eqF_V e d h.1 hd]
theorem flats_toV {ds : List D} (h : ds.all scalD = true) : (ds.map toV).all flatV = true := by
  rw [List.all_map]
  rw [List.all_eq_true] at h ⊢
  exact fun x hx => flat_toV (h x hx)
theorem str_one {x : Str} {c : Nat} (h : x.cps.toList = [c]) : x = ⟨#[c]⟩ := by
  obtain ⟨a⟩ := x
  simp only at h
  congr 1
  exact Array.toList_inj.mp (by simpa using h)
theorem opd_in {K : KW} : OpD K gIn (rInA K) := by
  intro F H x y dx dy A B Q' Q hs rx ry w k
  unfold gIn at w
  split at w
  · rename_i x' z
    rw [rep_str rx, rep_str ry]
    unfold inStr at w
    split at w
    · rename_i c e
      exact .inl ⟨c, z, by rw [str_one e], rfl, k.same w (.bl _)⟩
    · exact .inr (.inl ⟨x', z, rfl, rfl, k.same w (.bl _)⟩)
  · obtain ⟨a, vs, A', rfl, h1, r1⟩ := rep_lst hs ry
    rw [rep_scal rx w.1]
    refine .inr (.inr ⟨a, vs, rfl, .inl (.inl (.inl h1)), flat_toV w.1, ?_, ?_⟩)
    · rw [reps_scal r1 w.2.1]; exact flats_toV w.2.1
    · rw [reps_scal r1 w.2.1, inF_V w.1 w.2.1]; exact k.same w.2.2 (.bl _)
  · cases ry with
    | seq h1 r1 =>
      rename_i a vs
      rw [rep_scal rx w.1]
      refine .inr (.inr ⟨a, vs, rfl, .inl (Same.seq hs h1), flat_toV w.1, ?_, ?_⟩)
      · rw [reps_scal r1 w.2.1]; exact flats_toV w.2.1
      · rw [reps_scal r1 w.2.1, inF_V w.1 w.2.1]; exact k.same w.2.2 (.bl _)
  · obtain ⟨a, vs, rfl, h1, r1⟩ := rep_tup ry
    rw [rep_scal rx w.1]
    refine .inr (.inr ⟨a, vs, rfl, .inr h1, flat_toV w.1, ?_, ?_⟩)
    · rw [reps_scal r1 w.2.1]; exact flats_toV w.2.1
    · rw [reps_scal r1 w.2.1, inF_V w.1 w.2.1]; exact k.same w.2.2 (.bl _)
  · exact w.elim
theorem opd_notIn {K : KW} : OpD K gNotIn (rNotInA K) := by
  intro F H x y dx dy A B Q' Q hs rx ry w k
  unfold gNotIn at w
  split at w
  · rename_i x' z
    rw [rep_str rx, rep_str ry]
    unfold inStr at w
    split at w
    · rename_i c e
      exact .inl ⟨c, z, by rw [str_one e], rfl, k.same w (.bl _)⟩
    · exact .inr (.inl ⟨x', z, rfl, rfl, k.same w (.bl _)⟩)
  · obtain ⟨a, vs, A', rfl, h1, r1⟩ := rep_lst hs ry
    rw [rep_scal rx w.1]
    refine .inr (.inr ⟨a, vs, rfl, .inl (.inl (.inl h1)), flat_toV w.1, ?_, ?_⟩)
    · rw [reps_scal r1 w.2.1]; exact flats_toV w.2.1
    · rw [reps_scal r1 w.2.1, inF_V w.1 w.2.1]; exact k.same w.2.2 (.bl _)
  · cases ry with
    | seq h1 r1 =>
      rename_i a vs
      rw [rep_scal rx w.1]
      refine .inr (.inr ⟨a, vs, rfl, .inl (Same.seq hs h1), flat_toV w.1, ?_, ?_⟩)
      · rw [reps_scal r1 w.2.1]; exact flats_toV w.2.1
      · rw [reps_scal r1 w.2.1, inF_V w.1 w.2.1]; exact k.same w.2.2 (.bl _)
  · obtain ⟨a, vs, rfl, h1, r1⟩ := rep_tup ry
    rw [rep_scal rx w.1]
    refine .inr (.inr ⟨a, vs, rfl, .inr h1, flat_toV w.1, ?_, ?_⟩)
    · rw [reps_scal r1 w.2.1]; exact flats_toV w.2.1
    · rw [reps_scal r1 w.2.1, inF_V w.1 w.2.1]; exact k.same w.2.2 (.bl _)
  · exact w.elim

/-! ### items, slices -/
def atK (o : Option D) (Q : D → Prop) : Prop := match o with
  | some d => dirty d = false ∧ Q d
  | none => False
def atC (o : Option Nat) (Q : D → Prop) : Prop := match o with
  | some c => Q (.str ⟨#[c]⟩)
  | none => False
theorem atK_some {d : D} {Q : D → Prop} : atK (some d) Q = (dirty d = false ∧ Q d) := rfl
theorem atC_some {c : Nat} {Q : D → Prop} : atC (some c) Q = Q (.str ⟨#[c]⟩) := rfl
theorem atK_of {o : Option D} {d : D} {Q : D → Prop} (h : o = some d) (hd : dirty d = false) (q : Q d) : atK o Q := by subst h; exact ⟨hd, q⟩
theorem atC_of {o : Option Nat} {c : Nat} {Q : D → Prop} (h : o = some c) (q : Q (.str ⟨#[c]⟩)) : atC o Q := by subst h; exact q
def gIx : G2
  | .lst _ ds, .int i, Q => atK (atI ds i) Q
  | .seq ds, .int i, Q => atK (atI ds i) Q
  | .tup ds, .int i, Q => atK (atI ds i) Q
  | .str z, .int i, Q => z.length ≤ 100000 ∧ atC (atI z.cps.toList i) Q
  | _, _, _ => False
section
variable {o : Bool} {ds : List D} {i : Int} {z : Str} {Q : D → Prop}
theorem gIx_lst : gIx (.lst o ds) (.int i) Q = atK (atI ds i) Q := rfl
theorem gIx_seq : gIx (.seq ds) (.int i) Q = atK (atI ds i) Q := rfl
theorem gIx_tup : gIx (.tup ds) (.int i) Q = atK (atI ds i) Q := rfl
theorem gIx_str : gIx (.str z) (.int i) Q = (z.length ≤ 100000 ∧ atC (atI z.cps.toList i) Q) := rfl
end
theorem atI_0 {α : Type} {x : α} {xs : List α} : atI (x :: xs) 0 = some x := atI_nat (j := 0) rfl
theorem atI_1 {α : Type} {x y : α} {xs : List α} : atI (x :: y :: xs) 1 = some y := atI_nat (j := 1) rfl
theorem atI_2 {α : Type} {x y z : α} {xs : List α} : atI (x :: y :: z :: xs) 2 = some z := atI_nat (j := 2) rfl
theorem atI_3 {α : Type} {x y z w : α} {xs : List α} : atI (x :: y :: z :: w :: xs) 3 = some w := atI_nat (j := 3) rfl
theorem reps_atI {K : KW} {F H : Hp} {vs : List V} {ds : List D} {A : List Addr} {i : Int} {d : D} (r : Reps K F H vs ds A) (h : atI ds i = some d) : ∃ v B, atI vs i = some v ∧ Rep K F H v d B := by
  unfold atI at h ⊢
  rw [r.length]
  cases e : ixN ds.length i with
  | none => rw [e] at h; cases h
  | some j =>
    rw [e] at h
    obtain ⟨v, B, h1, h2, _⟩ := r.get (show ds[j]? = some d from h)
    exact ⟨v, B, h1, h2⟩
theorem atK_is {o : Option D} {Q : D → Prop} (h : atK o Q) : ∃ d, o = some d ∧ dirty d = false ∧ Q d := by
  unfold atK at h
  split at h
  · exact ⟨_, rfl, h⟩
  · exact h.elim
theorem atC_is {o : Option Nat} {Q : D → Prop} (h : atC o Q) : ∃ c, o = some c ∧ Q (.str ⟨#[c]⟩) := by
  unfold atC at h
  split at h
  · exact ⟨_, rfl, h⟩
  · exact h.elim
theorem opd_ix {K : KW} : OpD K gIx (rIx K) := by
  intro F H x y dx dy A B Q' Q hs rx ry w k
  unfold gIx at w
  split at w
  · obtain ⟨a, vs, A', rfl, h1, r1⟩ := rep_lst hs rx
    rw [rep_int ry]
    obtain ⟨d, e, w1, w2⟩ := atK_is w
    obtain ⟨v, C, e2, r2⟩ := reps_atI r1 e
    have := r2.clean w1
    subst this
    exact .inl ⟨a, vs, _, v, rfl, rfl, .inl (.inl h1), e2, k.same w2 r2⟩
  · cases rx with
    | seq h1 r1 =>
      rename_i a vs
      rw [rep_int ry]
      obtain ⟨d, e, w1, w2⟩ := atK_is w
      obtain ⟨v, C, e2, r2⟩ := reps_atI r1 e
      have := r2.clean w1
      subst this
      exact .inl ⟨a, vs, _, v, rfl, rfl, Same.seq hs h1, e2, k.same w2 r2⟩
  · obtain ⟨a, vs, rfl, h1, r1⟩ := rep_tup rx
    rw [rep_int ry]
    obtain ⟨d, e, w1, w2⟩ := atK_is w
    obtain ⟨v, C, e2, r2⟩ := reps_atI r1 e
    have := r2.clean w1
    subst this
    exact .inr (.inl ⟨a, vs, _, v, rfl, rfl, h1, e2, k.same w2 r2⟩)
  · rw [rep_str rx, rep_int ry]
    obtain ⟨w1, w2⟩ := w
    obtain ⟨c, e, w3⟩ := atC_is w2
    exact .inr (.inr ⟨_, _, c, rfl, rfl, le_line w1, e, k.same w3 (.str _)⟩)
  · exact w.elim
theorem d_ix {X : Cx} {E : EX} {a b : Expr} {wa wb : WE} {pos : Pos} (ha : DE X E a wa) (hb : DE X E b wb) (hs : PlainIx b := by exact fun _ _ => rfl) : DE X E (.Subscript a b pos) (wOp gIx wa wb) := by
  obtain ⟨ta, pa, sa⟩ := ha.ex
  obtain ⟨tb, pb, sb⟩ := hb.ex
  exact ⟨_, pe_ix ix_seq pa pb hs, sim_op opd_ix sa sb⟩
abbrev WO := PX → Env → (Option Int → Env → Prop) → Prop
def SimO (K : KW) (E : EX) (w : WO) (t : TO) : Prop := ∀ (px : PX) (F0 H0 F H : Hp) (σ : L2.St) (env : Env) (pv : List V) (pd : List D), LinkX K F0 H0 px E pv pd → Sta K F0 H0 F H σ env pv pd →
  ∀ (Q' : Option Int → Env → Prop) (Q : Option Int → Hp → Prop), w px env Q' → (∀ o env' F' H', Q' o env' → Ex F F' → Ex H H' → Sta K F0 H0 F' H' σ env' pv pd → Q o H') → t σ H Q
structure DO (X : Cx) (E : EX) (e : Option Expr) (w : WO) : Prop where
  ex : ∃ t, PO X e t ∧ SimO X.kw E w t
def wNo : WO := fun _ env Q => Q none env
def wPart (w : WE) : WO := fun px env Q => w px env fun d _ env1 => match d with
  | .int i => Q (some i) env1
  | _ => False
theorem o_none {X : Cx} {E : EX} : DO X E none wNo := ⟨_, po_none, fun px F0 H0 F H σ env pv pd L S Q' Q w k => k none env F H w (Same.refl _) (Same.refl _) S⟩
theorem o_some {X : Cx} {E : EX} {e : Expr} {w : WE} (h : DE X E e w) : DO X E (some e) (wPart w) := by
  obtain ⟨t, p, s⟩ := h.ex
  refine ⟨_, po_some p, fun px F0 H0 F H σ env pv pd L S Q' Q w k => ?_⟩
  refine s px F0 H0 F H σ env pv pd L S _ _ w fun d b env1 v F1 H1 w2 eF eH R => ?_
  obtain ⟨⟨A, r⟩, S1⟩ := R.forget
  cases d with
  | int i => exact ⟨i, rep_int r, k (some i) env1 F1 H1 w2 eF eH S1⟩
  | _ => exact w2.elim
def cutD (xs : List D) (lo hi : Option Int) : List D := (xs.drop (HT.sIx xs.length 0 lo)).take (HT.sIx xs.length xs.length hi - HT.sIx xs.length 0 lo)
theorem reps_take {K : KW} {F H : Hp} {vs : List V} {ds : List D} (r : Reps K F H vs ds []) (n m : Nat) : Reps K F H ((vs.drop n).take m) ((ds.drop n).take m) [] := by
  refine .of_clean (by simp [r.length]) fun i v d h1 h2 => ?_
  rw [List.getElem?_take] at h1 h2
  split at h1
  · rename_i hi
    rw [if_pos hi, List.getElem?_drop] at h2
    rw [List.getElem?_drop] at h1
    exact r.clean_get h1 h2
  · cases h1
theorem reps_cut {K : KW} {F H : Hp} {vs : List V} {ds : List D} (r : Reps K F H vs ds []) (lo hi : Option Int) : Reps K F H (cutV vs lo hi) (cutD ds lo hi) [] := by
  unfold cutV cutD
  rw [r.length]
  exact reps_take r _ _
def gSl (d : D) (lo hi : Option Int) (Q : D → Prop) : Prop := match d with
  | .lst _ ds => dirtys ds = false ∧ Q (.lst true (cutD ds lo hi))
  | .seq ds => dirtys ds = false ∧ Q (.lst true (cutD ds lo hi))
  | .tup ds => dirtys ds = false ∧ Q (.tup (cutD ds lo hi))
  | .str z => z.length ≤ 100000 ∧ Q (.str (cutS z lo hi))
  | _ => False
def rSlS : V → Option Int → Option Int → Hp → VK → Prop := fun x lo hi H Q => ∃ z, x = .str z ∧ z.length ≤ sizeLine ∧ Q (.str (cutS z lo hi)) H
def rSl (K : PySem.W.Frag) : V → Option Int → Option Int → Hp → VK → Prop := fun x lo hi H Q => rSlL K x lo hi H Q ∨ rSlA K x lo hi H Q ∨ rSlS x lo hi H Q
theorem sl_all {X : Cx} : SlR X (rSl X.K) := sl_list.or (sl_tupA.or (r' := rSlS) sl_str)
theorem cutD_all {ds : List D} {lo hi : Option Int} (h : HT.sIx ds.length 0 lo = 0 ∧ HT.sIx ds.length ds.length hi = ds.length) : cutD ds lo hi = ds := by
  unfold cutD
  rw [h.1, h.2, List.drop_zero, Nat.sub_zero, List.take_length]
theorem gSl_ok {K : KW} {F H : Hp} {x : V} {d : D} {A : List Addr} {lo hi : Option Int} {Q' : D → Prop} {Q : VK} (hs : Ex F H) (r : Rep K F H x d A) (w : gSl d lo hi Q') (k : Ends1 K F H Q' Q) : rSl K x lo hi H Q := by
  unfold gSl at w
  split at w
  · obtain ⟨a, vs, A', rfl, h1, r1⟩ := rep_lst hs r
    have := r1.clean w.1
    subst this
    exact .inl ⟨a, vs, rfl, .inl (.inl h1), k.lst w.2 (reps_cut r1 lo hi)⟩
  · cases r with
    | seq h1 r1 => exact .inl ⟨_, _, rfl, Same.seq hs h1, k.lst w.2 (reps_cut r1 lo hi)⟩
  · obtain ⟨a, vs, rfl, h1, r1⟩ := rep_tup r
    have := r1.clean w.1
    subst this
    refine .inr (.inl ⟨a, vs, rfl, h1, fun z => ?_, fun _ => k.tup w.2 (reps_cut r1 lo hi)⟩)
    rw [r1.length] at z
    have w2 := w.2
    rw [cutD_all z] at w2
    exact k.same w2 r
  · rw [rep_str r]
    exact .inr (.inr ⟨_, rfl, le_line w.1, k.same w.2 (.str _)⟩)
  · exact w.elim
def wSl (w : WE) (wl wh : WO) : WE := fun px env Q => w px env fun d _ env1 => wl px env1 fun lo env2 => wh px env2 fun hi env3 => gSl d lo hi fun e => Q e false env3
theorem d_sl {X : Cx} {E : EX} {e : Expr} {lo hi : Option Expr} {w : WE} {wl wh : WO} {p2 pos : Pos} (he : DE X E e w) (hl : DO X E lo wl) (hh : DO X E hi wh) : DE X E (.Subscript e (.Slice lo hi none p2) pos) (wSl w wl wh) := by
  obtain ⟨t, p, s⟩ := he.ex
  obtain ⟨t1, p1, s1⟩ := hl.ex
  obtain ⟨t2, p2, s2⟩ := hh.ex
  refine ⟨_, pe_slice sl_all p p1 p2, fun px F0 H0 F H σ env pv pd L S Q' Q w k => ?_⟩
  refine s px F0 H0 F H σ env pv pd L S _ _ w fun d b env1 x F1 H1 w1 eF1 eH1 R1 => ?_
  obtain ⟨⟨A, rx⟩, S1⟩ := R1.forget
  refine s1 px F0 H0 F1 H1 σ env1 pv pd L S1 _ _ w1 fun lo env2 F2 H2 w2 eF2 eH2 S2 => ?_
  refine s2 px F0 H0 F2 H2 σ env2 pv pd L S2 _ _ w2 fun hi env3 F3 H3 w3 eF3 eH3 S3 => ?_
  refine gSl_ok S3.sub ((rx.ex eF2 eH2).ex eF3 eH3) w3 fun d v H' C q e r hn hC => ?_
  exact k d false env3 v F3 H' q ((eF1.trans eF2).trans eF3) (((eH1.trans eH2).trans eH3).trans e) (S3.push e r hn hC)

/-! ### built-ins by name -/
abbrev GC := List D → (D → Prop) → Prop
def CallD (K : KW) (g : GC) (r : List V → Hp → VK → Prop) : Prop := ∀ (F H : Hp) (xs : List V) (ds : List D) (A : List Addr) (Q' : D → Prop) (Q : VK), Ex F H → Reps K F H xs ds A → g ds Q' → Ends1 K F H Q' Q → r xs H Q
def wB (g : GC) (w : WA) : WE := fun px env Q => w px env fun ds env1 => g ds fun d => Q d false env1
theorem sim_B {K : KW} {E : EX} {g : GC} {r : List V → Hp → VK → Prop} {w : WA} {t : TA} (h : CallD K g r) (ha : SimA K E w t) : Sim K E (wB g w) (tCB r t) := by
  intro px F0 H0 F H σ env pv pd L S Q' Q w1 k
  refine ha px F0 H0 F H σ env pv pd L S _ _ w1 fun ds env1 vs F1 H1 A w2 eF eH rs S1 => ?_
  refine h F1 H1 vs ds A _ _ S1.sub rs w2 fun d v H' C q e r hn hC => ?_
  exact k d false env1 v F1 H' q eF (eH.trans e) (S1.push e r hn hC)
section
variable {X : Cx} {E : EX} {g : GC} {r : List V → Hp → VK → Prop} {x : Str} {p pos : Pos} {e : Expr} {es : List Expr} {w : WA}
theorem d_B {id : String} (hc : CallR X (.builtin id) r) (hd : CallD X.kw g r) (hg : Gl X x) (hm : X.mg x = none) (hv : bootBuiltins x = some (.builtin id)) (ha : DA X E (e :: es) w) (hn : x ≠ "__name__" := by decide) (hdb : (x == ("__debug__" : Str)) = false := by decide)
    (he : starEach (e :: es) X.env = (false, eval e X.env) :: starEach es X.env := by rfl) (hpl : (backTo pos (starEach es X.env)).any (·.1) = false := by rfl) : DE X E (.Call (.Name x p) (e :: es) [] pos) (wB g w) := by
  obtain ⟨t, pa, sa⟩ := ha.ex
  exact ⟨_, pe_callB hc hg hm hv pa hn hdb he hpl, sim_B hd sa⟩
theorem d_BT {T : String} (hc : CallR X (.type T) r) (hd : CallD X.kw g r) (hg : Gl X x) (hm : X.mg x = none) (hv : bootBuiltins x = some (.type T)) (ha : DA X E (e :: es) w) (hn : x ≠ "__name__" := by decide) (hdb : (x == ("__debug__" : Str)) = false := by decide)
    (he : starEach (e :: es) X.env = (false, eval e X.env) :: starEach es X.env := by rfl) (hpl : (backTo pos (starEach es X.env)).any (·.1) = false := by rfl) : DE X E (.Call (.Name x p) (e :: es) [] pos) (wB g w) := by
  obtain ⟨t, pa, sa⟩ := ha.ex
  exact ⟨_, pe_callTy hc hg hm hv pa hn hdb he hpl, sim_B hd sa⟩
/-- a built-in type's name as a value -/
theorem d_ty {x : Str} {T : String} {pos : Pos} (hg : Gl X x) (hm : X.mg x = none) (hv : bootBuiltins x = some (.type T)) (hn : x ≠ "__name__" := by decide) (hd : (x == ("__debug__" : Str)) = false := by decide) : DE X E (.Name x pos) (wC (.ty T)) :=
  ⟨_, pe_bltn (v := .ty T) hg hm hv rfl hn hd, sim_c fun _ _ => .ty T⟩
end
theorem reps1 {K : KW} {F H : Hp} {xs : List V} {d : D} {A : List Addr} (r : Reps K F H xs [d] A) : ∃ v, xs = [v] ∧ Rep K F H v d A := by
  cases r with
  | cons h r e => cases r; exact ⟨_, rfl, by rw [e, List.append_nil]; exact h⟩
theorem reps2 {K : KW} {F H : Hp} {xs : List V} {d e : D} {A : List Addr} (r : Reps K F H xs [d, e] A) : ∃ v u B C, xs = [v, u] ∧ Rep K F H v d B ∧ Rep K F H u e C := by
  cases r with
  | cons h r e =>
    obtain ⟨u, rfl, r2⟩ := reps1 r
    exact ⟨_, u, _, _, rfl, h, r2⟩
def gLen : GC
  | [.str z], Q => z.length ≤ 100000 ∧ Q (.int (z.length : Int))
  | [.lst _ ds], Q => Q (.int (ds.length : Int))
  | [.seq ds], Q => Q (.int (ds.length : Int))
  | [.tup ds], Q => Q (.int (ds.length : Int))
  | _, _ => False
def rLenA (K : PySem.W.Frag) : List V → Hp → VK → Prop := fun xs H Q => ∃ x n, xs = [x] ∧ LenV K x H n ∧ Q (.int n) H
theorem cd_len {K : KW} : CallD K gLen (rLenA K) := by
  intro F H xs ds A Q' Q hs r w k
  unfold gLen at w
  split at w
  · obtain ⟨v, rfl, r1⟩ := reps1 r
    rw [rep_str r1]
    exact ⟨_, _, rfl, ⟨le_line w.1, rfl⟩, k.same w.2 (.int _)⟩
  · obtain ⟨v, rfl, r1⟩ := reps1 r
    obtain ⟨a, vs, A', rfl, h1, r2⟩ := rep_lst hs r1
    exact ⟨_, _, rfl, .inl ⟨vs, .inl (.inl h1), rfl⟩, by rw [r2.length]; exact k.same w (.int _)⟩
  · obtain ⟨v, rfl, r1⟩ := reps1 r
    cases r1 with
    | seq h1 r2 => exact ⟨_, _, rfl, .inl ⟨_, Same.seq hs h1, rfl⟩, by rw [r2.length]; exact k.same w (.int _)⟩
  · obtain ⟨v, rfl, r1⟩ := reps1 r
    obtain ⟨a, vs, rfl, h1, r2⟩ := rep_tup r1
    exact ⟨_, _, rfl, .inr ⟨vs, h1, rfl⟩, by rw [r2.length]; exact k.same w (.int _)⟩
  · exact w.elim
def gMin2 : GC
  | [.int i, .int j], Q => Q (.int (if j < i then j else i))
  | _, _ => False
def gMax2 : GC
  | [.int i, .int j], Q => Q (.int (if j > i then j else i))
  | _, _ => False
theorem cd_min2 {K : KW} : CallD K gMin2 (fun xs H Q => ∃ i j, xs = [.int i, .int j] ∧ Q (.int (if j < i then j else i)) H) := by
  intro F H xs ds A Q' Q hs r w k
  unfold gMin2 at w
  split at w
  · obtain ⟨v, u, B, C, rfl, r1, r2⟩ := reps2 r
    rw [rep_int r1, rep_int r2]
    exact ⟨_, _, rfl, k.same w (.int _)⟩
  · exact w.elim
theorem cd_max2 {K : KW} : CallD K gMax2 (fun xs H Q => ∃ i j, xs = [.int i, .int j] ∧ Q (.int (if j > i then j else i)) H) := by
  intro F H xs ds A Q' Q hs r w k
  unfold gMax2 at w
  split at w
  · obtain ⟨v, u, B, C, rfl, r1, r2⟩ := reps2 r
    rw [rep_int r1, rep_int r2]
    exact ⟨_, _, rfl, k.same w (.int _)⟩
  · exact w.elim
def gInt : GC
  | [.int i], Q => Q (.int i)
  | [.bl b], Q => Q (.int (if b then 1 else 0))
  | _, _ => False
theorem cd_int {K : KW} : CallD K gInt (fun xs H Q => (∃ i, xs = [.int i] ∧ Q (.int i) H) ∨ ∃ k, xs = [.bl k] ∧ Q (.int (if k then 1 else 0)) H) := by
  intro F H xs ds A Q' Q hs r w k
  unfold gInt at w
  split at w
  · obtain ⟨v, rfl, r1⟩ := reps1 r
    rw [rep_int r1]
    exact .inl ⟨_, rfl, k.same w (.int _)⟩
  · obtain ⟨v, rfl, r1⟩ := reps1 r
    rw [rep_bl r1]
    exact .inr ⟨_, rfl, k.same w (.int _)⟩
  · exact w.elim
/-- list(xs), tuple(xs) -/
def gList : GC
  | [.lst _ ds], Q => dirtys ds = false ∧ Q (.lst true ds)
  | [.seq ds], Q => dirtys ds = false ∧ Q (.lst true ds)
  | [.tup ds], Q => dirtys ds = false ∧ Q (.lst true ds)
  | _, _ => False
theorem cd_list {K : KW} : CallD K gList (fun xs H Q => ∃ p ys, xs = [.ref p] ∧ (SqL K H p ys ∨ SqT K H p ys) ∧ ∀ l, H l = none → Q (.ref l) (upd H l (.lst ys))) := by
  intro F H xs ds A Q' Q hs r w k
  unfold gList at w
  split at w
  · obtain ⟨v, rfl, r1⟩ := reps1 r
    obtain ⟨a, vs, A', rfl, h1, r2⟩ := rep_lst hs r1
    have := r2.clean w.1
    subst this
    exact ⟨a, vs, rfl, .inl (.inl (.inl h1)), k.lst w.2 r2⟩
  · obtain ⟨v, rfl, r1⟩ := reps1 r
    cases r1 with
    | seq h1 r2 => exact ⟨_, _, rfl, .inl (Same.seq hs h1), k.lst w.2 r2⟩
  · obtain ⟨v, rfl, r1⟩ := reps1 r
    obtain ⟨a, vs, rfl, h1, r2⟩ := rep_tup r1
    have := r2.clean w.1
    subst this
    exact ⟨a, vs, rfl, .inr h1, k.lst w.2 r2⟩
  · exact w.elim
def gTuple : GC
  | [.lst _ ds], Q => dirtys ds = false ∧ Q (.tup ds)
  | [.seq ds], Q => dirtys ds = false ∧ Q (.tup ds)
  | [.tup ds], Q => dirtys ds = false ∧ Q (.tup ds)
  | _, _ => False
theorem cd_tuple {K : KW} : CallD K gTuple (fun xs H Q => ∃ p ys, xs = [.ref p] ∧ ((SqL K H p ys ∧ ∀ l, H l = none → Q (.ref l) (upd H l (.tup ys))) ∨ (SqT K H p ys ∧ Q (.ref p) H))) := by
  intro F H xs ds A Q' Q hs r w k
  unfold gTuple at w
  split at w
  · obtain ⟨v, rfl, r1⟩ := reps1 r
    obtain ⟨a, vs, A', rfl, h1, r2⟩ := rep_lst hs r1
    have := r2.clean w.1
    subst this
    exact ⟨a, vs, rfl, .inl ⟨.inl (.inl h1), k.tup w.2 r2⟩⟩
  · obtain ⟨v, rfl, r1⟩ := reps1 r
    cases r1 with
    | seq h1 r2 => exact ⟨_, _, rfl, .inl ⟨Same.seq hs h1, k.tup w.2 r2⟩⟩
  · obtain ⟨v, rfl, r1⟩ := reps1 r
    have e := r1.clean (by simpa [dirty] using w.1)
    subst e
    obtain ⟨a, vs, rfl, h1, r2⟩ := rep_tup r1
    exact ⟨a, vs, rfl, .inr ⟨h1, k.same w.2 r1⟩⟩
  · exact w.elim
/-- isinstance(x, T), built-in types -/
def tyD : D → String
  | .non => "NoneType" | .bl _ => "bool" | .int _ => "int" | .str _ => "str" | .tup _ => "tuple" | .lst _ _ => "list" | .seq _ => "list" | .ref _ => "" | .ty _ => "" | .dct _ (.k _) _ => "dict" | .dct _ (.t _) _ => "" | .pin _ _ => "list" | .obj _ _ _ _ => "" | .xd _ _ _ _ => ""
def isiT : String → String → Option Bool
  | "int", "int" => some true | "int", "bool" => some false | "int", "str" => some false | "int", "list" => some false | "int", "tuple" => some false | "int", "dict" => some false
  | "bool", "int" => some true | "bool", "bool" => some true | "bool", "str" => some false | "bool", "list" => some false | "bool", "tuple" => some false | "bool", "dict" => some false
  | "str", "int" => some false | "str", "bool" => some false | "str", "str" => some true | "str", "list" => some false | "str", "tuple" => some false | "str", "dict" => some false
  | "list", "int" => some false | "list", "bool" => some false | "list", "str" => some false | "list", "list" => some true | "list", "tuple" => some false | "list", "dict" => some false
  | "tuple", "int" => some false | "tuple", "bool" => some false | "tuple", "str" => some false | "tuple", "list" => some false | "tuple", "tuple" => some true | "tuple", "dict" => some false
  | "dict", "int" => some false | "dict", "bool" => some false | "dict", "str" => some false | "dict", "list" => some false | "dict", "tuple" => some false | "dict", "dict" => some true
  | "NoneType", "int" => some false | "NoneType", "bool" => some false | "NoneType", "str" => some false | "NoneType", "list" => some false | "NoneType", "tuple" => some false | "NoneType", "dict" => some false
  | _, _ => none
theorem isiT_ok {a b : String} {c : Bool} (h : isiT a b = some c) : kitB a b = some c := by
  unfold isiT at h
  split at h <;> first | (cases h; decide +kernel) | cases h
theorem isiT_none (n : String) : isiT "" n = none := by simp [isiT]
def gIsi : GC
  | [d, .ty n], Q => match isiT (tyD d) n with
    | some b => Q (.bl b)
    | none => False
  | _, _ => False
theorem tyX_D {K : KW} {F H : Hp} {v : V} {d : D} {A : List Addr} (hs : Ex F H) (r : Rep K F H v d A) (h : tyD d ≠ "") : TyX K H v (.type (tyD d)) := by
  cases r with
  | non => exact .base .non
  | bl b => exact .base (.bl b)
  | int i => exact .base (.int i)
  | str x => exact .base (.str x)
  | ref a => exact absurd rfl h
  | ty n => exact absurd rfl h
  | tup h1 _ => exact .base (.tup h1)
  | @dF _ _ kd _ h1 _ _ =>
    cases kd with
    | k ks => exact .base (.dK (hs _ _ h1))
    | t ks => exact absurd rfl h
  | @dL _ _ _ kd _ h1 _ _ =>
    cases kd with
    | k ks => exact .fDict (hs _ _ h1)
    | t ks => exact absurd rfl h
  | @dO _ _ kd _ _ h1 _ _ =>
    cases kd with
    | k ks => exact .base (.dK h1)
    | t ks => exact absurd rfl h
  | fz h1 _ => exact .base (.lst (hs _ _ h1))
  | own h1 _ => exact .base (.lst h1)
  | pin h1 _ => exact .base (.lst h1)
  | oF _ _ _ _ => exact absurd rfl h
  | oO _ _ _ _ => exact absurd rfl h
  | oP _ _ _ _ => exact absurd rfl h
  | xF _ _ _ _ _ => exact absurd rfl h
  | xO _ _ _ _ _ => exact absurd rfl h
  | seq h1 _ =>
    rcases h1 with (h1 | ⟨o, h1⟩) | ⟨o, its, n, h1, h2, _⟩
    · exact .base (.lst (hs _ _ h1))
    · exact .base (.frz (hs _ _ h1))
    · exact .kList h1 h2
theorem cd_isi {K : KW} : CallD K gIsi (rIsi K) := by
  intro F H xs ds A Q' Q hs r w k
  unfold gIsi at w
  split at w
  · rename_i d n
    split at w
    · rename_i b e
      obtain ⟨v, u, B, C, rfl, r1, r2⟩ := reps2 r
      cases r2
      refine ⟨v, .ty n, _, _, b, rfl, .ty n, tyX_D hs r1 fun z => ?_, kit_ty (isiT_ok e), k.same w (.bl b)⟩
      rw [z] at e
      rw [isiT_none] at e
      cases e
    · exact w.elim
  · exact w.elim

/-! ### readings by rows -/
section
variable {i j : Int} {x z : Str} {o o2 : Bool} {ds es : List D} {d e : D} {Q : D → Prop} {C : Int → Int → Prop} {f : Int → Int → D} {lo hi : Option Int} {b c : Bool} {n : String}
theorem gI_int : gI C f (.int i) (.int j) Q = (C i j ∧ Q (f i j)) := rfl
theorem gAdd_int : gAdd (.int i) (.int j) Q = Q (.int (i + j)) := rfl
theorem gAdd_str : gAdd (.str x) (.str z) Q = (x.length + z.length ≤ 100000 ∧ Q (.str (x ++ z))) := rfl
theorem gAdd_lst : gAdd (.lst o ds) (.lst o2 es) Q = (dirtys ds = false ∧ dirtys es = false ∧ ds.length + es.length ≤ 100000 ∧ Q (.lst true (ds ++ es))) := rfl
theorem gAdd_tup : gAdd (.tup ds) (.tup es) Q = (dirtys ds = false ∧ dirtys es = false ∧ ds.length + es.length ≤ 100000 ∧ Q (.tup (ds ++ es))) := rfl
theorem gIadd_int : gIadd (.int i) (.int j) Q = Q (.int (i + j)) := rfl
theorem gIadd_str : gIadd (.str x) (.str z) Q = (x.length + z.length ≤ 100000 ∧ Q (.str (x ++ z))) := rfl
theorem gMinus_int : gMinus (.int i) (.int j) Q = Q (.int (i - j)) := by simp [gMinus, gI]
theorem gFdiv_int : gFdiv (.int i) (.int j) Q = (CDivB i j ∧ Q (.int (i / j))) := rfl
theorem gMod_int : gMod (.int i) (.int j) Q = (0 < j ∧ Q (.int (i % j))) := rfl
theorem gPow_int : gPow (.int i) (.int j) Q = (CPow i j ∧ Q (.int (i ^ j.toNat))) := rfl
theorem gMul_int : gMul (.int i) (.int j) Q = (CMul i j ∧ Q (.int (i * j))) := rfl
theorem gMul_lst : gMul (.lst o ds) (.int j) Q = (dirtys ds = false ∧ j ≤ 100000 ∧ -100000 ≤ j ∧ ds.length * j.toNat ≤ 100000 ∧ Q (.lst true (repl j.toNat ds))) := rfl
theorem gMul_str {z : Str} : gMul (.str z) (.int j) Q = (-100000 ≤ j ∧ j ≤ 100000 ∧ z.length * j.toNat ≤ 100000 ∧ Q (.str (repS j.toNat z))) := rfl
theorem gNeg_int : gNeg (.int i) Q = Q (.int (-i)) := rfl
theorem gLt_int : gLt (.int i) (.int j) Q = Q (.bl (decide (i < j))) := by simp [gLt, gI]
theorem gLe_int : gLe (.int i) (.int j) Q = Q (.bl (decide (i ≤ j))) := by simp [gLe, gI]
theorem gGt_int : gGt (.int i) (.int j) Q = Q (.bl (decide (j < i))) := by simp [gGt, gI]
theorem gGe_int : gGe (.int i) (.int j) Q = Q (.bl (decide (j ≤ i))) := by simp [gGe, gI]
theorem gIs_non : gIs d .non Q = Q (.bl (isNon d)) := rfl
theorem gIsnt_non : gIsnt d .non Q = Q (.bl (!isNon d)) := rfl
theorem gIn_str : gIn (.str x) (.str z) Q = Q (.bl (inStr x z)) := rfl
theorem gIn_lst : gIn d (.lst o ds) Q = (scalD d = true ∧ ds.all scalD = true ∧ Q (.bl (inF d ds))) := by cases d <;> rfl
theorem gIn_seq : gIn d (.seq ds) Q = (scalD d = true ∧ ds.all scalD = true ∧ Q (.bl (inF d ds))) := by cases d <;> rfl
theorem gIn_tup : gIn d (.tup ds) Q = (scalD d = true ∧ ds.all scalD = true ∧ Q (.bl (inF d ds))) := by cases d <;> rfl
theorem gNotIn_str : gNotIn (.str x) (.str z) Q = Q (.bl (!inStr x z)) := rfl
theorem gNotIn_lst : gNotIn d (.lst o ds) Q = (scalD d = true ∧ ds.all scalD = true ∧ Q (.bl (!inF d ds))) := by cases d <;> rfl
theorem gNotIn_seq : gNotIn d (.seq ds) Q = (scalD d = true ∧ ds.all scalD = true ∧ Q (.bl (!inF d ds))) := by cases d <;> rfl
theorem gNotIn_tup : gNotIn d (.tup ds) Q = (scalD d = true ∧ ds.all scalD = true ∧ Q (.bl (!inF d ds))) := by cases d <;> rfl
theorem gSl_lst : gSl (.lst o ds) lo hi Q = (dirtys ds = false ∧ Q (.lst true (cutD ds lo hi))) := rfl
theorem gSl_seq : gSl (.seq ds) lo hi Q = (dirtys ds = false ∧ Q (.lst true (cutD ds lo hi))) := rfl
theorem gSl_tup : gSl (.tup ds) lo hi Q = (dirtys ds = false ∧ Q (.tup (cutD ds lo hi))) := rfl
theorem gSl_str : gSl (.str x) lo hi Q = (x.length ≤ 100000 ∧ Q (.str (cutS x lo hi))) := rfl
theorem gLen_str : gLen [.str x] Q = (x.length ≤ 100000 ∧ Q (.int (x.length : Int))) := rfl
theorem gLen_lst : gLen [.lst o ds] Q = Q (.int (ds.length : Int)) := rfl
theorem gLen_seq : gLen [.seq ds] Q = Q (.int (ds.length : Int)) := rfl
theorem gLen_tup : gLen [.tup ds] Q = Q (.int (ds.length : Int)) := rfl
theorem gMin2_int : gMin2 [.int i, .int j] Q = Q (.int (if j < i then j else i)) := rfl
theorem gMax2_int : gMax2 [.int i, .int j] Q = Q (.int (if j > i then j else i)) := rfl
theorem gInt_int : gInt [.int i] Q = Q (.int i) := rfl
theorem gInt_bl : gInt [.bl b] Q = Q (.int (if b then 1 else 0)) := rfl
theorem gList_lst : gList [.lst o ds] Q = (dirtys ds = false ∧ Q (.lst true ds)) := rfl
theorem gList_seq : gList [.seq ds] Q = (dirtys ds = false ∧ Q (.lst true ds)) := rfl
theorem gList_tup : gList [.tup ds] Q = (dirtys ds = false ∧ Q (.lst true ds)) := rfl
theorem gTuple_lst : gTuple [.lst o ds] Q = (dirtys ds = false ∧ Q (.tup ds)) := rfl
theorem gTuple_seq : gTuple [.seq ds] Q = (dirtys ds = false ∧ Q (.tup ds)) := rfl
theorem gTuple_tup : gTuple [.tup ds] Q = (dirtys ds = false ∧ Q (.tup ds)) := rfl
def isiK (o : Option Bool) (Q : D → Prop) : Prop := match o with
  | some b => Q (.bl b)
  | none => False
theorem isiK_some : isiK (some b) Q = Q (.bl b) := rfl
theorem gIsi_ty : gIsi [d, .ty n] Q = isiK (isiT (tyD d) n) Q := rfl
end
end Tm

set_option Elab.async false
set_option linter.all false
set_option maxRecDepth 100000
set_option maxHeartbeats 1000000
namespace Tm
open PySem PySem.Spec PyProof.Rows L2

/-! ### lists changed in place -/
section
variable {K : KW} {F0 H0 F F' H H' : Hp} {σ : L2.St} {env : Env} {pv : List V} {pd : List D}
theorem tup_upd {a : Addr} {vs vs' : List V} (h : H a = some (.lst vs)) : ∀ b xs, H b = some (.tup xs) → upd H a (.lst vs') b = some (.tup xs) := fun b xs q => by
  have ne : b ≠ a := fun z => by
    subst z
    rw [h] at q; cases q
  rw [upd_ne ne]; exact q
/-- the list in slot i, changed to clean items -/
theorem Sta.mutC {i : Nat} {ds : List D} (S : Sta K F0 H0 F H σ env pv pd) (h : env[i]? = some (some (.lst true ds))) : ∃ a vs A', σ[i]? = some (some (.ref a)) ∧ H a = some (.lst vs) ∧ Reps K F H vs ds A' ∧
    ∀ vs' ds', Reps K F H vs' ds' [] → Sta K F0 H0 F (upd H a (.lst vs')) σ (env.set i (some (.lst true ds'))) pv pd := by
  obtain ⟨A0, B, h1, h2, h3, h4⟩ := S.own
  obtain ⟨v, A1, Ai, A2, e2, e3, r, s, back⟩ := h1.at h
  subst e3
  cases r with
  | own hq rs =>
    rename_i a vs A'
    refine ⟨a, vs, A', e2, hq, rs, fun vs' ds' r' => ?_⟩
    have na : ∀ b ∈ A1 ++ A2 ++ B, b ≠ a := fun b hb z => by
      subst z
      rw [List.nodup_append] at h3
      have h5 := List.nodup_append.mp h3.1
      have h6 := List.nodup_append.mp h5.1
      simp only [List.mem_append] at hb
      rcases hb with (hb | hb) | hb
      · exact h6.2.2 b hb b List.mem_cons_self rfl
      · exact h5.2.2 b (by simp) b hb rfl
      · exact h3.2.2 b (by simp) b hb rfl
    have ha := h4 a (by simp)
    have hT := tup_upd (vs' := vs') hq
    have ex0 : ∀ {G : Hp}, G a = none → (∀ b o, G b = some o → H b = some o) → Ex G (upd H a (.lst vs')) := fun {G} hn hg b o q => by
      rw [upd_ne (ne_of_none q hn)]; exact hg b o q
    have ev : (σ.set i (some (V.ref a))) = σ := by
      obtain ⟨hi, hv⟩ := List.getElem?_eq_some_iff.mp e2
      rw [← hv]; exact List.set_getElem_self hi
    have rnew : Rep K F (upd H a (.lst vs')) (.ref a) (.lst true ds') [a] := .own upd_same (r'.mono (Same.refl _) hT fun b hb => absurd hb List.not_mem_nil)
    have sl := back (F' := F) (H' := upd H a (.lst vs')) (Same.refl _) hT (fun b hb => upd_ne (na b (List.mem_append_left _ hb))) rnew
    rw [ev] at sl
    refine ⟨S.exF, ex0 ha.2 S.exH, ex0 ha.1 S.sub, S.new, A1 ++ [a] ++ A2, B, sl, h2.mono (Same.refl _) hT fun b hb => upd_ne (na b (List.mem_append_right _ hb)), ?_, fun b hb => h4 b ?_⟩
    · refine List.Nodup.sublist ?_ h3
      refine List.Sublist.append (List.Sublist.append (List.Sublist.append (List.Sublist.refl _) ?_) (List.Sublist.refl _)) (List.Sublist.refl _)
      exact List.Sublist.cons₂ _ (List.nil_sublist _)
    · simp only [List.mem_append, List.mem_cons, List.mem_nil_iff, or_false] at hb ⊢
      rcases hb with ((hb | hb) | hb) | hb
      · exact .inl (.inl (.inl hb))
      · exact .inl (.inl (.inr (.inl hb)))
      · exact .inl (.inr hb)
      · exact .inr hb
/-- the newest value goes behind the items of the list in slot i -/
theorem Sta.mutA {i : Nat} {ds : List D} {y : V} {d : D} (S : Sta K F0 H0 F H σ env (y :: pv) (d :: pd)) (h : env[i]? = some (some (.lst true ds))) : ∃ a vs, σ[i]? = some (some (.ref a)) ∧ H a = some (.lst vs) ∧ vs.length = ds.length ∧
    Sta K F0 H0 F (upd H a (.lst (vs ++ [y]))) σ (env.set i (some (.lst true (ds ++ [d])))) pv pd := by
  obtain ⟨A0, B, h1, h2, h3, h4⟩ := S.own
  obtain ⟨v, A1, Ai, A2, e2, e3, r, s, back⟩ := h1.at h
  subst e3
  cases h2 with
  | cons ry rr e =>
    rename_i C B1
    subst e
    cases r with
    | own hq rs =>
      rename_i a vs A'
      refine ⟨a, vs, e2, hq, rs.length, ?_⟩
      have na : ∀ b ∈ A1 ++ A2 ++ (C ++ B1) ++ A', b ≠ a := fun b hb z => by
        subst z
        rw [List.nodup_append] at h3
        have h5 := List.nodup_append.mp h3.1
        have h6 := List.nodup_append.mp h5.1
        simp only [List.mem_append] at hb
        rcases hb with ((hb | hb) | hb) | hb
        · exact h6.2.2 b hb b List.mem_cons_self rfl
        · exact h5.2.2 b (by simp) b hb rfl
        · exact h3.2.2 b (by simp) b (by simpa using hb) rfl
        · exact (List.nodup_cons.mp h6.2.1).1 hb
      have ha := h4 a (by simp)
      have hT := tup_upd (vs' := vs ++ [y]) hq
      have ex0 : ∀ {G : Hp}, G a = none → (∀ b o, G b = some o → H b = some o) → Ex G (upd H a (.lst (vs ++ [y]))) := fun {G} hn hg b o q => by
        rw [upd_ne (ne_of_none q hn)]; exact hg b o q
      have ev : (σ.set i (some (V.ref a))) = σ := by
        obtain ⟨hi, hv⟩ := List.getElem?_eq_some_iff.mp e2
        rw [← hv]; exact List.set_getElem_self hi
      have r1 := rs.mono (Same.refl F) hT fun b hb => upd_ne (na b (by simp [hb]))
      have r2 := ry.mono (Same.refl F) hT fun b hb => upd_ne (na b (by simp [hb]))
      have rnew : Rep K F (upd H a (.lst (vs ++ [y]))) (.ref a) (.lst true (ds ++ [d])) (a :: (A' ++ C)) := .own upd_same (by
        have := r1.app (.cons r2 .nil rfl)
        rw [List.append_nil] at this
        exact this)
      have sl := back (F' := F) (H' := upd H a (.lst (vs ++ [y]))) (Same.refl _) hT (fun b hb => upd_ne (na b (by simp at hb ⊢; rcases hb with hb | hb <;> simp [hb]))) rnew
      rw [ev] at sl
      refine ⟨S.exF, ex0 ha.2 S.exH, ex0 ha.1 S.sub, S.new, A1 ++ (a :: (A' ++ C)) ++ A2, B1, sl, rr.mono (Same.refl _) hT fun b hb => upd_ne (na b (by simp [hb])), ?_, fun b hb => h4 b ?_⟩
      · refine (List.Perm.nodup_iff ?_).mp h3
        rw [show A1 ++ a :: A' ++ A2 ++ (C ++ B1) = (A1 ++ a :: A') ++ ((A2 ++ C) ++ B1) by simp [List.append_assoc], show A1 ++ a :: (A' ++ C) ++ A2 ++ B1 = (A1 ++ a :: A') ++ ((C ++ A2) ++ B1) by simp [List.append_assoc]]
        exact List.Perm.append_left _ (List.Perm.append_right _ List.perm_append_comm)
      · simp only [List.mem_append, List.mem_cons] at hb ⊢
        rcases hb with ((hb | hb | hb | hb) | hb) | hb
        · exact .inl (.inl (.inl hb))
        · exact .inl (.inl (.inr (.inl hb)))
        · exact .inl (.inl (.inr (.inr hb)))
        · exact .inr (.inl hb)
        · exact .inl (.inr hb)
        · exact .inr (.inr hb)
theorem Sta.lstAt {i : Nat} {o : Bool} {ds : List D} (S : Sta K F0 H0 F H σ env pv pd) (h : env[i]? = some (some (.lst o ds))) : ∃ a vs, σ[i]? = some (some (.ref a)) ∧ H a = some (.lst vs) := by
  obtain ⟨v, A, e, r⟩ := S.slot h
  obtain ⟨a, vs, _, rfl, h1, _⟩ := rep_lst S.sub r
  exact ⟨a, vs, e, h1⟩
end
def atLst (i : Nat) (env : Env) (Q : List D → Prop) : Prop := match env[i]? with
  | some (some (.lst true ds)) => Q ds
  | _ => False
theorem atLst_is {i : Nat} {env : Env} {Q : List D → Prop} (h : atLst i env Q) : ∃ ds, env[i]? = some (some (.lst true ds)) ∧ Q ds := by
  unfold atLst at h
  split at h
  · exact ⟨_, by assumption, h⟩
  · exact h.elim
/-- x.append(e) -/
def wApp (i : Nat) (w : WE) : WS := fun P px env => atLst i env fun _ => w px env fun d b env1 => (b = false ∨ dirty d = false) ∧ atLst i env1 fun ds => ds.length ≤ 100000 ∧ P.nx (env1.set i (some (.lst true (ds ++ [d]))))
theorem simS_app {K : KW} {E : EX} {i : Nat} {w : WE} {t : TE} (h : Sim K E w t) : SimS K E (wApp i w) (tDrop (tBM K "list" rAppend (tVar i) (tCons t tNil))) := by
  intro px F0 H0 F H σ env pv pd L S P D w1 k
  obtain ⟨ds0, e0, w1⟩ := atLst_is w1
  obtain ⟨a0, vs0, ea, ha⟩ := S.lstAt e0
  refine ⟨.ref a0, ea, .inl ⟨rfl, vs0, .inl (.inl ha)⟩, ?_⟩
  refine h px F0 H0 F H σ env pv pd L S _ _ w1 fun d b env1 v F1 H1 w2 eF eH R => ?_
  obtain ⟨hb, w2⟩ := w2
  obtain ⟨ds, e1, hl, w3⟩ := atLst_is w2
  obtain ⟨a, vs, es, hq, hlen, S2⟩ := (R.owned hb).mutA e1
  rw [ea] at es; cases es
  exact ⟨a0, vs, v, rfl, rfl, hq, by rw [hlen]; exact lt_line hl, k.nx _ _ _ _ w3 S2⟩
/-- x.extend(e), clean items -/
def wExt (i : Nat) (w : WE) : WS := fun P px env => atLst i env fun _ => w px env fun d _ env1 => atLst i env1 fun ds => match d with
  | .lst _ es => dirtys ds = false ∧ dirtys es = false ∧ ds.length + es.length ≤ 100000 ∧ P.nx (env1.set i (some (.lst true (ds ++ es))))
  | _ => False
theorem simS_ext {K : KW} {E : EX} {i : Nat} {w : WE} {t : TE} (h : Sim K E w t) : SimS K E (wExt i w) (tDrop (tBM K "list" rExtend (tVar i) (tCons t tNil))) := by
  intro px F0 H0 F H σ env pv pd L S P D w1 k
  obtain ⟨ds0, e0, w1⟩ := atLst_is w1
  obtain ⟨a0, vs0, ea, ha⟩ := S.lstAt e0
  refine ⟨.ref a0, ea, .inl ⟨rfl, vs0, .inl (.inl ha)⟩, ?_⟩
  refine h px F0 H0 F H σ env pv pd L S _ _ w1 fun d b env1 v F1 H1 w2 eF eH R => ?_
  obtain ⟨⟨A, r⟩, S1⟩ := R.forget
  obtain ⟨ds, e1, w2⟩ := atLst_is w2
  split at w2
  · rename_i o es
    obtain ⟨w4, w5, w6, w7⟩ := w2
    obtain ⟨b, ws, B, rfl, hb, rb⟩ := rep_lst S1.sub r
    obtain ⟨a, vs, A', es', hq, ra, back⟩ := S1.mutC e1
    rw [ea] at es'; cases es'
    have c1 := ra.clean w4
    have c2 := rb.clean w5
    subst c1 c2
    exact ⟨a0, b, vs, ws, rfl, rfl, hq, hb, by rw [ra.length, rb.length]; exact le_line w6, k.nx _ _ _ _ w7 (back _ _ (ra.app rb))⟩
  · exact w2.elim
/-- x.clear() -/
def wClear (i : Nat) : WS := fun P _ env => atLst i env fun _ => P.nx (env.set i (some (.lst true [])))
theorem simS_clear {K : KW} {E : EX} {i : Nat} : SimS K E (wClear i) (tDrop (tBM0 K "list" rClear (tVar i))) := by
  intro px F0 H0 F H σ env pv pd L S P D w1 k
  obtain ⟨ds0, e0, w1⟩ := atLst_is w1
  obtain ⟨a, vs, A', es', hq, ra, back⟩ := S.mutC e0
  exact ⟨.ref a, es', .inl ⟨rfl, vs, .inl (.inl hq)⟩, a, vs, rfl, rfl, hq, k.nx _ _ _ _ w1 (back [] [] .nil)⟩
/-- t = x.pop() -/
def wPop (i : Nat) (g : WG) : WS := fun P _ env => atLst i env fun ds => match ds.getLast? with
  | some d => dirtys ds = false ∧ g d (env.set i (some (.lst true ds.dropLast))) P.nx
  | none => False
theorem simS_pop {K : KW} {E : EX} {i : Nat} {g : WG} {t : TG} (hg : SimG K g t) : SimS K E (wPop i g) (tAsg (tBM0 K "list" rPop (tVar i)) t) := by
  intro px F0 H0 F H σ env pv pd L S P D w1 k
  obtain ⟨ds, e0, w1⟩ := atLst_is w1
  obtain ⟨a, vs, A', es', hq, ra, back⟩ := S.mutC e0
  refine ⟨.ref a, es', .inl ⟨rfl, vs, .inl (.inl hq)⟩, ?_⟩
  split at w1
  · rename_i d ed
    obtain ⟨cl, w1⟩ := w1
    have c1 := ra.clean cl
    subst c1
    rw [List.getLast?_eq_getElem?] at ed
    obtain ⟨y, B, ey, ry, _⟩ := ra.get ed
    have c2 := ry.clean (dirtys_false.mp cl d (List.mem_of_getElem? ed))
    subst c2
    have ey' : vs[vs.length - 1]? = some y := by rw [ra.length]; exact ey
    have rl : Reps K F H vs.dropLast ds.dropLast [] := by
      rw [List.dropLast_eq_take, List.dropLast_eq_take, ra.length]
      have := reps_take ra 0 (ds.length - 1)
      simpa using this
    have S2 := back _ _ rl
    have ry2 : Rep K F (upd H a (.lst vs.dropLast)) y d [] := ry.mono (Same.refl _) (tup_upd hq) fun b hb => absurd hb List.not_mem_nil
    exact ⟨a, vs, y, rfl, rfl, hq, ey', hg F0 H0 F _ σ _ pv pd y d (S2.clean ry2) _ _ w1 fun env2 σ2 w3 S3 => k.nx _ _ _ _ w3 S3⟩
  · exact w1.elim
/-- x[k] = e, clean items -/
def wSetL (i : Nat) (w wk : WE) : WS := fun P px env => w px env fun d b env1 => atLst i env1 fun _ => wk px env1 fun k _ env2 => atLst i env2 fun ds => match k with
  | .int z => match ixN ds.length z with
    | some j => dirty d = false ∧ dirtys ds = false ∧ P.nx (env2.set i (some (.lst true (ds.set j d))))
    | none => False
  | _ => False
theorem reps_set {K : KW} {F H : Hp} {vs : List V} {ds : List D} {j : Nat} {v : V} {d : D} (r : Reps K F H vs ds []) (h : Rep K F H v d []) : Reps K F H (vs.set j v) (ds.set j d) [] := by
  refine .of_clean (by simp [r.length]) fun i v' d' h1 h2 => ?_
  rw [List.getElem?_set] at h1 h2
  rw [r.length] at h1
  split at h1
  · rename_i e
    rw [if_pos e] at h2
    split at h1
    · rename_i hlt
      rw [if_pos hlt] at h2
      cases h1; cases h2; exact h
    · cases h1
  · rename_i e
    rw [if_neg e] at h2
    exact r.clean_get h1 h2
theorem simS_setL {K : KW} {E : EX} {i : Nat} {w wk : WE} {t tk : TE} (h : Sim K E w t) (hk : Sim K E wk tk) : SimS K E (wSetL i w wk) (tAsg t (L2.gSub (tVar i) tk rSetL)) := by
  intro px F0 H0 F H σ env pv pd L S P D w1 k
  refine h px F0 H0 F H σ env pv pd L S _ _ w1 fun d b env1 v F1 H1 w2 eF eH R => ?_
  obtain ⟨⟨A, r⟩, S1⟩ := R.forget
  obtain ⟨ds0, e0, w2⟩ := atLst_is w2
  obtain ⟨a0, vs0, ea, ha⟩ := S1.lstAt e0
  refine ⟨.ref a0, ea, ?_⟩
  refine hk px F0 H0 F1 H1 σ env1 pv pd L S1 _ _ w2 fun kk bk env2 kv F2 H2 w3 eF2 eH2 R2 => ?_
  obtain ⟨⟨A2, rk⟩, S2⟩ := R2.forget
  obtain ⟨ds, e1, w3⟩ := atLst_is w3
  cases kk with
  | int z =>
    dsimp only at w3
    split at w3
    · rename_i j ej
      obtain ⟨w4, w5, w6⟩ := w3
      obtain ⟨a, vs, A', es', hq, ra, back⟩ := S2.mutC e1
      rw [ea] at es'; cases es'
      have c1 := ra.clean w5
      subst c1
      have c2 := r.clean w4
      subst c2
      rw [rep_int rk]
      exact ⟨a0, vs, z, j, rfl, rfl, hq, by rw [ra.length]; exact ej, k.nx _ _ _ _ w6 (back _ _ (reps_set ra (r.ex eF2 eH2)))⟩
    · exact w3.elim
  | _ => exact w3.elim
/-- x.insert(k, e), clean items -/
def wIns (i : Nat) (wk w : WE) : WS := fun P px env => atLst i env fun _ => wk px env fun k _ env1 => w px env1 fun d _ env2 => atLst i env2 fun ds => match k with
  | .int z => 0 ≤ z ∧ z < 2 ^ 63 ∧ dirty d = false ∧ dirtys ds = false ∧ ds.length ≤ 100000 ∧ P.nx (env2.set i (some (.lst true (ds.take z.toNat ++ [d] ++ ds.drop z.toNat))))
  | _ => False
def rInsert : V → List V → Hp → VK → Prop := fun x vs H Q => ∃ (l : Addr) (xs : List V) (i : Int) (y : V), x = .ref l ∧ vs = [.int i, y] ∧ H l = some (.lst xs) ∧ xs.length < sizeLine ∧ 0 ≤ i ∧ i < 2 ^ 63 ∧
    Q .non (upd H l (.lst (xs.take i.toNat ++ [y] ++ xs.drop i.toNat)))
theorem simS_ins {K : KW} {E : EX} {i : Nat} {w wk : WE} {t tk : TE} (h : Sim K E w t) (hk : Sim K E wk tk) : SimS K E (wIns i wk w) (tDrop (tBM K "list" rInsert (tVar i) (tCons tk (tCons t tNil)))) := by
  intro px F0 H0 F H σ env pv pd L S P D w1 k
  obtain ⟨ds0, e0, w1⟩ := atLst_is w1
  obtain ⟨a0, vs0, ea, ha⟩ := S.lstAt e0
  refine ⟨.ref a0, ea, .inl ⟨rfl, vs0, .inl (.inl ha)⟩, ?_⟩
  refine hk px F0 H0 F H σ env pv pd L S _ _ w1 fun kk bk env1 kv F1 H1 w2 eF eH R => ?_
  obtain ⟨⟨A1, rk⟩, S1⟩ := R.forget
  refine h px F0 H0 F1 H1 σ env1 pv pd L S1 _ _ w2 fun d b env2 v F2 H2 w3 eF2 eH2 R2 => ?_
  obtain ⟨⟨A2, r⟩, S2⟩ := R2.forget
  obtain ⟨ds, e1, w3⟩ := atLst_is w3
  cases kk with
  | int z =>
    obtain ⟨z0, z1, w4, w5, w6, w7⟩ := w3
    obtain ⟨a, vs, A', es', hq, ra, back⟩ := S2.mutC e1
    rw [ea] at es'; cases es'
    have c1 := ra.clean w5
    subst c1
    have c2 := r.clean w4
    subst c2
    rw [rep_int rk]
    refine ⟨a0, vs, z, v, rfl, rfl, hq, by rw [ra.length]; exact lt_line w6, z0, z1, k.nx _ _ _ _ w7 (back _ _ ?_)⟩
    have t1 := reps_take ra 0 z.toNat
    rw [List.drop_zero, List.drop_zero] at t1
    have t2 : Reps K F2 H2 (vs.drop z.toNat) (ds.drop z.toNat) [] := by
      have := reps_take ra z.toNat (ds.length)
      rwa [List.take_of_length_le (by simp [ra.length]), List.take_of_length_le (by simp)] at this
    exact (t1.app (.cons r .nil rfl)).app t2
  | _ => exact w3.elim
section
variable {X : Cx} {E : EX} {e k : Expr} {w wk : WE} {pos apos cpos npos : Pos} {i : Nat} {x : Str}
theorem s_app (hN : X.N[i]? = some x := by rfl) (hv : Vis X.env.scope x := by first | exact Or.inl rfl | exact Or.inr (Or.inl rfl) | exact Or.inr (Or.inr rfl)) (h : DE X E e w) (hd : (x == ("__debug__" : Str)) = false := by decide) (hcd : (x == ("__classdict__" : Str)) = false := by decide)
    (hbase : attributeBase (.Name x npos) "append" X.env (eval (.Name x npos) X.env) = eval (.Name x npos) X.env := by rfl)
    (hfew : ((backTo cpos (starEach [e] X.env)).all (fun x => !x.1) && (backToKw cpos (keywordEach [] X.env)).all (fun x => x.1.isSome) && decide ([e].length + ([] : List Keyword).length + (if ([] : List Keyword).isEmpty then 0 else 1) < 30)) = true := by rfl)
    (hline : (apos.endLine == cpos.line) = true := by rfl) (hs : starEach [e] X.env = (false, eval e X.env) :: starEach [] X.env := by rfl) (hplain : (backTo cpos (starEach [] X.env)).any (·.1) = false := by rfl) (hsw : swapsWith (.Call (.Attribute (.Name x npos) "append" apos) [e] [] cpos) none pos.line X.env = pure false := by rfl) :
    DS X E (.Expr (.Call (.Attribute (.Name x npos) "append" apos) [e] [] cpos) pos) (wApp i w) := by
  obtain ⟨t, p, s⟩ := h.ex
  exact ⟨_, ps_expr (pe_bm PySem.F.plainAttrs_list PySem.F.slot_list_append PySem.F.type_list_append mt_append (pe_var hN hv hd hcd) (pa_cons p pa_nil hs) hbase hfew hline hs hplain) hsw, simS_app s⟩
theorem s_ext (hN : X.N[i]? = some x := by rfl) (hv : Vis X.env.scope x := by first | exact Or.inl rfl | exact Or.inr (Or.inl rfl) | exact Or.inr (Or.inr rfl)) (h : DE X E e w) (hd : (x == ("__debug__" : Str)) = false := by decide) (hcd : (x == ("__classdict__" : Str)) = false := by decide)
    (hbase : attributeBase (.Name x npos) "extend" X.env (eval (.Name x npos) X.env) = eval (.Name x npos) X.env := by rfl)
    (hfew : ((backTo cpos (starEach [e] X.env)).all (fun x => !x.1) && (backToKw cpos (keywordEach [] X.env)).all (fun x => x.1.isSome) && decide ([e].length + ([] : List Keyword).length + (if ([] : List Keyword).isEmpty then 0 else 1) < 30)) = true := by rfl)
    (hline : (apos.endLine == cpos.line) = true := by rfl) (hs : starEach [e] X.env = (false, eval e X.env) :: starEach [] X.env := by rfl) (hplain : (backTo cpos (starEach [] X.env)).any (·.1) = false := by rfl) (hsw : swapsWith (.Call (.Attribute (.Name x npos) "extend" apos) [e] [] cpos) none pos.line X.env = pure false := by rfl) :
    DS X E (.Expr (.Call (.Attribute (.Name x npos) "extend" apos) [e] [] cpos) pos) (wExt i w) := by
  obtain ⟨t, p, s⟩ := h.ex
  exact ⟨_, ps_expr (pe_bm PySem.F.plainAttrs_list PySem.F.slot_list_extend PySem.F.type_list_extend mt_extend (pe_var hN hv hd hcd) (pa_cons p pa_nil hs) hbase hfew hline hs hplain) hsw, simS_ext s⟩
theorem s_ins (hN : X.N[i]? = some x := by rfl) (hv : Vis X.env.scope x := by first | exact Or.inl rfl | exact Or.inr (Or.inl rfl) | exact Or.inr (Or.inr rfl)) (hk : DE X E k wk) (h : DE X E e w) (hd : (x == ("__debug__" : Str)) = false := by decide) (hcd : (x == ("__classdict__" : Str)) = false := by decide)
    (hbase : attributeBase (.Name x npos) "insert" X.env (eval (.Name x npos) X.env) = eval (.Name x npos) X.env := by rfl)
    (hfew : ((backTo cpos (starEach [k, e] X.env)).all (fun x => !x.1) && (backToKw cpos (keywordEach [] X.env)).all (fun x => x.1.isSome) && decide ([k, e].length + ([] : List Keyword).length + (if ([] : List Keyword).isEmpty then 0 else 1) < 30)) = true := by rfl)
    (hline : (apos.endLine == cpos.line) = true := by rfl) (hs : starEach [k, e] X.env = (false, eval k X.env) :: starEach [e] X.env := by rfl) (hs2 : starEach [e] X.env = (false, eval e X.env) :: starEach [] X.env := by rfl) (hplain : (backTo cpos (starEach [e] X.env)).any (·.1) = false := by rfl) (hsw : swapsWith (.Call (.Attribute (.Name x npos) "insert" apos) [k, e] [] cpos) none pos.line X.env = pure false := by rfl) :
    DS X E (.Expr (.Call (.Attribute (.Name x npos) "insert" apos) [k, e] [] cpos) pos) (wIns i wk w) := by
  obtain ⟨t, p, s⟩ := h.ex
  obtain ⟨tk, pk, sk⟩ := hk.ex
  exact ⟨_, ps_expr (pe_bm PySem.F.plainAttrs_list PySem.F.slot_list_insert PySem.F.type_list_insert (r := rInsert) mt_insert (pe_var hN hv hd hcd) (pa_cons pk (pa_cons p pa_nil hs2) hs) hbase hfew hline hs hplain) hsw, simS_ins s sk⟩
theorem s_clear (hN : X.N[i]? = some x := by rfl) (hv : Vis X.env.scope x := by first | exact Or.inl rfl | exact Or.inr (Or.inl rfl) | exact Or.inr (Or.inr rfl)) (hd : (x == ("__debug__" : Str)) = false := by decide) (hcd : (x == ("__classdict__" : Str)) = false := by decide)
    (hbase : attributeBase (.Name x npos) "clear" X.env (eval (.Name x npos) X.env) = eval (.Name x npos) X.env := by rfl) (hline : (apos.endLine == cpos.line) = true := by rfl) (hsw : swapsWith (.Call (.Attribute (.Name x npos) "clear" apos) [] [] cpos) none pos.line X.env = pure false := by rfl) :
    DS X E (.Expr (.Call (.Attribute (.Name x npos) "clear" apos) [] [] cpos) pos) (wClear i) :=
  ⟨_, ps_expr (pe_bm0 PySem.F.plainAttrs_list PySem.F.slot_list_clear PySem.F.type_list_clear mt_clear (pe_var hN hv hd hcd) hbase hline) hsw, simS_clear⟩
theorem s_pop {tg : Expr} {g : WG} (hN : X.N[i]? = some x := by rfl) (hv : Vis X.env.scope x := by first | exact Or.inl rfl | exact Or.inr (Or.inl rfl) | exact Or.inr (Or.inr rfl)) (hg : DG X tg g) (hd : (x == ("__debug__" : Str)) = false := by decide) (hcd : (x == ("__classdict__" : Str)) = false := by decide)
    (hbase : attributeBase (.Name x npos) "pop" X.env (eval (.Name x npos) X.env) = eval (.Name x npos) X.env := by rfl) (hline : (apos.endLine == cpos.line) = true := by rfl)
    (hs : swapsWithSole [tg] (.Call (.Attribute (.Name x npos) "pop" apos) [] [] cpos) pos.line X.env = pure false := by rfl) (hw : swappedStores [tg] (.Call (.Attribute (.Name x npos) "pop" apos) [] [] cpos) X.env = pure none := by rfl) (h1 : (assignEach [tg] X.env).map (·.2) = [assign tg X.env] := by rfl) :
    DS X E (.Assign [tg] (.Call (.Attribute (.Name x npos) "pop" apos) [] [] cpos) pos) (wPop i g) := by
  obtain ⟨t, p, s⟩ := hg.ex
  exact ⟨_, ps_asg (pe_bm0 PySem.F.plainAttrs_list PySem.F.slot_list_pop PySem.F.type_list_pop mt_pop (pe_var hN hv hd hcd) hbase hline) p hs hw h1, simS_pop s⟩
theorem s_setL {spos : Pos} (hN : X.N[i]? = some x := by rfl) (hv : Vis X.env.scope x := by first | exact Or.inl rfl | exact Or.inr (Or.inl rfl) | exact Or.inr (Or.inr rfl)) (hk : DE X E k wk) (h : DE X E e w) (hd : (x == ("__debug__" : Str)) = false := by decide) (hcd : (x == ("__classdict__" : Str)) = false := by decide)
    (ha : ∀ v, assign (.Subscript (.Name x npos) k spos) X.env v = (do
      let ov ← holding [v] (eval (.Name x npos) X.env)
      let iv ← holding [v, ov] (eval k X.env)
      standAt spos
      holding [v, ov, iv] (setItem ov iv v)
      release [v, ov, iv] []) := by intro _; rfl)
    (hs : swapsWithSole [.Subscript (.Name x npos) k spos] e pos.line X.env = pure false := by rfl) (hw : swappedStores [.Subscript (.Name x npos) k spos] e X.env = pure none := by rfl)
    (h1 : (assignEach [.Subscript (.Name x npos) k spos] X.env).map (·.2) = [assign (.Subscript (.Name x npos) k spos) X.env] := by rfl) :
    DS X E (.Assign [.Subscript (.Name x npos) k spos] e pos) (wSetL i w wk) := by
  obtain ⟨t, p, s⟩ := h.ex
  obtain ⟨tk, pk, sk⟩ := hk.ex
  exact ⟨_, ps_asg p (pg_sub (pe_var hN hv hd hcd) pk set_list ha) hs hw h1, simS_setL s sk⟩
end
end Tm

set_option Elab.async false
set_option linter.all false
set_option maxRecDepth 100000
set_option maxHeartbeats 1000000
namespace Tm
open PySem PySem.Spec PyProof.Rows L2

/-! ### list comprehensions -/
def envF : Env → Env
  | [] => []
  | some d :: r => some (fz d) :: envF r
  | none :: r => none :: envF r
def wipeE (env : Env) : List Nat → Env
  | [] => env
  | v :: vs => (wipeE env vs).set v none
def lcW (g : WG) (tt : WT) (te : WE) (env : Env) (cl : Bool) : List D → List D → (List D → Prop) → Prop
  | [], acc, Q => Q acc
  | d :: ds, acc, Q => g d env fun env2 => tt px0 env2 fun b env3 => if b = true then te px0 env3 fun y by_ _ => (by_ = false ∨ dirty y = false) ∧ (cl = true ∨ selfc y = true) ∧ acc.length ≤ 100000 ∧ lcW g tt te env cl ds (acc ++ [y]) Q else lcW g tt te env cl ds acc Q
def cleanE : Env → Bool
  | [] => true
  | some d :: r => !dirty d && cleanE r
  | none :: r => cleanE r
def wLc (wi : WI) (g : WG) (tt : WT) (te : WE) (vs : List Nat) : WE := fun px env Q => wi px env fun ds env1 => lcW g tt te (wipeE (envF env1) vs) (cleanE env1) ds [] fun acc => Q (.lst true acc) false env1
def Keep (vs : List Nat) (g : TG) : Prop := ∀ (v : V) (σ : L2.St) (H : Hp) (Q : L2.St → Hp → Prop), g v σ H Q → g v σ H fun σ' H' => Q σ' H' ∧ wipe σ' vs = wipe σ vs
def KeepS (vs : List Nat) (g : TGs) : Prop := ∀ (v : List V) (σ : L2.St) (H : Hp) (Q : L2.St → Hp → Prop), g v σ H Q → g v σ H fun σ' H' => Q σ' H' ∧ wipe σ' vs = wipe σ vs
theorem wipe_none {σ : L2.St} {i : Nat} : ∀ {vs : List Nat}, i ∈ vs → ∀ x, (wipe σ vs)[i]? = some x → x = none
  | v :: vs, h, x, e => by
    unfold wipe at e
    by_cases hi : v = i
    · subst hi
      by_cases hl : v < (wipe σ vs).length
      · rw [List.getElem?_set_self hl] at e; cases e; rfl
      · rw [List.getElem?_eq_none (by simpa using hl)] at e; cases e
    · rw [List.getElem?_set_ne hi] at e
      rcases List.mem_cons.mp h with h | h
      · exact absurd h.symm hi
      · exact wipe_none h x e
theorem wipe_set {σ : L2.St} {i : Nat} {x : Option V} : ∀ {vs : List Nat}, i ∈ vs → wipe (σ.set i x) vs = wipe σ vs := fun {vs} h => by
  apply List.ext_getElem?
  intro j
  by_cases hj : j ∈ vs
  · cases e1 : (wipe (σ.set i x) vs)[j]? with
    | none =>
      rw [List.getElem?_eq_none_iff, wipe_length, List.length_set] at e1
      rw [List.getElem?_eq_none (by rw [wipe_length]; exact e1)]
    | some a =>
      have := wipe_none hj a e1
      subst this
      have hl : j < σ.length := by
        have := (List.getElem?_eq_some_iff.mp e1).1
        rw [wipe_length, List.length_set] at this; exact this
      cases e2 : (wipe σ vs)[j]? with
      | none => rw [List.getElem?_eq_none_iff, wipe_length] at e2; omega
      | some b => rw [wipe_none hj b e2]
  · rw [wipe_out hj, wipe_out hj, List.getElem?_set_ne (fun e => hj (by rw [← e]; exact h))]
theorem keep_name {vs : List Nat} {i : Nat} (h : i ∈ vs) : Keep vs (gName i) := fun v σ H Q q => ⟨q, wipe_set h⟩
theorem keep_nil {vs : List Nat} : KeepS vs gNil := fun v σ H Q ⟨e, q⟩ => ⟨e, q, rfl⟩
theorem keepS_mono {vs : List Nat} {g : TGs} (h : KeepS vs g) : True := trivial
/-- readings of targets are monotone -/
def MonoG (g : TG) : Prop := ∀ (v : V) (σ : L2.St) (H : Hp) (Q Q' : L2.St → Hp → Prop), (∀ σ' H', Q σ' H' → Q' σ' H') → g v σ H Q → g v σ H Q'
def MonoGs (g : TGs) : Prop := ∀ (v : List V) (σ : L2.St) (H : Hp) (Q Q' : L2.St → Hp → Prop), (∀ σ' H', Q σ' H' → Q' σ' H') → g v σ H Q → g v σ H Q'
theorem mono_name {i : Nat} : MonoG (gName i) := fun v σ H Q Q' h q => h _ _ q
theorem mono_nil : MonoGs gNil := fun v σ H Q Q' h ⟨e, q⟩ => ⟨e, h _ _ q⟩
theorem mono_cons {g : TG} {r : TGs} (h1 : MonoG g) (h2 : MonoGs r) : MonoGs (gCons g r) := fun vs σ H Q Q' h ⟨v, r', e, q⟩ =>
  ⟨v, r', e, h1 v σ H _ _ (fun σ' H' q => h2 _ _ _ _ _ h q) q⟩
theorem mono_tup {K : PySem.W.Frag} {n : Nat} {g : TGs} (h1 : MonoGs g) : MonoG (gTup K n g) := fun v σ H Q Q' h ⟨a, xs, e, hq, hl, q⟩ => ⟨a, xs, e, hq, hl, h1 _ _ _ _ _ h q⟩
theorem keep_cons {vs : List Nat} {g : TG} {r : TGs} (m1 : MonoG g) (m2 : MonoGs r) (h1 : Keep vs g) (h2 : KeepS vs r) : KeepS vs (gCons g r) := fun v σ H Q ⟨x, r', e, q⟩ => by
  refine ⟨x, r', e, m1 _ _ _ _ _ ?_ (h1 _ _ _ _ q)⟩
  intro σ' H' ⟨q, e1⟩
  exact m2 _ _ _ _ _ (fun σ2 H2 ⟨q, e2⟩ => ⟨q, e2.trans e1⟩) (h2 _ _ _ _ q)
theorem keep_tup {K : PySem.W.Frag} {vs : List Nat} {n : Nat} {g : TGs} (h : KeepS vs g) : Keep vs (gTup K n g) := fun v σ H Q ⟨a, xs, e, hq, hl, q⟩ => ⟨a, xs, e, hq, hl, h _ _ _ _ q⟩

/-! canonical readings -/
def tW (K : KW) (E : EX) (w : WE) : TE := fun σ H Q => ∃ (px : PX) (F0 H0 F : Hp) (env : Env) (pv : List V) (pd : List D) (Q' : D → Bool → Env → Prop), LinkX K F0 H0 px E pv pd ∧ Sta K F0 H0 F H σ env pv pd ∧ w px env Q' ∧
  ∀ d b env' v F' H', Q' d b env' → Ex F F' → Ex H H' → Res K F0 H0 F' H' σ env' pv pd v d b → Q v H'
def ttW (K : KW) (E : EX) (w : WT) : TT := fun σ H Q => ∃ (px : PX) (F0 H0 F : Hp) (env : Env) (pv : List V) (pd : List D) (Q' : Bool → Env → Prop), LinkX K F0 H0 px E pv pd ∧ Sta K F0 H0 F H σ env pv pd ∧ w px env Q' ∧
  ∀ b env' F' H', Q' b env' → Ex F F' → Ex H H' → Sta K F0 H0 F' H' σ env' pv pd → Q b H'
theorem DE.canon {X : Cx} {E : EX} {e : Expr} {w : WE} (h : DE X E e w) : PE X e (tW X.kw E w) := by
  obtain ⟨t, p, s⟩ := h.ex
  refine ⟨fun pins sh σ H Q I q => p.run pins sh σ H Q I ?_⟩
  obtain ⟨px, F0, H0, F, env, pv, pd, Q', L, S, w1, k⟩ := q
  exact s px F0 H0 F H σ env pv pd L S Q' Q w1 k
theorem DT.canon {X : Cx} {E : EX} {e : Expr} {w : WT} (h : DT X E e w) : PT X e (ttW X.kw E w) := by
  obtain ⟨t, p, s⟩ := h.ex
  refine ⟨fun pins sh σ H Q I q => p.run pins sh σ H Q I ?_⟩
  obtain ⟨px, F0, H0, F, env, pv, pd, Q', L, S, w1, k⟩ := q
  exact s px F0 H0 F H σ env pv pd L S Q' Q w1 k
theorem sim_tW {K : KW} {E : EX} {w : WE} : Sim K E w (tW K E w) := fun px F0 H0 F H σ env pv pd L S Q' Q w1 k => ⟨px, F0, H0, F, env, pv, pd, Q', L, S, w1, k⟩
theorem sim_ttW {K : KW} {E : EX} {w : WT} : SimT K E w (ttW K E w) := fun px F0 H0 F H σ env pv pd L S Q' Q w1 k => ⟨px, F0, H0, F, env, pv, pd, Q', L, S, w1, k⟩
/-- a comprehension's target -/
structure DC (X : Cx) (vs : List Nat) (e : Expr) (g : TG) (w : WG) : Prop where
  p : PG X e g
  s : SimG X.kw w g
  k : Keep vs g
  m : MonoG g
structure DCs (X : Cx) (vs : List Nat) (e : List Expr) (g : TGs) (w : WGs) : Prop where
  p : PGs X e g
  s : SimGs X.kw w g
  k : KeepS vs g
  m : MonoGs g
section
variable {K : KW} {F0 H0 F F' H H' : Hp} {σ : L2.St} {env : Env} {pv : List V} {pd : List D}
theorem slots_frozen (hF : Ex F F') : ∀ {σ : L2.St} {env : Env} {A : List Addr}, Slots K F H σ env A → (∀ a ∈ A, F' a = H a) → Slots K F' H σ (envF env) []
  | _, _, _, .nil, _ => .nil
  | _, _, _, .skip r, hA => .skip (slots_frozen hF r hA)
  | _, _, _, .cons h r e, hA => .cons (h.frozen hF fun a ha => hA a (by rw [e]; exact List.mem_append_left _ ha)) (slots_frozen hF r fun a ha => hA a (by rw [e]; exact List.mem_append_right _ ha)) rfl
theorem slots_clean : ∀ {σ : L2.St} {env : Env} {A : List Addr}, Slots K F H σ env A → cleanE env = true → A = []
  | _, _, _, .nil, _ => rfl
  | _, _, _, .skip r, h => slots_clean r (by simpa [cleanE] using h)
  | _, _, _, .cons h0 r e, h => by
    simp only [cleanE, Bool.and_eq_true, Bool.not_eq_true'] at h
    rw [e, h0.clean h.1, slots_clean r h.2]; rfl
theorem slots_wset : ∀ {σ : L2.St} {env : Env} (i : Nat), Slots K F H σ env [] → Slots K F H (σ.set i none) (env.set i none) []
  | _, _, _, .nil => by simpa using Slots.nil
  | _, _, 0, .skip r => .skip r
  | _, _, 0, .cons (B := B) h r e => by
    have : B = [] := (List.append_eq_nil_iff.mp e.symm).2
    subst this
    exact .skip r
  | _, _, i + 1, .skip r => .skip (slots_wset i r)
  | _, _, i + 1, .cons (A := A) (B := B) h r e => by
    have e1 := (List.append_eq_nil_iff.mp e.symm).1
    have e2 := (List.append_eq_nil_iff.mp e.symm).2
    subst e1 e2
    exact .cons h (slots_wset i r) rfl
theorem slots_wipe (r : Slots K F H σ env []) : ∀ vs : List Nat, Slots K F H (wipe σ vs) (wipeE env vs) []
  | [] => r
  | v :: vs => slots_wset v (slots_wipe r vs)
/-- the pending values in another order -/
theorem Sta.unswap {vs : List V} {ds : List D} {x : V} {d : D} (hl : vs.length = ds.length) (S : Sta K F0 H0 F H σ env (x :: (vs ++ pv)) (d :: (ds ++ pd))) : Sta K F0 H0 F H σ env (vs ++ x :: pv) (ds ++ d :: pd) := by
  obtain ⟨A0, B, h1, h2, h3, h4⟩ := S.own
  cases h2 with
  | cons r rr e =>
    rename_i A1 B1
    subst e
    obtain ⟨d1, d2, A, B2, e1, e2, r1, r2⟩ := rr.split
    obtain ⟨rfl, rfl⟩ := List.append_inj e1 (by rw [← r1.length]; exact hl.symm)
    subst e2
    refine ⟨S.exF, S.exH, S.sub, S.new, A0, A ++ (A1 ++ B2), h1, r1.app (.cons r r2 rfl), ?_, fun a ha => h4 a ?_⟩
    · refine (List.Perm.nodup_iff (List.Perm.append_left _ ?_)).mp h3
      rw [← List.append_assoc, ← List.append_assoc]
      exact List.Perm.append_right _ List.perm_append_comm
    · simp only [List.mem_append] at ha ⊢
      rcases ha with ha | ha | ha | ha
      · exact .inl ha
      · exact .inr (.inr (.inl ha))
      · exact .inr (.inl ha)
      · exact .inr (.inr (.inr ha))
/-- the newest pending list grows by what an inner code made -/
theorem Sta.grown {L : Addr} {acc : List D} {vs : List V} {y : V} {d : D} {A0 B C : List Addr} (S : Sta K F0 H0 F H σ env (.ref L :: pv) (.lst true acc :: pd)) (h1 : Slots K F H σ env A0) (h2 : Reps K F H (.ref L :: pv) (.lst true acc :: pd) B) (h3 : (A0 ++ B).Nodup) (h4 : ∀ a ∈ A0 ++ B, F a = none ∧ H0 a = none)
    (hD : H L = some (.lst vs)) (r : Rep K F H y d C) (hn : C.Nodup) (hC : ∀ a ∈ C, F a = none ∧ H0 a = none) (dd : ∀ a ∈ C, a ∉ A0 ++ B) : vs.length = acc.length ∧ Sta K F0 H0 F (upd H L (.lst (vs ++ [y]))) σ env (.ref L :: pv) (.lst true (acc ++ [d]) :: pd) := by
  cases h2 with
  | cons r0 rr e =>
    rename_i A1 B1
    subst e
    cases r0 with
    | own hq rs =>
      rename_i vs' A'
      rw [hD] at hq; cases hq
      refine ⟨rs.length, ?_⟩
      have na : ∀ b ∈ A0 ++ B1 ++ A' ++ C, b ≠ L := fun b hb z => by
        subst z
        rw [List.nodup_append] at h3
        simp only [List.mem_append] at hb
        have h5 := List.nodup_append.mp h3.2.1
        rcases hb with ((hb | hb) | hb) | hb
        · exact h3.2.2 b hb b (by simp) rfl
        · exact h5.2.2 b (by simp) b hb rfl
        · exact (List.nodup_cons.mp h5.1).1 hb
        · exact dd b hb (by simp)
      have ha := h4 L (by simp)
      have hT := tup_upd (vs' := vs ++ [y]) hD
      have ex0 : ∀ {G : Hp}, G L = none → (∀ b o, G b = some o → H b = some o) → Ex G (upd H L (.lst (vs ++ [y]))) := fun {G} hn hg b o q => by
        rw [upd_ne (ne_of_none q hn)]; exact hg b o q
      have r1 := rs.mono (Same.refl F) hT fun b hb => upd_ne (na b (by simp [hb]))
      have r2 := r.mono (Same.refl F) hT fun b hb => upd_ne (na b (by simp [hb]))
      have rnew : Rep K F (upd H L (.lst (vs ++ [y]))) (.ref L) (.lst true (acc ++ [d])) (L :: (A' ++ C)) := .own upd_same (by
        have := r1.app (.cons r2 .nil rfl)
        rw [List.append_nil] at this
        exact this)
      refine ⟨S.exF, ex0 ha.2 S.exH, ex0 ha.1 S.sub, S.new, A0, (L :: (A' ++ C)) ++ B1, h1.mono (Same.refl _) hT fun b hb => upd_ne (na b (by simp [hb])), .cons rnew (rr.mono (Same.refl _) hT fun b hb => upd_ne (na b (by simp [hb]))) rfl, ?_, fun b hb => ?_⟩
      · have p : (A0 ++ (L :: A' ++ B1) ++ C).Perm (A0 ++ (L :: (A' ++ C) ++ B1)) := by
          rw [List.append_assoc]
          refine List.Perm.append_left _ ?_
          rw [show L :: A' ++ B1 ++ C = (L :: A') ++ (B1 ++ C) by simp [List.append_assoc], show L :: (A' ++ C) ++ B1 = (L :: A') ++ (C ++ B1) by simp [List.append_assoc]]
          exact List.Perm.append_left _ List.perm_append_comm
        refine (List.Perm.nodup_iff p).mp ?_
        rw [List.nodup_append]
        refine ⟨h3, hn, fun a ha b hb z => ?_⟩
        subst z
        exact dd a hb ha
      · simp only [List.mem_append, List.mem_cons, List.cons_append] at hb
        rcases hb with hb | hb | (hb | hb) | hb
        · exact h4 b (by simp [hb])
        · exact h4 b (by simp [hb])
        · exact h4 b (by simp [hb])
        · exact hC b hb
        · exact h4 b (by simp [hb])
end
theorem lc_run {K : KW} {g : WG} {tt : WT} {te : WE} {vs : List Nat} {tg : TG} {t1 : TT} {t2 : TE} (hg : SimG K g tg) (hk : Keep vs tg) (hm : MonoG tg) (ht : SimT K EN tt t1) (he : Sim K EN te t2)
    {F0 H0 F1 H1 : Hp} {σ : L2.St} {env1 : Env} {pv pvx : List V} {pd pdx : List D} {ds : List D} {J : It} {Q1 : List D → Prop} {Q : VK} {D : Addr} (S1 : Sta K F0 H0 F1 H1 σ env1 (pvx ++ pv) (pdx ++ pd)) (jl : pvx.length = pdx.length) (jg : ∀ F H A i d, Ex F1 F → Ex F H → Reps K F H pvx pdx A → ds[i]? = some d → J.go i H ∧ ∀ x H', J.yld i H x H' → Ex H H' ∧ Rep K F H' x d []) (js : ∀ F H A, Ex F1 F → Ex F H → Reps K F H pvx pdx A → J.stop ds.length H)
    (w1 : lcW g tt te (wipeE (envF env1) vs) (cleanE env1) ds [] Q1) (hD : H1 D = none)
    (kend : ∀ acc F2 H2, Q1 acc → Ex F1 F2 → Ex (upd H1 D (.lst [])) (upd H1 D (.lst [])) → Ex H1 H2 → Sta K F0 H0 F2 H2 σ env1 (.ref D :: (pvx ++ pv)) (.lst true acc :: (pdx ++ pd)) → Q (.ref D) H2) :
    ∃ W : Nat → Nat → Hp → Prop, (∃ m, W 0 m (upd H1 D (.lst []))) ∧ ∀ i m H, W i m H →
      (J.stop i H ∧ Q (.ref D) H) ∨ (J.go i H ∧ ∃ Nx : Hp → Prop, (∀ H', Nx H' → ∃ m', m' < m ∧ W (i + 1) m' H') ∧ ∀ x H', J.yld i H x H' → tg x (wipe σ vs) H' fun σ2 H2 => wipe σ2 vs = wipe σ vs ∧ t1 σ2 H2 fun b H3 =>
        if b = true then t2 σ2 H3 fun y H4 => ∃ acc, H4 D = some (.lst acc) ∧ acc.length < sizeLine ∧ Nx (upd H4 D (.lst (acc ++ [y]))) else Nx H3) := by
  let W : Nat → Nat → Hp → Prop := fun i m H' => m = ds.length - i ∧ i ≤ ds.length ∧ ∃ acc F', Ex F1 F' ∧ Ex H1 H' ∧ lcW g tt te (wipeE (envF env1) vs) (cleanE env1) (ds.drop i) acc Q1 ∧ Sta K F0 H0 F' H' σ env1 (.ref D :: (pvx ++ pv)) (.lst true acc :: (pdx ++ pd))
  refine ⟨W, ⟨ds.length, by simp, Nat.zero_le _, [], F1, Same.refl _, Ex.new hD, w1, S1.push (Ex.new hD) (.own upd_same .nil) (by simp) (by simpa using hD)⟩, ?_⟩
  rintro i m H2 ⟨rfl, hle, acc, F2, eF2, eH2, w2, S2⟩
  have S2' := (Sta.pop S2).2
  obtain ⟨A, rs⟩ := S2'.told jl
  by_cases hlt : i < ds.length
  · obtain ⟨go, yl⟩ := jg F2 H2 A i ds[i] eF2 S2.sub rs (List.getElem?_eq_getElem hlt)
    refine .inr ⟨go, fun H' => ∃ m, W (i + 1) m H' , fun H' ⟨m, q⟩ => ⟨ds.length - (i + 1), by omega, by obtain ⟨e, r⟩ := q; subst e; exact ⟨rfl, r⟩⟩, fun x H3 y => ?_⟩
    obtain ⟨e3, rx⟩ := yl x H3 y
    have S3 := S2.grow e3
    -- the turn's own frame: all slots frozen
    obtain ⟨A0, B0, s1, s2, s3, s4⟩ := S3.own
    let Fc : Hp := fun a => if a ∈ A0 then H3 a else F2 a
    have hF : Ex F2 Fc := fun a o q => by
      show (if a ∈ A0 then H3 a else F2 a) = some o
      split
      · exact S3.sub _ _ q
      · exact q
    have hA : ∀ a ∈ A0, Fc a = H3 a := fun a ha => if_pos ha
    have hN : ∀ a, a ∉ A0 → Fc a = F2 a := fun a ha => if_neg ha
    have hsub : Ex Fc H3 := fun a o q => by
      by_cases hm : a ∈ A0
      · rw [hA a hm] at q; exact q
      · rw [hN a hm] at q; exact S3.sub _ _ q
    have sl := slots_wipe (slots_frozen hF s1 hA) vs
    have SI : Sta K Fc H3 Fc H3 (wipe σ vs) (wipeE (envF env1) vs) [x] [ds[i]] :=
      ⟨Same.refl _, Same.refl _, hsub, fun a q => .inl q, [], [], sl, .cons (rx.mono hF (fun _ _ z => z) fun a ha => absurd ha List.not_mem_nil) .nil rfl, List.nodup_nil, fun a ha => absurd ha List.not_mem_nil⟩
    -- back out of it
    have out : ∀ (F4 H4 : Hp), Ex Fc F4 → Ex H3 H4 → Ex F4 H4 → (∀ a, F4 a ≠ none → Fc a ≠ none ∨ H3 a = none) →
        ∃ F5, Ex F2 F5 ∧ (cleanE env1 = true → F5 = F4) ∧ (∀ a, F4 a = none → F5 a = none) ∧ Sta K F0 H0 F5 H4 σ env1 (.ref D :: (pvx ++ pv)) (.lst true acc :: (pdx ++ pd)) ∧
          Slots K F5 H4 σ env1 A0 ∧ Reps K F5 H4 (.ref D :: (pvx ++ pv)) (.lst true acc :: (pdx ++ pd)) B0 ∧ ∀ a ∈ A0 ++ B0, F5 a = none ∧ H0 a = none := by
      intro F4 H4 e1 e2 e4 new
      let F5 : Hp := fun a => if a ∈ A0 then none else F4 a
      have h5 : ∀ a, a ∉ A0 → F5 a = F4 a := fun a ha => if_neg ha
      have h6 : ∀ a ∈ A0, F5 a = none := fun a ha => if_pos ha
      have e25 : Ex F2 F5 := fun a o q => by
        have ha : a ∉ A0 := fun z => by
          rw [(s4 a (List.mem_append_left _ z)).1] at q; cases q
        rw [h5 a ha]; exact e1 _ _ (hF _ _ q)
      have key : ∀ a ∈ A0 ++ B0, F5 a = none ∧ H0 a = none := fun a ha => by
        refine ⟨?_, (s4 a ha).2⟩
        by_cases hm : a ∈ A0
        · exact h6 a hm
        · rw [h5 a hm]
          cases z : F4 a with
          | none => rfl
          | some o =>
            rcases new a (by rw [z]; simp) with y | y
            · rw [hN a hm] at y; exact absurd (s4 a ha).1 y
            · have : ∃ o, H3 a = some o := by
                rcases List.mem_append.mp ha with h | h
                · exact s1.there a h
                · exact s2.there a h
              obtain ⟨xs, q⟩ := this
              rw [y] at q; cases q
      refine ⟨F5, e25, fun hc => ?_, fun a ha => ?_, ?_, s1.ex e25 e2, s2.ex e25 e2, key⟩
      · have := slots_clean s1 hc
        subst this
        funext a
        exact if_neg (by simp)
      · by_cases hm : a ∈ A0
        · exact h6 a hm
        · rw [h5 a hm]; exact ha
      · refine ⟨S3.exF.trans e25, S3.exH.trans e2, fun a o q => ?_, fun a q => ?_, A0, B0, s1.ex e25 e2, s2.ex e25 e2, s3, key⟩
        · by_cases hm : a ∈ A0
          · rw [h6 a hm] at q; cases q
          · rw [h5 a hm] at q; exact e4 _ _ q
        · by_cases hm : a ∈ A0
          · exact absurd (h6 a hm) q
          · rw [h5 a hm] at q
            rcases new a q with z | z
            · rw [hN a hm] at z; exact S3.new a z
            · exact .inr (S3.exH.none z)
    have wd : ds.drop i = ds[i] :: ds.drop (i + 1) := List.drop_eq_getElem_cons hlt
    rw [wd] at w2
    have goG := hg Fc H3 Fc H3 (wipe σ vs) _ [] [] x ds[i] SI _ (fun σ2 H4 => H4 = H3 ∧ ∃ env2, (tt px0 env2 fun b env3 => if b = true then te px0 env3 fun y by_ _ => (by_ = false ∨ dirty y = false) ∧ (cleanE env1 = true ∨ selfc y = true) ∧ acc.length ≤ 100000 ∧ lcW g tt te (wipeE (envF env1) vs) (cleanE env1) (ds.drop (i + 1)) (acc ++ [y]) Q1 else lcW g tt te (wipeE (envF env1) vs) (cleanE env1) (ds.drop (i + 1)) acc Q1) ∧ Sta K Fc H3 Fc H3 σ2 env2 [] []) w2 (fun env2 σ2 w3 S4 => ⟨rfl, env2, w3, S4⟩)
    refine hm _ _ _ _ _ ?_ (hk _ _ _ _ goG)
    rintro σ2 H4 ⟨⟨rfl, env2, w3, S4⟩, ew⟩
    refine ⟨by rw [ew]; apply List.ext_getElem?; intro j; by_cases hj : j ∈ vs
               · cases e1 : (wipe (wipe σ vs) vs)[j]? with
                 | none =>
                   rw [List.getElem?_eq_none_iff, wipe_length, wipe_length] at e1
                   rw [List.getElem?_eq_none (by rw [wipe_length]; exact e1)]
                 | some a =>
                   rw [wipe_none hj a e1]
                   cases e2 : (wipe σ vs)[j]? with
                   | none =>
                     have h1 := (List.getElem?_eq_some_iff.mp e1).1
                     rw [List.getElem?_eq_none_iff, wipe_length] at e2
                     rw [wipe_length, wipe_length] at h1
                     omega
                   | some b => rw [wipe_none hj b e2]
               · rw [wipe_out hj], ?_⟩
    refine ht px0 Fc H4 Fc H4 σ2 env2 [] [] link0 S4 _ _ w3 fun b env3 F5 H5 w4 eF5 eH5 S5 => ?_
    cases b with
    | false =>
      obtain ⟨F6, e26, _, _, S6, _⟩ := out F5 H5 S5.exF S5.exH S5.sub S5.new
      exact ⟨_, rfl, hlt, acc, F6, eF2.trans e26, (eH2.trans e3).trans eH5, w4, S6⟩
    | true =>
      refine he px0 Fc H4 F5 H5 σ2 env3 [] [] link0 S5 _ _ w4 fun d b env4 v F6 H6 w5 eF6 eH6 R6 => ?_
      obtain ⟨wb, wc, wl, w6⟩ := w5
      have S6 := R6.owned wb
      obtain ⟨A6, B6, q1, q2, q3, q4⟩ := S6.own
      cases q2 with
      | cons ry ry2 e =>
        rename_i C B7
        cases ry2
        rw [List.append_nil] at e
        subst e
        have hCn : B6.Nodup := (List.nodup_append.mp q3).2.1
        have hC : ∀ a ∈ B6, F6 a = none ∧ H4 a = none := fun a ha => q4 a (List.mem_append_right _ ha)
        obtain ⟨F7, e27, cl, non, S7, u1, u2, u4⟩ := out F6 H6 S6.exF S6.exH S6.sub S6.new
        have ry' : Rep K F7 H6 v d B6 := by
          rcases wc with hc | hc
          · rw [cl hc]; exact ry
          · exact ry.alone hc
        have hD6 : ∃ vs', H6 D = some (.lst vs') := by
          obtain ⟨Aa, Bb, u1, u2, u3, u4⟩ := S7.own
          cases u2 with
          | cons r0 _ _ =>
            cases r0 with
            | own hq _ => exact ⟨_, hq⟩
        obtain ⟨vs', hD6⟩ := hD6
        have disj : ∀ a ∈ B6, a ∉ A0 ++ B0 := fun a ha hm => by
          have hn := (hC a ha).2
          have : ∃ o, H4 a = some o := by
            rcases List.mem_append.mp hm with h | h
            · exact s1.there a h
            · exact s2.there a h
          obtain ⟨xs, q⟩ := this
          rw [hn] at q; cases q
        obtain ⟨hl, S8⟩ := S7.grown u1 u2 s3 u4 hD6 ry' hCn (fun a ha => ⟨non a (hC a ha).1, S3.exH.none (hC a ha).2⟩) disj
        refine ⟨vs', hD6, by rw [hl]; exact lt_line wl, _, rfl, hlt, acc ++ [d], F7, eF2.trans e27, fun b o q => ?_, w6, S8⟩
        have hb : b ≠ D := fun z => by
          subst z
          rw [hD] at q; cases q
        rw [upd_ne hb]
        exact S6.exH _ _ (e3 _ _ (eH2 _ _ q))
  · have e : i = ds.length := by omega
    subst e
    refine .inl ⟨js F2 H2 A eF2 S2.sub rs, ?_⟩
    rw [List.drop_length] at w2
    exact kend acc F2 H2 w2 eF2 (Same.refl _) eH2 S2
theorem sim_lc {K : KW} {E : EX} {wi : WI} {g : WG} {tt : WT} {te : WE} {vs : List Nat} {ti : TI} {tg : TG} {t1 : TT} {t2 : TE} (hi : SimI K E wi ti) (hg : SimG K g tg) (hk : Keep vs tg) (hm : MonoG tg) (ht : SimT K EN tt t1) (he : Sim K EN te t2) :
    Sim K E (wLc wi g tt te vs) (tLc ti tg t1 t2 vs) := by
  intro px F0 H0 F H σ env pv pd L S Q' Q w k
  refine hi px F0 H0 F H σ env pv pd L S _ _ w fun ds env1 J F1 H1 pvx pdx w1 eF eH S1 J1 => fun D hD => ?_
  refine lc_run hg hk hm ht he S1 J1.len (fun F H A i d _ => J1.go F H A i d) (fun F H A _ => J1.stop F H A) w1 hD fun acc F2 H2 w2 eF2 _ eH2 S2 => ?_
  have S3 : Sta K F0 H0 F2 H2 σ env1 (.ref D :: pv) (.lst true acc :: pd) := by
    have : Sta K F0 H0 F2 H2 σ env1 (pvx ++ .ref D :: pv) (pdx ++ .lst true acc :: pd) := S2.unswap J1.len
    exact Sta.drops J1.len this
  exact k (.lst true acc) false env1 (.ref D) F2 H2 w2 (eF.trans eF2) (eH.trans eH2) S3
def wYes : WT := fun _ env Q => Q true env
theorem sim_yes {K : KW} {E : EX} : SimT K E wYes tYes := fun px F0 H0 F H σ env pv pd L S Q' Q w k => k true env F H w (Same.refl _) (Same.refl _) S
section
variable {X : Cx} {E : EX} {vs : List Nat} {pos : Pos}
theorem c_name {i : Nat} {x : Str} (hN : X.N.Nodup) (hi : X.N[i]? = some x) (hx : Loc X.env.scope x) (hv : i ∈ vs) (hf : X.fn x = true ∨ X.env.scope.names.lookup x = some .local := by first | exact .inl rfl | exact .inr rfl | assumption) : DC X vs (.Name x pos) (gName i) (gtName i) :=
  ⟨pg_name hN hi hx hf, simG_name, keep_name hv, mono_name⟩
theorem cs_nil : DCs X vs [] gNil (fun ds env Q => ds = [] ∧ Q env) := ⟨pgs_nil, simGs_nil, keep_nil, mono_nil⟩
theorem cs_cons {e : Expr} {es : List Expr} {g : TG} {r : TGs} {w : WG} {u : WGs} (h : DC X vs e g w) (hr : DCs X vs es r u) (hs : (assignEach (e :: es) X.env).map (·.2) = assign e X.env :: (assignEach es X.env).map (·.2) := by rfl) : DCs X vs (e :: es) (gCons g r) (gtCons w u) :=
  ⟨pgs_cons h.p hr.p hs, simGs_cons h.s hr.s, keep_cons h.m hr.m h.k hr.k, mono_cons h.m hr.m⟩
theorem c_tup {es : List Expr} {k : Nat} {g : TGs} {u : WGs} {n : Nat} (hc : X.calm = true) (h : DCs X vs es g u) (hn : (assignEach es X.env).length = n := by rfl) (hst : (assignEach es X.env).findIdx? (·.1) = none := by rfl) : DC X vs (.Tuple es k pos) (gTup X.K n g) (gtTup n u) :=
  ⟨pg_tup hc h.p hn hst, simG_tup h.s, keep_tup h.k, mono_tup h.m⟩
variable {elt tg iter c : Expr} {scope : Scope} {own : List (Str × Nat)} {wi : WI} {g : TG} {wg : WG} {wc : WT} {we : WE}
theorem d_lc (hc : X.calm = true) (hN : X.N.Nodup) (hi : DI X E tg iter wi) (ok : BlkOk X.N X.env.scope scope own)
    (hg : ∀ (s : Shared) (H : Hp) (C : Addr) (cl : List (Str × Addr)) (fp : List Addr), DC (X.blk s H scope (compEnvC scope cl C X.env) fp) (own.map (·.2)) tg g wg)
    (he : ∀ (s : Shared) (H : Hp) (C : Addr) (cl : List (Str × Addr)) (fp : List Addr), DE (X.blk s H scope (compEnvC scope cl C X.env) fp) EN elt we) (hs : ∀ x, foldedSetIterable iter X.env x = pure x := by intro _; rfl) :
    DE X E (.ListComp elt [⟨tg, iter, [], 0⟩] scope pos) (wLc wi wg wYes we (own.map (·.2))) := by
  obtain ⟨ti, pi, si⟩ := hi.ex
  refine ⟨_, pe_lc (te := tW X.kw EN we) hc hN pi ok (fun s H C cl fp => (hg s H C cl fp).p) (fun s H C cl fp => pts_nil) (fun s H C cl fp => (he s H C cl fp).canon) hs, ?_⟩
  have d := hg X.s_0 X.H_0 0 [] []
  exact sim_lc si d.s d.k d.m sim_yes sim_tW
theorem d_lcIf (hc : X.calm = true) (hN : X.N.Nodup) (hi : DI X E tg iter wi) (ok : BlkOk X.N X.env.scope scope own)
    (hg : ∀ (s : Shared) (H : Hp) (C : Addr) (cl : List (Str × Addr)) (fp : List Addr), DC (X.blk s H scope (compEnvC scope cl C X.env) fp) (own.map (·.2)) tg g wg)
    (ht : ∀ (s : Shared) (H : Hp) (C : Addr) (cl : List (Str × Addr)) (fp : List Addr), DT (X.blk s H scope (compEnvC scope cl C X.env) fp) EN c wc)
    (he : ∀ (s : Shared) (H : Hp) (C : Addr) (cl : List (Str × Addr)) (fp : List Addr), DE (X.blk s H scope (compEnvC scope cl C X.env) fp) EN elt we) (hs : ∀ x, foldedSetIterable iter X.env x = pure x := by intro _; rfl) :
    DE X E (.ListComp elt [⟨tg, iter, [c], 0⟩] scope pos) (wLc wi wg wc we (own.map (·.2))) := by
  obtain ⟨ti, pi, si⟩ := hi.ex
  refine ⟨_, pe_lc (te := tW X.kw EN we) (tt := ttW X.kw EN wc) hc hN pi ok (fun s H C cl fp => (hg s H C cl fp).p) (fun s H C cl fp => pts_one (ht s H C cl fp).canon) (fun s H C cl fp => (he s H C cl fp).canon) hs, ?_⟩
  have d := hg X.s_0 X.H_0 0 [] []
  exact sim_lc si d.s d.k d.m sim_ttW sim_tW
/-- name = [..] on one line -/
theorem s_setLc {i : Nat} {y : Str} {py spos : Pos} (hc : X.calm = true) (hN : X.N.Nodup) (hy : X.N[i]? = some y) (hyl : X.env.scope.names.lookup y = some .local)
    (hsw : swapsWith (.ListComp elt [⟨tg, iter, [], 0⟩] scope pos) (some (.Name y py)) spos.line X.env = pure true) (hi : DI X E tg iter wi) (ok : BlkOk X.N X.env.scope scope own)
    (hg : ∀ (s : Shared) (H : Hp) (C : Addr) (cl : List (Str × Addr)) (fp : List Addr), DC (X.blk s H scope (compEnvC scope cl C X.env) fp) (own.map (·.2)) tg g wg)
    (he : ∀ (s : Shared) (H : Hp) (C : Addr) (cl : List (Str × Addr)) (fp : List Addr), DE (X.blk s H scope (compEnvC scope cl C X.env) fp) EN elt we) (hs : ∀ x, foldedSetIterable iter X.env x = pure x := by intro _; rfl) :
    DS X E (.Assign [.Name y py] (.ListComp elt [⟨tg, iter, [], 0⟩] scope pos) spos) (wAsg (wLc wi wg wYes we (own.map (·.2))) (gtName i)) := by
  obtain ⟨ti, pi, si⟩ := hi.ex
  refine ⟨_, ps_setLc (te := tW X.kw EN we) hc hN hy hyl hsw pi ok (fun s H C cl fp => (hg s H C cl fp).p) (fun s H C cl fp => pts_nil) (fun s H C cl fp => (he s H C cl fp).canon) hs, ?_⟩
  have d := hg X.s_0 X.H_0 0 [] []
  exact simS_asg (sim_lc si d.s d.k d.m sim_yes sim_tW) simG_name
theorem s_setLcIf {i : Nat} {y : Str} {py spos : Pos} (hc : X.calm = true) (hN : X.N.Nodup) (hy : X.N[i]? = some y) (hyl : X.env.scope.names.lookup y = some .local)
    (hsw : swapsWith (.ListComp elt [⟨tg, iter, [c], 0⟩] scope pos) (some (.Name y py)) spos.line X.env = pure true) (hi : DI X E tg iter wi) (ok : BlkOk X.N X.env.scope scope own)
    (hg : ∀ (s : Shared) (H : Hp) (C : Addr) (cl : List (Str × Addr)) (fp : List Addr), DC (X.blk s H scope (compEnvC scope cl C X.env) fp) (own.map (·.2)) tg g wg)
    (ht : ∀ (s : Shared) (H : Hp) (C : Addr) (cl : List (Str × Addr)) (fp : List Addr), DT (X.blk s H scope (compEnvC scope cl C X.env) fp) EN c wc)
    (he : ∀ (s : Shared) (H : Hp) (C : Addr) (cl : List (Str × Addr)) (fp : List Addr), DE (X.blk s H scope (compEnvC scope cl C X.env) fp) EN elt we) (hs : ∀ x, foldedSetIterable iter X.env x = pure x := by intro _; rfl) :
    DS X E (.Assign [.Name y py] (.ListComp elt [⟨tg, iter, [c], 0⟩] scope pos) spos) (wAsg (wLc wi wg wc we (own.map (·.2))) (gtName i)) := by
  obtain ⟨ti, pi, si⟩ := hi.ex
  refine ⟨_, ps_setLc (te := tW X.kw EN we) (tt := ttW X.kw EN wc) hc hN hy hyl hsw pi ok (fun s H C cl fp => (hg s H C cl fp).p) (fun s H C cl fp => pts_one (ht s H C cl fp).canon) (fun s H C cl fp => (he s H C cl fp).canon) hs, ?_⟩
  have d := hg X.s_0 X.H_0 0 [] []
  exact simS_asg (sim_lc si d.s d.k d.m sim_ttW sim_tW) simG_name
end
end Tm

set_option Elab.async false
set_option linter.all false
set_option maxRecDepth 100000
set_option maxHeartbeats 1000000
namespace Tm
open PySem PySem.Spec PyProof.Rows L2

/-! ### what else is walked -/
/-- lo, lo + c, .. -/
def rngC (lo c : Int) (n : Nat) : List D := (List.range n).map fun (i : Nat) => .int (lo + (i : Int) * c)
theorem rngC_len (lo c : Int) (n : Nat) : (rngC lo c n).length = n := by simp [rngC]
theorem rngC_get {lo c : Int} {n i : Nat} {d : D} (h : (rngC lo c n)[i]? = some d) : i < n ∧ d = .int (lo + (i : Int) * c) := by
  have hi : i < n := by rw [← rngC_len lo c n]; exact (List.getElem?_eq_some_iff.mp h).1
  simp only [rngC, List.getElem?_map, List.getElem?_range hi, Option.map_some, Option.some.injEq] at h
  exact ⟨hi, h.symm⟩
/-- how many turns range(i, j, c) has -/
def turnsC (i j c : Int) : Nat := (Builtin.Range.rangeSize i j c).toNat
theorem turnsC_pos {i j c : Int} (hc : 0 < c) : turnsC i j c = if i < j then ((j - i - 1) / c + 1).toNat else 0 := by
  unfold turnsC Builtin.Range.rangeSize
  rw [if_pos hc]
  split <;> rfl
theorem turnsC_down {i j : Int} : turnsC i j (-1) = (i - j).toNat := by
  unfold turnsC
  rw [PySem.W.rangeSize_downNat]
  omega
def CRg (i j c : Int) : Prop := (0 < c ∨ c = -1) ∧ c ≤ 1000000 ∧ -1000000000 ≤ i ∧ i ≤ 1000000000 ∧ -1000000000 ≤ j ∧ j ≤ 1000000000
theorem CRg.ok {i j c : Int} (h : CRg i j c) : RgC i j c (turnsC i j c) := by
  obtain ⟨h1 | h1, h2, h3, h4, h5, h6⟩ := h
  · have hs : Builtin.Range.rangeSize i j c = if i < j then (j - i - 1) / c + 1 else 0 := by
      unfold Builtin.Range.rangeSize
      rw [if_pos h1]
    have hnn : 0 ≤ Builtin.Range.rangeSize i j c ∧ Builtin.Range.rangeSize i j c ≤ 2000000001 := by
      rw [hs]
      split
      · rename_i hlt
        have q1 : 0 ≤ (j - i - 1) / c := Int.ediv_nonneg (by omega) (by omega)
        have q2 : (j - i - 1) / c ≤ j - i - 1 := Int.ediv_le_self _ (by omega)
        omega
      · omega
    refine ⟨by omega, by omega, ?_, ?_⟩
    · unfold Builtin.Range.small
      generalize hr : Builtin.Range.rangeSize i j c = r at hnn ⊢
      simp only [Builtin.Range.rangeFitsLong, Bool.and_eq_true, Bool.or_eq_true, decide_eq_true_eq, beq_iff_eq, gt_iff_lt, h1, if_true]
      omega
    · unfold turnsC
      omega
  · subst h1
    have := RgC.neg (i := i) (j := j) (by omega) (by omega) (by omega) (by omega)
    rw [turnsC_down]
    exact this
def its3 (w : WA) : WI := fun px env Q => w px env fun ds env1 => match ds with
  | [.int i, .int j, .int c] => CRg i j c ∧ Q (rngC i c (turnsC i j c)) env1
  | _ => False
theorem simI_3 {K : KW} {E : EX} {w : WA} {t : TA} (h : SimA K E w t) : SimI K E (its3 w) (iRng3 t) := by
  intro px F0 H0 F H σ env pv pd L S Q' R w1 k
  refine h px F0 H0 F H σ env pv pd L S _ _ w1 fun ds env1 vs F1 H1 A w2 eF eH rs S1 => ?_
  unfold its3 at w1
  split at w2
  · rename_i i j c
    cases rs with
    | cons r1 r2 _ =>
      obtain ⟨u, x, B, C, e, r3, r4⟩ := reps2 r2
      subst e
      rw [rep_int r1, rep_int r3, rep_int r4]
      refine ⟨i, j, c, _, rfl, w2.1.ok, k _ env1 _ F1 H1 [] [] w2.2 eF eH S1 ⟨rfl, fun F H A n d hs rr hd => ?_, fun F H A hs rr => ?_⟩⟩
      · obtain ⟨hi, rfl⟩ := rngC_get hd
        refine ⟨hi, fun x H' y => ?_⟩
        obtain ⟨e, rfl⟩ := y
        subst e
        exact ⟨Same.refl _, .int _⟩
      · rw [rngC_len]; exact Nat.le_refl _
  · exact w2.elim
/-- enumerate -/
def enumD : Nat → List D → List D
  | _, [] => []
  | n, d :: ds => .tup [.int (n : Int), d] :: enumD (n + 1) ds
theorem enumD_len : ∀ (n : Nat) (ds : List D), (enumD n ds).length = ds.length
  | _, [] => rfl
  | n, d :: ds => by simp [enumD, enumD_len (n + 1) ds]
theorem enumD_get : ∀ (n : Nat) (ds : List D) (i : Nat), (enumD n ds)[i]? = (ds[i]?).map fun d => .tup [.int ((n + i : Nat) : Int), d]
  | n, [], i => by simp [enumD]
  | n, d :: ds, 0 => by simp [enumD]
  | n, d :: ds, i + 1 => by
    simp only [enumD, List.getElem?_cons_succ]
    rw [enumD_get (n + 1) ds i]
    congr 1
    funext d
    rw [show n + 1 + i = n + (i + 1) by omega]
def itsE (w : WA) : WI := fun px env Q => w px env fun ds env1 => match ds with
  | [d] => dirty d = false ∧ (match asL d with
    | some es => dirtys es = false ∧ Q (enumD 0 es) env1
    | none => False)
  | _ => False
theorem simI_E {K : KW} {E : EX} {w : WA} {t : TA} (h : SimA K E w t) : SimI K E (itsE w) (iEnum K t) := by
  intro px F0 H0 F H σ env pv pd L S Q' R w1 k
  refine h px F0 H0 F H σ env pv pd L S _ _ w1 fun ds env1 vs F1 H1 A w2 eF eH rs S1 => ?_
  unfold itsE at w1
  split at w2
  · rename_i d
    obtain ⟨hd, w2⟩ := w2
    obtain ⟨v, rfl, r⟩ := reps1 rs
    have := r.clean hd
    subst this
    split at w2
    · rename_i es he
      obtain ⟨a, vs, B, rfl, hq, rs', _⟩ := rep_asL S1.sub r he
      refine ⟨a, vs, rfl, hq, k _ env1 _ F1 H1 [.ref a] [d] w2.2 eF eH (S1.clean r) ⟨rfl, fun F H A i e hs rr hi => ?_, fun F H A hs rr => ?_⟩⟩
      · cases rr with
        | cons r1 _ _ =>
          obtain ⟨a', vs', B', e1, hq', rs', _⟩ := rep_asL hs r1 he
          cases e1
          rw [enumD_get] at hi
          cases hx : es[i]? with
          | none => rw [hx] at hi; cases hi
          | some y =>
            rw [hx] at hi
            simp only [Option.map_some, Option.some.injEq, Nat.zero_add] at hi
            obtain ⟨x, C, hx', rx, _⟩ := rs'.get hx
            have cl := rx.clean (dirtys_false.mp w2.1 y (List.mem_of_getElem? hx))
            subst cl
            refine ⟨⟨vs', x, hq', hx'⟩, fun z H' yl => ?_⟩
            obtain ⟨T, x2, rfl, hT, rfl, f⟩ := yl
            have := f vs' hq'
            rw [hx'] at this; cases this
            refine ⟨Ex.new hT, ?_⟩
            rw [← hi]
            exact .tup upd_same (.cons (.int _) (.cons (rx.ex (Same.refl _) (Ex.new hT)) .nil rfl) rfl)
      · cases rr with
        | cons r1 _ _ =>
          obtain ⟨a', vs', B', e1, hq', rs', _⟩ := rep_asL hs r1 he
          cases e1
          exact ⟨vs', hq', by rw [enumD_len, rs'.length]; exact Nat.le_refl _⟩
    · exact w2.elim
  · exact w2.elim
/-- zip of two lists -/
def zipD : List D → List D → List D
  | d :: ds, e :: es => .tup [d, e] :: zipD ds es
  | _, _ => []
theorem zipD_get : ∀ (ds es : List D) (i : Nat) (z : D), (zipD ds es)[i]? = some z → ∃ d e, ds[i]? = some d ∧ es[i]? = some e ∧ z = .tup [d, e]
  | [], _, i, z, h => by simp [zipD] at h
  | d :: ds, [], i, z, h => by simp [zipD] at h
  | d :: ds, e :: es, 0, z, h => by simp [zipD] at h; exact ⟨d, e, rfl, rfl, h.symm⟩
  | d :: ds, e :: es, i + 1, z, h => by
    simp only [zipD, List.getElem?_cons_succ] at h ⊢
    exact zipD_get ds es i z h
theorem zipD_len : ∀ (ds es : List D), (zipD ds es).length = min ds.length es.length
  | [], _ => by simp [zipD]
  | d :: ds, [] => by simp [zipD]
  | d :: ds, e :: es => by simp [zipD, zipD_len ds es]
def itsZ (w : WA) : WI := fun px env Q => w px env fun ds env1 => match ds with
  | [d, e] => dirty d = false ∧ dirty e = false ∧ (match asL d, asL e with
    | some xs, some ys => dirtys xs = false ∧ dirtys ys = false ∧ Q (zipD xs ys) env1
    | _, _ => False)
  | _ => False
theorem simI_Z {K : KW} {E : EX} {w : WA} {t : TA} (h : SimA K E w t) : SimI K E (itsZ w) (iZip K t) := by
  intro px F0 H0 F H σ env pv pd L S Q' R w1 k
  refine h px F0 H0 F H σ env pv pd L S _ _ w1 fun ds env1 vs F1 H1 A w2 eF eH rs S1 => ?_
  unfold itsZ at w1
  split at w2
  · rename_i d e
    obtain ⟨hd, he, w2⟩ := w2
    obtain ⟨v, u, B, C, rfl, r1, r2⟩ := reps2 rs
    have := r1.clean hd
    subst this
    have := r2.clean he
    subst this
    split at w2
    · rename_i xs ys hx hy
      obtain ⟨a, vs, B, rfl, hq, rs1, _⟩ := rep_asL S1.sub r1 hx
      obtain ⟨b, ws, C, rfl, hq2, rs2, _⟩ := rep_asL S1.sub r2 hy
      refine ⟨a, b, vs, ws, rfl, hq, hq2, k _ env1 _ F1 H1 [.ref a, .ref b] [d, e] w2.2.2 eF eH ((S1.clean r2).clean r1) ⟨rfl, fun F H A i z hs rr hi => ?_, fun F H A hs rr => ?_⟩⟩
      · obtain ⟨va, vb, B1, C1, ev, q1, q2⟩ := reps2 rr
        cases ev
        obtain ⟨a', vs', _, e1, hqa, rsa, _⟩ := rep_asL hs q1 hx
        cases e1
        obtain ⟨b', ws', _, e2, hqb, rsb, _⟩ := rep_asL hs q2 hy
        cases e2
        obtain ⟨dx, dy, g1, g2, rfl⟩ := zipD_get _ _ _ _ hi
        obtain ⟨x, Cx', hx', rx, _⟩ := rsa.get g1
        obtain ⟨y, Cy', hy', ry, _⟩ := rsb.get g2
        have c1 := rx.clean (dirtys_false.mp w2.1 dx (List.mem_of_getElem? g1))
        subst c1
        have c2 := ry.clean (dirtys_false.mp w2.2.1 dy (List.mem_of_getElem? g2))
        subst c2
        refine ⟨⟨vs', ws', x, y, hqa, hqb, hx', hy'⟩, fun z H' yl => ?_⟩
        obtain ⟨T, x2, y2, rfl, hT, rfl, f1, f2⟩ := yl
        have := f1 vs' hqa
        rw [hx'] at this; cases this
        have := f2 ws' hqb
        rw [hy'] at this; cases this
        exact ⟨Ex.new hT, .tup upd_same (.cons (rx.ex (Same.refl _) (Ex.new hT)) (.cons (ry.ex (Same.refl _) (Ex.new hT)) .nil rfl) rfl)⟩
      · obtain ⟨va, vb, B1, C1, ev, q1, q2⟩ := reps2 rr
        cases ev
        obtain ⟨a', vs', _, e1, hqa, rsa, _⟩ := rep_asL hs q1 hx
        cases e1
        obtain ⟨b', ws', _, e2, hqb, rsb, _⟩ := rep_asL hs q2 hy
        cases e2
        refine ⟨vs', ws', hqa, hqb, ?_⟩
        rw [zipD_len, rsa.length, rsb.length]
        omega
    · exact w2.elim
  · exact w2.elim
/-- reversed of a list -/
def itsR (w : WA) : WI := fun px env Q => w px env fun ds env1 => match ds with
  | [d] => dirty d = false ∧ (match asL d with
    | some es => dirtys es = false ∧ Q es.reverse env1
    | none => False)
  | _ => False
theorem simI_R {K : KW} {E : EX} {w : WA} {t : TA} (h : SimA K E w t) : SimI K E (itsR w) (iRev K t) := by
  intro px F0 H0 F H σ env pv pd L S Q' R w1 k
  refine h px F0 H0 F H σ env pv pd L S _ _ w1 fun ds env1 vs F1 H1 A w2 eF eH rs S1 => ?_
  unfold itsR at w1
  split at w2
  · rename_i d
    obtain ⟨hd, w2⟩ := w2
    obtain ⟨v, rfl, r⟩ := reps1 rs
    have := r.clean hd
    subst this
    split at w2
    · rename_i es he
      obtain ⟨a, vs, B, rfl, hq, rs', _⟩ := rep_asL S1.sub r he
      have hlen := rs'.length
      refine ⟨a, vs, rfl, hq, k _ env1 _ F1 H1 [.ref a] [d] w2.2 eF eH (S1.clean r) ⟨rfl, fun F H A i e hs rr hi => ?_, fun F H A hs rr => ?_⟩⟩
      · cases rr with
        | cons r1 _ _ =>
          obtain ⟨a', vs', B', e1, hq', rs2, _⟩ := rep_asL hs r1 he
          cases e1
          have hi2 : i < es.length := by
            have := (List.getElem?_eq_some_iff.mp hi).1
            simpa using this
          rw [List.getElem?_reverse (by omega)] at hi
          obtain ⟨x, C, hx', rx, _⟩ := rs2.get hi
          have cl := rx.clean (dirtys_false.mp w2.1 e (List.mem_of_getElem? hi))
          subst cl
          rw [hlen]
          refine ⟨⟨hi2, vs', x, hq', hx'⟩, fun z H' yl => ?_⟩
          obtain ⟨e2, f⟩ := yl
          subst e2
          have := f vs' hq'
          rw [hx'] at this; cases this
          exact ⟨Same.refl _, rx⟩
      · show _ ≤ _
        rw [List.length_reverse, hlen]
        exact Nat.le_refl _
    · exact w2.elim
  · exact w2.elim
/-- a text, sign by sign -/
def signsD (x : Str) : List D := x.cps.toList.map fun c => .str ⟨#[c]⟩
def itsS (w : WE) : WI := fun px env Q => w px env fun d _ env1 => match d with
  | .str x => Q (signsD x) env1
  | _ => False
theorem simI_S {K : KW} {E : EX} {w : WE} {t : TE} (h : Sim K E w t) : SimI K E (itsS w) (iStr t) := by
  intro px F0 H0 F H σ env pv pd L S Q' R w1 k
  refine h px F0 H0 F H σ env pv pd L S _ _ w1 fun d b env1 v F1 H1 w2 eF eH R1 => ?_
  obtain ⟨⟨A, r⟩, S1⟩ := R1.forget
  cases d with
  | str x =>
    refine ⟨x, rep_str r, k _ env1 _ F1 H1 [] [] w2 eF eH S1 ⟨rfl, fun F H A i e hs rr hi => ?_, fun F H A hs rr => ?_⟩⟩
    · simp only [signsD, List.getElem?_map] at hi
      cases hc : x.cps.toList[i]? with
      | none => rw [hc] at hi; cases hi
      | some c =>
        rw [hc] at hi
        simp only [Option.map_some, Option.some.injEq] at hi
        subst hi
        have hc' : x.cps[i]? = some c := by rw [← Array.getElem?_toList]; exact hc
        have hi2 : i < x.cps.size := (Array.getElem?_eq_some_iff.mp hc').1
        refine ⟨hi2, fun z H' yl => ?_⟩
        obtain ⟨e2, c', hc2, rfl⟩ := yl
        subst e2
        rw [hc'] at hc2; cases hc2
        exact ⟨Same.refl _, .str _⟩
    · show _ ≤ _
      simp [signsD]
  | _ => exact w2.elim
section
variable {X : Cx} {E : EX} {e e2 e3 : Expr} {elts : List Expr} {w : WE} {wa : WA} {p pos tpos : Pos} {kk : Nat} {tg : Expr}
theorem n_3 (hg : Gl X "range") (hm : X.mg "range" = none) (h : DA X E [e, e2, e3] wa) (hs : starEach [e, e2, e3] X.env = (false, eval e X.env) :: starEach [e2, e3] X.env := by rfl) (hpl : (backTo pos (starEach [e2, e3] X.env)).any (·.1) = false := by rfl) : DI X E tg (.Call (.Name "range" p) [e, e2, e3] [] pos) (its3 wa) := by
  obtain ⟨t, pp, s⟩ := h.ex
  exact ⟨_, pi_range3 hg hm pp hs hpl, simI_3 s⟩
theorem n_E (hg : Gl X "enumerate") (hm : X.mg "enumerate" = none) (h : DA X E [e] wa) (hs : starEach [e] X.env = [(false, eval e X.env)] := by rfl) : DI X E (.Tuple elts kk tpos) (.Call (.Name "enumerate" p) [e] [] pos) (itsE wa) := by
  obtain ⟨t, pp, s⟩ := h.ex
  exact ⟨_, pi_enum hg hm pp hs, simI_E s⟩
theorem n_Z (hg : Gl X "zip") (hm : X.mg "zip" = none) (h : DA X E [e, e2] wa) (hs : starEach [e, e2] X.env = (false, eval e X.env) :: starEach [e2] X.env := by rfl) (hpl : (backTo pos (starEach [e2] X.env)).any (·.1) = false := by rfl) : DI X E (.Tuple elts kk tpos) (.Call (.Name "zip" p) [e, e2] [] pos) (itsZ wa) := by
  obtain ⟨t, pp, s⟩ := h.ex
  exact ⟨_, pi_zip hg hm pp hs hpl, simI_Z s⟩
theorem n_R (hg : Gl X "reversed") (hm : X.mg "reversed" = none) (h : DA X E [e] wa) (hs : starEach [e] X.env = [(false, eval e X.env)] := by rfl) : DI X E tg (.Call (.Name "reversed" p) [e] [] pos) (itsR wa) := by
  obtain ⟨t, pp, s⟩ := h.ex
  exact ⟨_, pi_reversed hg hm pp hs, simI_R s⟩
theorem n_S (h : DE X E e w) : DI X E tg e (itsS w) := by
  obtain ⟨t, pp, s⟩ := h.ex
  exact ⟨_, pi_str pp, simI_S s⟩
end

/-! ### turned round -/
theorem rev_pick (x : Str) : ((Builtin.Str.strSliceIndices none none (-1) x.length).filterMap (x.cps[·]?)) = x.cps.toList.reverse := by
  unfold Builtin.Str.strSliceIndices sliceRange
  have hl : x.length = x.cps.toList.length := by simp [Str.length]
  simp only [show ¬ ((-1 : Int) > 0) by decide, if_false]
  have hc : (if (x.length : Int) - 1 > -1 then ((x.length : Int) - 1 - -1 - -1 - 1) / (- -1) else 0).toNat = x.length := by
    split <;> simp <;> omega
  rw [hc]
  apply List.ext_getElem?
  intro i
  rw [List.filterMap_map]
  have : ∀ n, (List.range n).filterMap ((fun a => x.cps[a]?) ∘ fun (k : Nat) => ((x.length : Int) - 1 + -1 * (k : Int)).toNat) = (List.range n).filterMap (fun k => x.cps.toList[x.length - 1 - k]?) := fun n => by
    congr 1
    funext k
    show x.cps[((x.length : Int) - 1 + -1 * (k : Int)).toNat]? = _
    rw [← Array.getElem?_toList]
    congr 1
    omega
  rw [this]
  have h2 : (List.range x.length).filterMap (fun k => x.cps.toList[x.length - 1 - k]?) = x.cps.toList.reverse := by
    apply List.ext_getElem?
    intro j
    have hall : ∀ m, m ≤ x.length → (List.range m).filterMap (fun k => x.cps.toList[x.length - 1 - k]?) = x.cps.toList.reverse.take m := by
      intro m
      induction m with
      | zero => intro _; simp
      | succ m ih =>
        intro hm
        rw [List.range_succ, List.filterMap_append, ih (by omega), List.take_add_one]
        congr 1
        rw [List.getElem?_reverse (by omega), ← hl]
        have : x.length - 1 - m < x.cps.toList.length := by omega
        have e2 : x.cps.toList[x.length - 1 - m]? = some (x.cps.toList[x.length - 1 - m]) := List.getElem?_eq_getElem this
        rw [e2]
        simp only [List.filterMap_cons, e2, List.filterMap_nil, Option.toList]
    rw [hall _ (Nat.le_refl _), hl, ← List.length_reverse, List.take_length]
  rw [h2]
def revS (x : Str) : Str := ⟨x.cps.toList.reverse.toArray⟩
def tRevS (te : TE) : TE := fun σ H Q => te σ H fun x H1 => ∃ z, x = .str z ∧ z.length ≤ sizeLine ∧ Q (.str (revS z)) H1
theorem pe_revS {X : Cx} {e : Expr} {te : TE} {k : Nat} {p1 p2 p3 pos : Pos} (he : PE X e te) : PE X (.Subscript e (.Slice none none (some (.UnaryOp .USub (.Constant (.int 1) k p1) p2)) p3) pos) (tRevS te) := by
  refine ⟨fun pins s σ H Q I h => ?_⟩
  refine Subscript_ (thn (he.run pins s σ H _ I h) fun v s1 ⟨x, H1, I1, r1, z, ex, hz, q⟩ => ?_)
  subst ex
  obtain ⟨t, rfl⟩ := r1
  have hst : PO X (some (.UnaryOp .USub (.Constant (.int 1) k p1) p2)) (tPart (tUn (rU fun i => .int (-i)) (tC (.int 1)))) := po_some (pe_un un_neg pe_int)
  refine wpAny_Slice (thn (po_none.run pins s1 σ H1 (fun o H2 => o = none ∧ H2 = H1) I1 ⟨rfl, rfl⟩) fun vl s2 ⟨l, H2, I2, pl, el, e2⟩ => ?_)
  subst el e2
  refine thn (po_none.run pins s2 σ H2 (fun o H3 => o = none ∧ H3 = H2) I2 ⟨rfl, rfl⟩) fun vu s3 ⟨u, H3, I3, pu, eu, e3⟩ => ?_
  subst eu e3
  refine thn (hst.run pins s3 σ H3 (fun o H4 => o = some (-1) ∧ H4 = H3) I3 ⟨1, rfl, -1, rfl, rfl, rfl⟩) fun vs s4 ⟨o, H4, I4, ps, eo, e4⟩ => ?_
  subst eo e4
  obtain ⟨l', rfl, hl'⟩ := IsPart.raw pl
  obtain ⟨u', rfl, hu'⟩ := IsPart.raw pu
  obtain ⟨s', rfl, hs'⟩ := IsPart.raw ps
  have el' : l' = none := by cases l' with | none => rfl | some p => cases hl'
  have eu' : u' = none := by cases u' with | none => rfl | some p => cases hu'
  subst el' eu'
  cases s' with
  | none => cases hs'
  | some p =>
    obtain ⟨n, tk⟩ := p
    have en : n = -1 := by
      have := hs'
      simp only [Option.map_some, Option.some.injEq] at this
      exact this
    subst en
    have I5 : Inv X pins σ H4 { s4 with heap := s4.heap.push { cls := .type "slice", data := .fields #[partValue none, partValue none, partValue (some (-1, tk))] } } := I4.kept (t' := s4.toks) fun b ob q => Heap.get?_push_of_some _ q
    show wpAny (model X.prog X.w) X.A (subscriptTail e (.Slice none none (some (.UnaryOp .USub (.Constant (.int 1) k p1) p2)) p3) (.str z t) (.ref s4.heap.objs.size)) (EP X pins σ Q) X.xe { s4 with heap := s4.heap.push { cls := .type "slice", data := .fields #[partValue none, partValue none, partValue (some (-1, tk))] } }
    refine tail_any (ops := [.ref s4.heap.objs.size, .str z t]) (typeIs_str _ _ _) F.slot_str_getitem.lookup ?_ (by with_unfolding_all rfl)
    refine wpAny_getItem_str_slice (l := none) (u := none) (st := some (-1, tk)) ⟨_, Heap.get?_push_size _ rfl, rfl, rfl⟩ rfl ?_
    show Made.post (Made.str ⟨((Builtin.Str.strSliceIndices none none (-1) z.length).filterMap (z.cps[·]?)).toArray⟩) (EP X pins σ Q) _
    rw [rev_pick]
    have hlen : (revS z).length ≤ sizeLine := by
      simp only [revS, Str.length, List.size_toArray, List.length_reverse, Array.length_toList]
      exact hz
    exact ⟨hlen, .str (revS z), H4, I5.tok _, ⟨_, rfl⟩, q⟩
/-- x[::-1], a text or a list -/
def gRev (d : D) (Q : D → Prop) : Prop := match d with
  | .str z => z.length ≤ 100000 ∧ Q (.str (revS z))
  | _ => False
def wRevS (w : WE) : WE := fun px env Q => w px env fun d _ env1 => match d with
  | .str z => z.length ≤ 100000 ∧ Q (.str (revS z)) false env1
  | _ => False
def wRevL (w : WE) : WE := fun px env Q => w px env fun d _ env1 => match asL d with
  | some ds => dirtys ds = false ∧ Q (.lst true ds.reverse) false env1
  | none => False
theorem d_revS {X : Cx} {E : EX} {e : Expr} {w : WE} {k : Nat} {p1 p2 p3 pos : Pos} (he : DE X E e w) : DE X E (.Subscript e (.Slice none none (some (.UnaryOp .USub (.Constant (.int 1) k p1) p2)) p3) pos) (wRevS w) := by
  obtain ⟨t, p, s⟩ := he.ex
  refine ⟨_, pe_revS p, fun px F0 H0 F H σ env pv pd L S Q' Q w k => ?_⟩
  refine s px F0 H0 F H σ env pv pd L S _ _ w fun d b env1 v F1 H1 w1 eF eH R => ?_
  obtain ⟨⟨A, r⟩, S1⟩ := R.forget
  cases d with
  | str z => exact ⟨z, rep_str r, le_line w1.1, k _ _ env1 _ F1 H1 w1.2 eF eH (S1.clean (.str _))⟩
  | _ => exact w1.elim
theorem reps_rev {K : KW} {F H : Hp} {vs : List V} {ds : List D} (r : Reps K F H vs ds []) : Reps K F H vs.reverse ds.reverse [] := by
  refine .of_clean (by simp [r.length]) fun i v d h1 h2 => ?_
  have hi : i < ds.length := by
    have := (List.getElem?_eq_some_iff.mp h2).1
    simpa using this
  rw [List.getElem?_reverse hi] at h2
  rw [List.getElem?_reverse (by rw [r.length]; exact hi), r.length] at h1
  exact r.clean_get h1 h2
theorem d_revL {X : Cx} {E : EX} {e : Expr} {w : WE} {k : Nat} {p1 p2 p3 pos : Pos} (he : DE X E e w) : DE X E (.Subscript e (.Slice none none (some (.UnaryOp .USub (.Constant (.int 1) k p1) p2)) p3) pos) (wRevL w) := by
  obtain ⟨t, p, s⟩ := he.ex
  refine ⟨_, pe_revL p, fun px F0 H0 F H σ env pv pd L S Q' Q w k => ?_⟩
  refine s px F0 H0 F H σ env pv pd L S _ _ w fun d b env1 v F1 H1 w1 eF eH R => ?_
  obtain ⟨⟨A, r⟩, S1⟩ := R.forget
  split at w1
  · rename_i ds hd
    obtain ⟨a, vs, B, rfl, hq, rs, _⟩ := rep_asL S1.sub r hd
    have c := rs.clean w1.1
    subst c
    refine ⟨a, vs, rfl, hq, fun p hp => k _ _ env1 _ F1 _ w1.2 eF (eH.trans (Ex.new hp)) (S1.push (Ex.new hp) (.own upd_same ((reps_rev rs).ex (Same.refl _) (Ex.new hp))) (by simp) (by simpa using hp))⟩
  · exact w1.elim
end Tm

set_option Elab.async false
set_option linter.all false
set_option maxRecDepth 100000
set_option maxHeartbeats 1000000
namespace Tm
open PySem PySem.Spec PyProof.Rows L2

/-! ### never reached; an item taken out of what is dropped -/
theorem s_never {X : Cx} {E : EX} {s : Stmt} : DS X E s wNever := ⟨tNever, ps_never, simS_never⟩
def atM (o : Option D) (Q : D → Prop) : Prop := match o with
  | some d => Q d
  | none => False
theorem atM_some {d : D} {Q : D → Prop} : atM (some d) Q = Q d := rfl
def gIxM : G2
  | .lst true ds, .int i, Q => atM (atI ds i) Q
  | _, _, _ => False
theorem gIxM_lst {ds : List D} {i : Int} {Q : D → Prop} : gIxM (.lst true ds) (.int i) Q = atM (atI ds i) Q := rfl
def wIxM (wa wb : WE) : WE := fun px env Q => wa px env fun a b env1 => b = false ∧ wb px env1 fun k _ env2 => gIxM a k fun d => Q d false env2
section
variable {K : KW} {F H : Hp}
theorem Reps.pick : ∀ {vs : List V} {ds : List D} {A : List Addr} {i : Nat} {d : D}, Reps K F H vs ds A → ds[i]? = some d → ∃ v B, vs[i]? = some v ∧ Rep K F H v d B ∧ B.Sublist A
  | _, _, _, 0, d, .cons h _ e, q => by
    simp at q; subst q
    exact ⟨_, _, rfl, h, by rw [e]; exact List.sublist_append_left _ _⟩
  | _, _, _, i + 1, d, .cons _ r e, q => by
    obtain ⟨v, B, h1, h2, h3⟩ := Reps.pick (i := i) (d := d) r (by simpa using q)
    exact ⟨v, B, by simpa using h1, h2, by rw [e]; exact h3.trans (List.sublist_append_right _ _)⟩
theorem reps_pickI {vs : List V} {ds : List D} {A : List Addr} {i : Int} {d : D} (r : Reps K F H vs ds A) (h : atI ds i = some d) : ∃ v B, atI vs i = some v ∧ Rep K F H v d B ∧ B.Sublist A := by
  unfold atI at h ⊢
  rw [r.length]
  cases e : ixN ds.length i with
  | none => rw [e] at h; cases h
  | some j =>
    rw [e] at h
    exact r.pick (show ds[j]? = some d from h)
end
theorem sim_ixM {K : KW} {E : EX} {wa wb : WE} {ta tb : TE} (ha : Sim K E wa ta) (hb : Sim K E wb tb) : Sim K E (wIxM wa wb) (tOp (rIx K) ta tb) := by
  intro px F0 H0 F H σ env pv pd L S Q' Q w k
  refine ha px F0 H0 F H σ env pv pd L S _ _ w fun a ba env1 x F1 H1 w1 eF1 eH1 R1 => ?_
  obtain ⟨hb0, w1⟩ := w1
  subst hb0
  have S1 : Sta K F0 H0 F1 H1 σ env1 (x :: pv) (a :: pd) := R1
  refine hb px F0 H0 F1 H1 σ env1 _ _ (L.push (qv := [_]) (qd := [_]) rfl) S1 _ _ w1 fun b bb env2 y F2 H2 w2 eF2 eH2 R2 => ?_
  obtain ⟨⟨B, ry⟩, S2⟩ := R2.forget
  unfold gIxM at w2
  split at w2
  · rename_i ds i
    obtain ⟨A0, B0, h1, h2, h3, h4⟩ := S2.own
    cases h2 with
    | cons r rr e =>
      rename_i A1 B1
      subst e
      cases r with
      | own q rs =>
        rename_i a vs A2
        rw [rep_int ry]
        cases hd : atI ds i with
        | none => rw [hd] at w2; exact w2.elim
        | some d =>
          rw [hd] at w2
          obtain ⟨v, C, e2, r2, sub⟩ := reps_pickI rs hd
          refine .inl ⟨a, vs, _, v, rfl, rfl, .inl (.inl q), e2, ?_⟩
          refine k d false env2 v F2 H2 w2 (eF1.trans eF2) (eH1.trans eH2) ?_
          have sub2 : (A0 ++ (C ++ B1)).Sublist (A0 ++ ((a :: A2) ++ B1)) := List.Sublist.append (List.Sublist.refl _) (List.Sublist.append (sub.trans (List.sublist_cons_self _ _)) (List.Sublist.refl _))
          exact ⟨S2.exF, S2.exH, S2.sub, S2.new, A0, C ++ B1, h1, .cons r2 rr rfl, List.Nodup.sublist sub2 h3, fun z hz => h4 z (sub2.subset hz)⟩
  · exact w2.elim
theorem d_ixM {X : Cx} {E : EX} {a b : Expr} {wa wb : WE} {pos : Pos} (ha : DE X E a wa) (hb : DE X E b wb) (hs : PlainIx b := by exact fun _ _ => rfl) : DE X E (.Subscript a b pos) (wIxM wa wb) := by
  obtain ⟨ta, pa, sa⟩ := ha.ex
  obtain ⟨tb, pb, sb⟩ := hb.ex
  exact ⟨_, pe_ix ix_seq pa pb hs, sim_ixM sa sb⟩

/-! ### what is new, frozen at once -/
def wFzE (w : WE) : WE := fun px env Q => w px env fun d b env1 => (b = false ∨ dirty d = false) ∧ Q (fz d) false env1
theorem Sta.frzHead {K : KW} {F0 H0 F H : Hp} {σ : L2.St} {env : Env} {pv : List V} {pd : List D} {v : V} {d : D} (S : Sta K F0 H0 F H σ env (v :: pv) (d :: pd)) : ∃ F', Ex F F' ∧ Sta K F0 H0 F' H σ env (v :: pv) (fz d :: pd) := by
  obtain ⟨A0, B, h1, h2, h3, h4⟩ := S.own
  cases h2 with
  | cons r rr e =>
    rename_i Ai B1
    subst e
    let F' : Hp := fun a => if a ∈ Ai then H a else F a
    have hF : Ex F F' := fun a o q => by
      show (if a ∈ Ai then H a else F a) = some o
      split
      · exact S.sub _ _ q
      · exact q
    have hA : ∀ a ∈ Ai, F' a = H a := fun a ha => if_pos ha
    refine ⟨F', hF, S.exF.trans hF, S.exH, fun a o q => ?_, fun a q => ?_, A0, [] ++ B1, h1.ex hF (Same.refl _), .cons (r.frozen hF hA) (rr.ex hF (Same.refl _)) rfl, ?_, fun a ha => ?_⟩
    · by_cases hm : a ∈ Ai
      · rw [hA a hm] at q; exact q
      · have : F' a = F a := if_neg hm
        rw [this] at q; exact S.sub _ _ q
    · by_cases hm : a ∈ Ai
      · exact .inr (h4 a (by simp [hm])).2
      · have : F' a = F a := if_neg hm
        rw [this] at q; exact S.new a q
    · rw [List.nil_append]
      exact List.Nodup.sublist (List.Sublist.append (List.Sublist.refl _) (List.sublist_append_right _ _)) h3
    · rw [List.nil_append] at ha
      have hm : a ∉ Ai := fun hm => by
        rw [List.nodup_append] at h3
        rcases List.mem_append.mp ha with ha | ha
        · exact h3.2.2 a ha a (List.mem_append_left _ hm) rfl
        · exact (List.nodup_append.mp h3.2.1).2.2 a hm a ha rfl
      have : F' a = F a := if_neg hm
      rw [this]
      exact h4 a (by
        simp only [List.mem_append] at ha ⊢
        rcases ha with ha | ha
        · exact .inl ha
        · exact .inr (.inr ha))
theorem sim_fzE {K : KW} {E : EX} {w : WE} {t : TE} (h : Sim K E w t) : Sim K E (wFzE w) t := by
  intro px F0 H0 F H σ env pv pd L S Q' Q w1 k
  refine h px F0 H0 F H σ env pv pd L S _ _ w1 fun d b env1 v F1 H1 w2 eF eH R => ?_
  obtain ⟨F', e', S'⟩ := (R.owned w2.1).frzHead
  exact k _ false env1 v F' H1 w2.2 (eF.trans e') eH S'
theorem d_fzE {X : Cx} {E : EX} {e : Expr} {w : WE} (h : DE X E e w) : DE X E e (wFzE w) := by
  obtain ⟨t, p, s⟩ := h.ex
  exact ⟨t, p, sim_fzE s⟩

/-! ### tuples of whole numbers, compared -/
def gLtT : G2
  | .tup ds, .tup es, Q => ∃ ns ms : List Int, ds = ns.map D.int ∧ es = ms.map D.int ∧ Q (.bl (HT.lexLt ns ms))
  | _, _, _ => False
theorem gLtT_is {ds es : List D} {Q : D → Prop} : gLtT (.tup ds) (.tup es) Q = ∃ ns ms : List Int, ds = ns.map D.int ∧ es = ms.map D.int ∧ Q (.bl (HT.lexLt ns ms)) := rfl
theorem opd_ltT {K : KW} : OpD K gLtT (rLtT K) := by
  intro F H x y dx dy A B Q' Q hs rx ry w k
  unfold gLtT at w
  split at w
  · obtain ⟨ns, ms, rfl, rfl, w⟩ := w
    obtain ⟨a, vs, rfl, h1, r1⟩ := rep_tup rx
    obtain ⟨b, us, rfl, h2, r2⟩ := rep_tup ry
    obtain ⟨rfl, rfl⟩ := r1.ints
    obtain ⟨rfl, rfl⟩ := r2.ints
    exact ⟨a, b, ns, ms, rfl, rfl, h1, h2, k.same w (.bl _)⟩
  · exact w.elim

/-! ### sum, max, min, any, all, sorted -/
def gSum : GC
  | [d], Q => ∃ ns : List Int, asL d = some (ns.map D.int) ∧ Q (.int ns.sum)
  | _, _ => False
def gMax : GC
  | [d], Q => ∃ ns : List Int, asL d = some (ns.map D.int) ∧ 0 < ns.length ∧ ∀ m, m ∈ ns → (∀ y, y ∈ ns → y ≤ m) → Q (.int m)
  | _, _ => False
def gMin : GC
  | [d], Q => ∃ ns : List Int, asL d = some (ns.map D.int) ∧ 0 < ns.length ∧ ∀ m, m ∈ ns → (∀ y, y ∈ ns → m ≤ y) → Q (.int m)
  | _, _ => False
def gAny : GC
  | [d], Q => ∃ bs : List Bool, asL d = some (bs.map D.bl) ∧ Q (.bl (bs.any id))
  | _, _ => False
def gAll : GC
  | [d], Q => ∃ bs : List Bool, asL d = some (bs.map D.bl) ∧ Q (.bl (bs.all id))
  | _, _ => False
def gSorted : GC
  | [d], Q => ∃ ns : List Int, asL d = some (ns.map D.int) ∧ ∀ ns' : List Int, ns'.Perm ns → ns'.Pairwise (· ≤ ·) → Q (.lst true (ns'.map D.int))
  | _, _ => False
section
variable {K : KW} {F H : Hp}
theorem rep_asL1 {v : V} {d : D} {ds : List D} {A : List Addr} (hs : Ex F H) (r : Rep K F H v d A) (h : asL d = some ds) : ∃ a vs B, v = .ref a ∧ SqL K H a vs ∧ Reps K F H vs ds B := by
  cases d with
  | lst o es =>
    cases h
    obtain ⟨a, vs, B, e, h1, r1⟩ := rep_lst hs r
    exact ⟨a, vs, B, e, .inl (.inl h1), r1⟩
  | seq es =>
    cases h
    cases r with
    | seq h1 r2 => exact ⟨_, _, _, rfl, Same.seq hs h1, r2⟩
  | _ => cases h
theorem Reps.bools : ∀ {vs : List V} {bs : List Bool} {A : List Addr}, Reps K F H vs (bs.map D.bl) A → vs = bs.map V.bl
  | _, [], _, .nil => rfl
  | _, b :: bs, _, .cons h r e => by
    have e1 := Reps.bools r
    cases h
    rw [e1]; rfl
theorem cd_sum : CallD K gSum (rSum K) := by
  intro F H xs ds A Q' Q hs r w k
  unfold gSum at w
  split at w
  · obtain ⟨ns, e, w⟩ := w
    obtain ⟨v, rfl, r1⟩ := reps1 r
    obtain ⟨a, vs, B, rfl, h1, r2⟩ := rep_asL1 hs r1 e
    obtain ⟨rfl, rfl⟩ := r2.ints
    exact ⟨a, ns, rfl, h1, k.same w (.int _)⟩
  · exact w.elim
theorem cd_max : CallD K gMax (rMax K) := by
  intro F H xs ds A Q' Q hs r w k
  unfold gMax at w
  split at w
  · obtain ⟨ns, e, hn, w⟩ := w
    obtain ⟨v, rfl, r1⟩ := reps1 r
    obtain ⟨a, vs, B, rfl, h1, r2⟩ := rep_asL1 hs r1 e
    obtain ⟨rfl, rfl⟩ := r2.ints
    exact ⟨a, ns, rfl, h1, hn, fun m h2 h3 => k.same (w m h2 h3) (.int _)⟩
  · exact w.elim
theorem cd_min : CallD K gMin (rMin K) := by
  intro F H xs ds A Q' Q hs r w k
  unfold gMin at w
  split at w
  · obtain ⟨ns, e, hn, w⟩ := w
    obtain ⟨v, rfl, r1⟩ := reps1 r
    obtain ⟨a, vs, B, rfl, h1, r2⟩ := rep_asL1 hs r1 e
    obtain ⟨rfl, rfl⟩ := r2.ints
    exact ⟨a, ns, rfl, h1, hn, fun m h2 h3 => k.same (w m h2 h3) (.int _)⟩
  · exact w.elim
theorem cd_any : CallD K gAny (rAny K) := by
  intro F H xs ds A Q' Q hs r w k
  unfold gAny at w
  split at w
  · obtain ⟨bs, e, w⟩ := w
    obtain ⟨v, rfl, r1⟩ := reps1 r
    obtain ⟨a, vs, B, rfl, h1, r2⟩ := rep_asL1 hs r1 e
    have := r2.bools
    subst this
    exact ⟨a, bs, rfl, h1, k.same w (.bl _)⟩
  · exact w.elim
theorem cd_all : CallD K gAll (rAll K) := by
  intro F H xs ds A Q' Q hs r w k
  unfold gAll at w
  split at w
  · obtain ⟨bs, e, w⟩ := w
    obtain ⟨v, rfl, r1⟩ := reps1 r
    obtain ⟨a, vs, B, rfl, h1, r2⟩ := rep_asL1 hs r1 e
    have := r2.bools
    subst this
    exact ⟨a, bs, rfl, h1, k.same w (.bl _)⟩
  · exact w.elim
theorem cd_sorted : CallD K gSorted (rSortedI K) := by
  intro F H xs ds A Q' Q hs r w k
  unfold gSorted at w
  split at w
  · obtain ⟨ns, e, w⟩ := w
    obtain ⟨v, rfl, r1⟩ := reps1 r
    obtain ⟨a, vs, B, rfl, h1, r2⟩ := rep_asL1 hs r1 e
    obtain ⟨rfl, rfl⟩ := r2.ints
    exact ⟨a, ns, rfl, h1, fun ns' p h2 h3 hp => k.lst (w ns' h2 h3) (Reps.of_ints ns') p hp⟩
  · exact w.elim
end

/-! ### a comprehension over a list that a name owns -/
def wLcV (i : Nat) (g : WG) (tt : WT) (te : WE) (vs : List Nat) : WE := fun _ env Q => match env[i]? with
  | some (some d) => match asL d with
    | some ds => dirtys ds = false ∧ lcW g tt te (wipeE (envF (env.set i none)) vs) (cleanE (env.set i none)) ds [] fun acc => Q (.lst true acc) false env
    | none => False
  | _ => False
theorem sim_lcV {K : KW} {E : EX} {i : Nat} {g : WG} {tt : WT} {te : WE} {vs : List Nat} {tg : TG} {t1 : TT} {t2 : TE} (hg : SimG K g tg) (hk : Keep vs tg) (hm : MonoG tg) (ht : SimT K EN tt t1) (he : Sim K EN te t2) :
    Sim K E (wLcV i g tt te vs) (tLc (iList K (tVar i)) tg t1 t2 vs) := by
  intro px F0 H0 F H σ env pv pd L S Q' Q w k
  unfold wLcV at w
  split at w
  · rename_i d e
    split at w
    · rename_i ds hd
      obtain ⟨w1, w2⟩ := w
      obtain ⟨A0, B, h1, h2, h3, h4⟩ := S.own
      obtain ⟨v, A1, Ai, A2, e2, e3, r, s, _⟩ := h1.at e
      subst e3
      have S1 : Sta K F0 H0 F H σ (env.set i none) ([v] ++ pv) ([d] ++ pd) := by
        refine ⟨S.exF, S.exH, S.sub, S.new, A1 ++ A2, Ai ++ B, s, .cons r h2 rfl, ?_, fun a ha => h4 a ?_⟩
        · refine (List.Perm.nodup_iff ?_).mp h3
          rw [List.append_assoc, List.append_assoc, List.append_assoc]
          refine List.Perm.append_left _ ?_
          rw [← List.append_assoc, ← List.append_assoc]
          exact List.Perm.append_right _ List.perm_append_comm
        · simp only [List.mem_append] at ha ⊢
          rcases ha with (ha | ha) | ha | ha
          · exact .inl (.inl (.inl ha))
          · exact .inl (.inr ha)
          · exact .inl (.inl (.inr ha))
          · exact .inr ha
      obtain ⟨a, vs', B', rfl, hq, rs, _⟩ := rep_asL S.sub r hd
      refine ⟨.ref a, e2, a, rfl, ⟨vs', hq⟩, fun D hD => ?_⟩
      refine lc_run (pv := pv) (pd := pd) (pvx := [.ref a]) (pdx := [d]) hg hk hm ht he S1 rfl (fun F H A i e _ hs rr he => ?_) (fun F H A _ hs rr => ?_) w2 hD fun acc F2 H2 w3 eF2 _ eH2 S2 => ?_
      · cases rr with
        | cons r1 _ _ =>
          obtain ⟨a', vs', B', e1, hq', rs', _⟩ := rep_asL hs r1 hd
          cases e1
          obtain ⟨x, C, hx, rx, _⟩ := rs'.get he
          refine ⟨⟨vs', x, hq', hx⟩, fun x' H' y => ?_⟩
          obtain ⟨e2, y⟩ := y
          subst e2
          have := y vs' hq'
          rw [hx] at this; cases this
          have cl := rx.clean (dirtys_false.mp w1 e (List.mem_of_getElem? he))
          subst cl
          exact ⟨Same.refl _, rx⟩
      · cases rr with
        | cons r1 _ _ =>
          obtain ⟨a', vs', B', e1, hq', rs', _⟩ := rep_asL hs r1 hd
          cases e1
          exact ⟨vs', hq', Nat.le_of_eq rs'.length⟩
      · refine k (.lst true acc) false env (.ref D) F2 H2 w3 eF2 eH2 ?_
        obtain ⟨C0, C1, g1, g2, g3, g4⟩ := S2.own
        cases g2 with
        | cons rD rr eC =>
          cases rr with
          | cons rv rp eC2 =>
            rename_i CD CR Cv Cp
            subst eC2
            subst eC
            have hi : i < (env.set i none).length := by
              rw [List.length_set]
              exact (List.getElem?_eq_some_iff.mp e).1
            obtain ⟨D1, D2, Di, eD, sl⟩ := g1.put hi rv
            have ev : σ.set i (some (.ref a)) = σ := by
              obtain ⟨hi, hv⟩ := List.getElem?_eq_some_iff.mp e2
              rw [← hv]; exact List.set_getElem_self hi
            have ee : (env.set i none).set i (some d) = env := by
              obtain ⟨hi, hv⟩ := List.getElem?_eq_some_iff.mp e
              rw [List.set_set, ← hv]; exact List.set_getElem_self hi
            rw [ev, ee] at sl
            subst eD
            have sub : ∀ z, z ∈ (D1 ++ Cv ++ D2) ++ (CD ++ Cp) → z ∈ (D1 ++ Di ++ D2) ++ (CD ++ (Cv ++ Cp)) := fun z hz => by
              simp only [List.mem_append] at hz ⊢
              rcases hz with ((hz | hz) | hz) | hz | hz
              · exact .inl (.inl (.inl hz))
              · exact .inr (.inr (.inl hz))
              · exact .inl (.inr hz)
              · exact .inr (.inl hz)
              · exact .inr (.inr (.inr hz))
            refine ⟨S2.exF, S2.exH, S2.sub, S2.new, D1 ++ Cv ++ D2, CD ++ Cp, sl, .cons rD rp rfl, ?_, fun z hz => g4 z (sub z hz)⟩
            have p1 : ((D1 ++ D2) ++ (CD ++ (Cv ++ Cp))).Nodup := by
              refine List.Nodup.sublist ?_ g3
              refine List.Sublist.append ?_ (List.Sublist.refl _)
              exact List.Sublist.append (List.sublist_append_left _ _) (List.Sublist.refl _)
            refine (List.Perm.nodup_iff ?_).mp p1
            exact List.perm_iff_count.mpr fun z => by simp only [List.count_append]; omega
    · exact w.elim
  · exact w.elim
section
variable {X : Cx} {E : EX} {tg elt c : Expr} {scope : Scope} {own : List (Str × Nat)} {pos : Pos} {g : TG} {wg : WG} {we : WE} {wc : WT} {x : Str} {xpos : Pos}
theorem d_lcV {i : Nat} (hc : X.calm = true) (hN : X.N.Nodup) (hx : X.N[i]? = some x) (hv : Vis X.env.scope x) (hxd : (x == ("__debug__" : Str)) = false) (hxc : (x == ("__classdict__" : Str)) = false) (ok : BlkOk X.N X.env.scope scope own)
    (hg : ∀ (s : Shared) (H : Hp) (C : Addr) (cl : List (Str × Addr)) (fp : List Addr), DC (X.blk s H scope (compEnvC scope cl C X.env) fp) (own.map (·.2)) tg g wg)
    (he : ∀ (s : Shared) (H : Hp) (C : Addr) (cl : List (Str × Addr)) (fp : List Addr), DE (X.blk s H scope (compEnvC scope cl C X.env) fp) EN elt we) (hs : ∀ y, foldedSetIterable (.Name x xpos) X.env y = pure y := by intro _; rfl) :
    DE X E (.ListComp elt [⟨tg, .Name x xpos, [], 0⟩] scope pos) (wLcV i wg wYes we (own.map (·.2))) := by
  refine ⟨_, pe_lc (te := tW X.kw EN we) hc hN (pi_list (pe_var hx hv hxd hxc)) ok (fun s H C cl fp => (hg s H C cl fp).p) (fun s H C cl fp => pts_nil) (fun s H C cl fp => (he s H C cl fp).canon) hs, ?_⟩
  have d := hg X.s_0 X.H_0 0 [] []
  exact sim_lcV d.s d.k d.m sim_yes sim_tW
theorem d_lcVIf {i : Nat} (hc : X.calm = true) (hN : X.N.Nodup) (hx : X.N[i]? = some x) (hv : Vis X.env.scope x) (hxd : (x == ("__debug__" : Str)) = false) (hxc : (x == ("__classdict__" : Str)) = false) (ok : BlkOk X.N X.env.scope scope own)
    (hg : ∀ (s : Shared) (H : Hp) (C : Addr) (cl : List (Str × Addr)) (fp : List Addr), DC (X.blk s H scope (compEnvC scope cl C X.env) fp) (own.map (·.2)) tg g wg)
    (ht : ∀ (s : Shared) (H : Hp) (C : Addr) (cl : List (Str × Addr)) (fp : List Addr), DT (X.blk s H scope (compEnvC scope cl C X.env) fp) EN c wc)
    (he : ∀ (s : Shared) (H : Hp) (C : Addr) (cl : List (Str × Addr)) (fp : List Addr), DE (X.blk s H scope (compEnvC scope cl C X.env) fp) EN elt we) (hs : ∀ y, foldedSetIterable (.Name x xpos) X.env y = pure y := by intro _; rfl) :
    DE X E (.ListComp elt [⟨tg, .Name x xpos, [c], 0⟩] scope pos) (wLcV i wg wc we (own.map (·.2))) := by
  refine ⟨_, pe_lc (te := tW X.kw EN we) (tt := ttW X.kw EN wc) hc hN (pi_list (pe_var hx hv hxd hxc)) ok (fun s H C cl fp => (hg s H C cl fp).p) (fun s H C cl fp => pts_one (ht s H C cl fp).canon) (fun s H C cl fp => (he s H C cl fp).canon) hs, ?_⟩
  have d := hg X.s_0 X.H_0 0 [] []
  exact sim_lcV d.s d.k d.m sim_ttW sim_tW
theorem s_setLcV {j i : Nat} {y : Str} {py spos : Pos} (hc : X.calm = true) (hN : X.N.Nodup) (hy : X.N[j]? = some y) (hyl : X.env.scope.names.lookup y = some .local)
    (hsw : swapsWith (.ListComp elt [⟨tg, .Name x xpos, [], 0⟩] scope pos) (some (.Name y py)) spos.line X.env = pure true) (hx : X.N[i]? = some x) (hv : Vis X.env.scope x) (hxd : (x == ("__debug__" : Str)) = false) (hxc : (x == ("__classdict__" : Str)) = false) (ok : BlkOk X.N X.env.scope scope own)
    (hg : ∀ (s : Shared) (H : Hp) (C : Addr) (cl : List (Str × Addr)) (fp : List Addr), DC (X.blk s H scope (compEnvC scope cl C X.env) fp) (own.map (·.2)) tg g wg)
    (he : ∀ (s : Shared) (H : Hp) (C : Addr) (cl : List (Str × Addr)) (fp : List Addr), DE (X.blk s H scope (compEnvC scope cl C X.env) fp) EN elt we) (hs : ∀ y, foldedSetIterable (.Name x xpos) X.env y = pure y := by intro _; rfl) :
    DS X E (.Assign [.Name y py] (.ListComp elt [⟨tg, .Name x xpos, [], 0⟩] scope pos) spos) (wAsg (wLcV i wg wYes we (own.map (·.2))) (gtName j)) := by
  refine ⟨_, ps_setLc (te := tW X.kw EN we) hc hN hy hyl hsw (pi_list (pe_var hx hv hxd hxc)) ok (fun s H C cl fp => (hg s H C cl fp).p) (fun s H C cl fp => pts_nil) (fun s H C cl fp => (he s H C cl fp).canon) hs, ?_⟩
  have d := hg X.s_0 X.H_0 0 [] []
  exact simS_asg (sim_lcV d.s d.k d.m sim_yes sim_tW) simG_name
theorem s_setLcVIf {j i : Nat} {y : Str} {py spos : Pos} (hc : X.calm = true) (hN : X.N.Nodup) (hy : X.N[j]? = some y) (hyl : X.env.scope.names.lookup y = some .local)
    (hsw : swapsWith (.ListComp elt [⟨tg, .Name x xpos, [c], 0⟩] scope pos) (some (.Name y py)) spos.line X.env = pure true) (hx : X.N[i]? = some x) (hv : Vis X.env.scope x) (hxd : (x == ("__debug__" : Str)) = false) (hxc : (x == ("__classdict__" : Str)) = false) (ok : BlkOk X.N X.env.scope scope own)
    (hg : ∀ (s : Shared) (H : Hp) (C : Addr) (cl : List (Str × Addr)) (fp : List Addr), DC (X.blk s H scope (compEnvC scope cl C X.env) fp) (own.map (·.2)) tg g wg)
    (ht : ∀ (s : Shared) (H : Hp) (C : Addr) (cl : List (Str × Addr)) (fp : List Addr), DT (X.blk s H scope (compEnvC scope cl C X.env) fp) EN c wc)
    (he : ∀ (s : Shared) (H : Hp) (C : Addr) (cl : List (Str × Addr)) (fp : List Addr), DE (X.blk s H scope (compEnvC scope cl C X.env) fp) EN elt we) (hs : ∀ y, foldedSetIterable (.Name x xpos) X.env y = pure y := by intro _; rfl) :
    DS X E (.Assign [.Name y py] (.ListComp elt [⟨tg, .Name x xpos, [c], 0⟩] scope pos) spos) (wAsg (wLcV i wg wc we (own.map (·.2))) (gtName j)) := by
  refine ⟨_, ps_setLc (te := tW X.kw EN we) (tt := ttW X.kw EN wc) hc hN hy hyl hsw (pi_list (pe_var hx hv hxd hxc)) ok (fun s H C cl fp => (hg s H C cl fp).p) (fun s H C cl fp => pts_one (ht s H C cl fp).canon) (fun s H C cl fp => (he s H C cl fp).canon) hs, ?_⟩
  have d := hg X.s_0 X.H_0 0 [] []
  exact simS_asg (sim_lcV d.s d.k d.m sim_ttW sim_tW) simG_name
end
end Tm

set_option Elab.async false
set_option linter.all false
set_option maxRecDepth 100000
set_option maxHeartbeats 1000000
namespace Tm
open PySem PySem.Spec PyProof.Rows L2

/-! ### == over data, plainly -/
mutual
/-- fit for ==, of at most this depth -/
def okd : D → Nat → Bool
  | .non, _ => true
  | .bl _, _ => true
  | .int _, _ => true
  | .str x, _ => PyData.strOk x
  | .tup ds, n => n != 0 && okds ds (n - 1)
  | .lst _ ds, n => n != 0 && okds ds (n - 1)
  | .seq ds, n => n != 0 && okds ds (n - 1)
  | .ref _, _ => false
  | .ty _, _ => false
  | .dct _ _ _, _ => false
  | .pin _ _, _ => false
  | .obj _ _ _ _, _ => false
  | .xd _ _ _ _, _ => false
def okds : List D → Nat → Bool
  | [], _ => true
  | d :: ds, n => okd d n && okds ds n
end
mutual
theorem okd_fit : ∀ (d : D) (n : Nat), okd d n = true → isPy d = true ∧ (py d).canLay0 = true ∧ (py d).depth ≤ n
  | .non, _, _ => ⟨rfl, rfl, Nat.zero_le _⟩
  | .bl _, _, _ => ⟨rfl, rfl, Nat.zero_le _⟩
  | .int _, _, _ => ⟨rfl, rfl, Nat.zero_le _⟩
  | .str x, _, h => ⟨rfl, h, Nat.zero_le _⟩
  | .tup ds, n, h => by
    simp only [okd, Bool.and_eq_true, bne_iff_ne] at h
    obtain ⟨h1, h2, h3⟩ := okds_fit ds _ h.2
    refine ⟨by simpa [isPy] using h1, by simpa [py, PyData.canLay0] using h2, ?_⟩
    simp only [py, PyData.depth]; omega
  | .lst _ ds, n, h => by
    simp only [okd, Bool.and_eq_true, bne_iff_ne] at h
    obtain ⟨h1, h2, h3⟩ := okds_fit ds _ h.2
    refine ⟨by simpa [isPy] using h1, by simpa [py, PyData.canLay0] using h2, ?_⟩
    simp only [py, PyData.depth]; omega
  | .seq ds, n, h => by
    simp only [okd, Bool.and_eq_true, bne_iff_ne] at h
    obtain ⟨h1, h2, h3⟩ := okds_fit ds _ h.2
    refine ⟨by simpa [isPy] using h1, by simpa [py, PyData.canLay0] using h2, ?_⟩
    simp only [py, PyData.depth]; omega
  | .ref _, _, h => by simp [okd] at h
  | .ty _, _, h => by simp [okd] at h
  | .dct _ _ _, _, h => by simp [okd] at h
  | .pin _ _, _, h => by simp [okd] at h
  | .obj _ _ _ _, _, h => by simp [okd] at h
  | .xd _ _ _ _, _, h => by simp [okd] at h
theorem okds_fit : ∀ (ds : List D) (n : Nat), okds ds n = true → isPys ds = true ∧ PyData.canLayAll0 (pys ds) = true ∧ PyData.depthAll (pys ds) ≤ n
  | [], _, _ => ⟨rfl, rfl, Nat.zero_le _⟩
  | d :: ds, n, h => by
    simp only [okds, Bool.and_eq_true] at h
    obtain ⟨h1, h2, h3⟩ := okd_fit d n h.1
    obtain ⟨g1, g2, g3⟩ := okds_fit ds n h.2
    refine ⟨by simp [isPys, h1, g1], by simp [pys, PyData.canLayAll0, h2, g2], ?_⟩
    simp only [pys, PyData.depthAll]; omega
end
theorem shD_of {d : D} (n : Nat) (h : okd d n = true) (hn : n ≤ 64) : shD d = true := by
  obtain ⟨h1, h2, h3⟩ := okd_fit d n h
  unfold shD SeqAt.shaped
  rw [h1, h2, decide_eq_true (by omega)]; rfl
mutual
theorem okd_mono : ∀ (d : D) (n m : Nat), n ≤ m → okd d n = true → okd d m = true
  | .non, _, _, _, _ => rfl
  | .bl _, _, _, _, _ => rfl
  | .int _, _, _, _, _ => rfl
  | .str x, _, _, _, h => h
  | .tup ds, n, m, hm, h => by
    simp only [okd, Bool.and_eq_true, bne_iff_ne] at h ⊢
    exact ⟨by omega, okds_mono ds (n - 1) (m - 1) (by omega) h.2⟩
  | .lst _ ds, n, m, hm, h => by
    simp only [okd, Bool.and_eq_true, bne_iff_ne] at h ⊢
    exact ⟨by omega, okds_mono ds (n - 1) (m - 1) (by omega) h.2⟩
  | .seq ds, n, m, hm, h => by
    simp only [okd, Bool.and_eq_true, bne_iff_ne] at h ⊢
    exact ⟨by omega, okds_mono ds (n - 1) (m - 1) (by omega) h.2⟩
  | .ref _, _, _, _, h => by simp [okd] at h
  | .ty _, _, _, _, h => by simp [okd] at h
  | .dct _ _ _, _, _, _, h => by simp [okd] at h
  | .pin _ _, _, _, _, h => by simp [okd] at h
  | .obj _ _ _ _, _, _, _, h => by simp [okd] at h
  | .xd _ _ _ _, _, _, _, h => by simp [okd] at h
theorem okds_mono : ∀ (ds : List D) (n m : Nat), n ≤ m → okds ds n = true → okds ds m = true
  | [], _, _, _, _ => rfl
  | d :: ds, n, m, hm, h => by
    simp only [okds, Bool.and_eq_true] at h ⊢
    exact ⟨okd_mono d n m hm h.1, okds_mono ds n m hm h.2⟩
end
theorem okds_all {n : Nat} : ∀ {ds : List D}, okds ds n = true ↔ ∀ d ∈ ds, okd d n = true
  | [] => by simp [okds]
  | d :: ds => by simp [okds, okds_all (ds := ds)]
theorem okds_ints (ns : List Int) (n : Nat) : okds (ns.map D.int) n = true := okds_all.mpr fun d hd => by
  obtain ⟨i, _, rfl⟩ := List.mem_map.mp hd; rfl
mutual
/-- data, whoever owns it -/
def can : D → D
  | .tup ds => .tup (cans ds)
  | .lst _ ds => .lst false (cans ds)
  | .seq ds => .lst false (cans ds)
  | .non => .non
  | .bl b => .bl b
  | .int i => .int i
  | .str x => .str x
  | .ref a => .ref a
  | .ty n => .ty n
  | .dct o kd ds => .dct o kd ds
  | .pin a ds => .pin a ds
  | .obj o c ns ds => .obj o c ns ds
  | .xd o t ks ds => .xd o t ks ds
def cans : List D → List D
  | [] => []
  | d :: ds => can d :: cans ds
end
theorem cans_map : ∀ (ds : List D), cans ds = ds.map can
  | [] => rfl
  | d :: ds => by simp [cans, cans_map ds]
theorem cans_ints (ns : List Int) : cans (ns.map D.int) = ns.map D.int := by
  rw [cans_map, List.map_map]; rfl
theorem cans_app (a b : List D) : cans (a ++ b) = cans a ++ cans b := by simp [cans_map]
mutual
/-- no True, no False in it -/
def noB : D → Bool
  | .tup ds => noBs ds
  | .lst _ ds => noBs ds
  | .seq ds => noBs ds
  | .non => true
  | .int _ => true
  | .str _ => true
  | .bl _ => false
  | .ref _ => false
  | .ty _ => false
  | .dct _ _ _ => false
  | .pin _ _ => false
  | .obj _ _ _ _ => false
  | .xd _ _ _ _ => false
def noBs : List D → Bool
  | [] => true
  | d :: ds => noB d && noBs ds
end
theorem noBs_all : ∀ {ds : List D}, noBs ds = true ↔ ∀ d ∈ ds, noB d = true
  | [] => by simp [noBs]
  | d :: ds => by simp [noBs, noBs_all (ds := ds)]
theorem noBs_ints (ns : List Int) : noBs (ns.map D.int) = true := noBs_all.mpr fun d hd => by
  obtain ⟨i, _, rfl⟩ := List.mem_map.mp hd; rfl
mutual
theorem eqD_iff : ∀ (a b : D), noB a = true → noB b = true → (PyData.eqv (py a) (py b) = true ↔ can a = can b)
  | .non, b, ha, hb => by cases b <;> simp [py, PyData.eqv, can, noB] at ha hb ⊢
  | .int i, b, ha, hb => by cases b <;> simp [py, PyData.eqv, can, noB] at ha hb ⊢
  | .str i, b, ha, hb => by cases b <;> simp [py, PyData.eqv, can, noB] at ha hb ⊢
  | .tup ds, b, ha, hb => by
    have ih := eqDs_iff ds
    cases b <;> simp [py, PyData.eqv, can, noB] at ha hb ⊢
    exact ih _ ha hb
  | .lst o ds, b, ha, hb => by
    have ih := eqDs_iff ds
    cases b <;> simp [py, PyData.eqv, can, noB] at ha hb ⊢
    · exact ih _ ha hb
    · exact ih _ ha hb
  | .seq ds, b, ha, hb => by
    have ih := eqDs_iff ds
    cases b <;> simp [py, PyData.eqv, can, noB] at ha hb ⊢
    · exact ih _ ha hb
    · exact ih _ ha hb
  | .bl _, _, ha, _ => by simp [noB] at ha
  | .ref _, _, ha, _ => by simp [noB] at ha
  | .ty _, _, ha, _ => by simp [noB] at ha
  | .dct _ _ _, _, ha, _ => by simp [noB] at ha
  | .pin _ _, _, ha, _ => by simp [noB] at ha
  | .obj _ _ _ _, _, ha, _ => by simp [noB] at ha
  | .xd _ _ _ _, _, ha, _ => by simp [noB] at ha
theorem eqDs_iff : ∀ (a b : List D), noBs a = true → noBs b = true → (PyData.eqvAll (pys a) (pys b) = true ↔ cans a = cans b)
  | [], b, ha, hb => by cases b <;> simp [pys, PyData.eqvAll, cans]
  | d :: ds, b, ha, hb => by
    cases b with
    | nil => simp [pys, PyData.eqvAll, cans]
    | cons e es =>
      simp only [noBs, Bool.and_eq_true] at ha hb
      simp only [pys, PyData.eqvAll, cans, Bool.and_eq_true, List.cons.injEq]
      rw [eqD_iff d e ha.1 hb.1, eqDs_iff ds es ha.2 hb.2]
end
theorem eqD_true {a b : D} (ha : noB a = true) (hb : noB b = true) (h : can a = can b) : eqD a b = true := (eqD_iff a b ha hb).mpr h
theorem eqD_false {a b : D} (ha : noB a = true) (hb : noB b = true) (h : can a ≠ can b) : eqD a b = false := by
  cases e : eqD a b with
  | false => rfl
  | true => exact absurd ((eqD_iff a b ha hb).mp e) h
theorem eqD_dec {a b : D} {p : Prop} [Decidable p] (ha : noB a = true) (hb : noB b = true) (h : can a = can b ↔ p) : eqD a b = decide p := by
  by_cases hp : p
  · rw [decide_eq_true hp]; exact eqD_true ha hb (h.mpr hp)
  · rw [decide_eq_false hp]; exact eqD_false ha hb fun z => hp (h.mp z)
theorem ints_inj {ns ms : List Int} : ns.map D.int = ms.map D.int ↔ ns = ms :=
  ⟨fun h => List.map_inj_right (fun a b e => by cases e; rfl) |>.mp h, fun h => by rw [h]⟩
/-- == of two data fit for it -/
theorem eqK_of {a b : D} {Q : Bool → Prop} (hs : scEq a b = none) (ha : okd a 64 = true) (hb : okd b 64 = true) (q : Q (eqD a b)) : eqK (scEq a b) a b Q := by
  rw [hs, eqK_none]
  exact ⟨shD_of 64 ha (Nat.le_refl _), shD_of 64 hb (Nat.le_refl _), q⟩
end Tm

set_option Elab.async false
set_option linter.all false
set_option maxRecDepth 100000
set_option maxHeartbeats 1000000
namespace Tm
open PySem PySem.Spec PyProof.Rows L2

/-! ### plain lemmas -/
theorem cutD_to {xs : List D} {n : Nat} : cutD xs none (some (n : Int)) = xs.take n := by
  unfold cutD
  rw [HT.sIx_none, HT.sIx_nat, List.drop_zero, Nat.sub_zero]
  by_cases h : n ≤ xs.length
  · rw [Nat.min_eq_left h]
  · rw [Nat.min_eq_right (by omega), List.take_of_length_le (Nat.le_refl _), List.take_of_length_le (by omega)]
theorem cutD_from {xs : List D} {n : Nat} : cutD xs (some (n : Int)) none = xs.drop n := by
  unfold cutD
  rw [HT.sIx_none, HT.sIx_nat]
  by_cases h : n ≤ xs.length
  · rw [Nat.min_eq_left h, List.take_of_length_le (by simp)]
  · rw [Nat.min_eq_right (by omega), List.drop_of_length_le (Nat.le_refl _), List.drop_of_length_le (by omega), List.take_nil]
theorem cutD_mid {xs : List D} {n m : Nat} : cutD xs (some (n : Int)) (some (m : Int)) = (xs.drop n).take (m - n) := by
  unfold cutD
  rw [HT.sIx_nat, HT.sIx_nat]
  by_cases h : n ≤ xs.length
  · rw [Nat.min_eq_left h]
    by_cases h2 : m ≤ xs.length
    · rw [Nat.min_eq_left h2]
    · rw [Nat.min_eq_right (by omega), List.take_of_length_le (by simp), List.take_of_length_le (by simp; omega)]
  · rw [Nat.min_eq_right (by omega : xs.length ≤ n), List.drop_of_length_le (Nat.le_refl _), List.drop_of_length_le (by omega)]
    simp
theorem cutD_one {xs : List D} : cutD xs (some 1) none = xs.drop 1 := cutD_from (n := 1)
theorem atI_get {α : Type} {ds : List α} {k : Int} {j : Nat} {d : α} (e : k = (j : Int)) (h : ds[j]? = some d) : atI ds k = some d := by
  rw [e]; exact atI_nat h
theorem atI_lt {α : Type} {ds : List α} {k : Int} (h0 : 0 ≤ k) (h : k < ds.length) : atI ds k = some (ds[k.toNat]'(by omega)) := by
  have e : k = ((k.toNat : Nat) : Int) := by omega
  exact atI_get e (List.getElem?_eq_getElem (by omega))
theorem atI_last' {α : Type} {ds : List α} {d : α} (h : ds.getLast? = some d) : atI ds (-1) = some d := by
  have hl : ds ≠ [] := by intro z; rw [z] at h; cases h
  have hn : 0 < ds.length := List.length_pos_iff.mpr hl
  unfold atI
  have e : ixN ds.length (-1) = some (ds.length - 1) := by
    unfold ixN
    rw [if_neg (by omega), if_pos (by omega)]
    congr 1
    omega
  rw [e]
  rw [List.getLast?_eq_getElem?] at h
  exact h
theorem dirtys_mapI {α : Type} {f : α → D} (hf : ∀ a, dirty (f a) = false) (xs : List α) : dirtys (xs.map f) = false := dirtys_false.mpr fun d hd => by
  obtain ⟨a, _, rfl⟩ := List.mem_map.mp hd
  exact hf a
theorem fzs_mapI {α : Type} {f : α → D} (hf : ∀ a, fz (f a) = f a) (xs : List α) : fzs (xs.map f) = xs.map f := by
  rw [fzs_map, List.map_map]
  exact List.map_congr_left fun a _ => hf a
theorem cans_mapI {α : Type} {f : α → D} (hf : ∀ a, can (f a) = f a) (xs : List α) : cans (xs.map f) = xs.map f := by
  rw [cans_map, List.map_map]
  exact List.map_congr_left fun a _ => hf a
theorem noBs_mapI {α : Type} {f : α → D} (hf : ∀ a, noB (f a) = true) (xs : List α) : noBs (xs.map f) = true := noBs_all.mpr fun d hd => by
  obtain ⟨a, _, rfl⟩ := List.mem_map.mp hd
  exact hf a
theorem okds_mapI {α : Type} {f : α → D} {n : Nat} (xs : List α) (hf : ∀ a ∈ xs, okd (f a) n = true) : okds (xs.map f) n = true := okds_all.mpr fun d hd => by
  obtain ⟨a, ha, rfl⟩ := List.mem_map.mp hd
  exact hf a ha
theorem map_inj' {α : Type} {f : α → D} (hf : ∀ a b, f a = f b → a = b) {xs ys : List α} : xs.map f = ys.map f ↔ xs = ys :=
  ⟨fun h => (List.map_inj_right hf).mp h, fun h => by rw [h]⟩
theorem map_get {α : Type} {f : α → D} {xs : List α} {i : Nat} {d : D} (h : (xs.map f)[i]? = some d) : ∃ a, xs[i]? = some a ∧ d = f a := by
  rw [List.getElem?_map] at h
  cases e : xs[i]? with
  | none => rw [e] at h; cases h
  | some a => rw [e] at h; cases h; exact ⟨a, rfl, rfl⟩
theorem enum_get {α : Type} {f : α → D} {xs : List α} {i : Nat} {d : D} (h : (enumD 0 (xs.map f))[i]? = some d) : ∃ a, xs[i]? = some a ∧ d = .tup [.int (i : Int), f a] := by
  rw [enumD_get] at h
  cases e : (xs.map f)[i]? with
  | none => rw [e] at h; cases h
  | some x =>
    obtain ⟨a, ha, rfl⟩ := map_get e
    rw [e] at h; cases h
    exact ⟨a, ha, by rw [Nat.zero_add]⟩
theorem map_at {α : Type} {f : α → D} {xs : List α} {k : Int} {j : Nat} {a : α} (e : k = (j : Int)) (h : xs[j]? = some a) : atI (xs.map f) k = some (f a) := atI_get e (by rw [List.getElem?_map, h]; rfl)
theorem signs_get {w : Str} {i : Nat} {d : D} (h : (signsD w)[i]? = some d) : ∃ c, w.cps.toList[i]? = some c ∧ d = .str ⟨#[c]⟩ := by
  unfold signsD at h
  rw [List.getElem?_map] at h
  cases e : w.cps.toList[i]? with
  | none => rw [e] at h; cases h
  | some a => rw [e] at h; cases h; exact ⟨a, rfl, rfl⟩
theorem signs_len {w : Str} : (signsD w).length = w.cps.toList.length := by simp [signsD]
theorem inStr_one {c : Nat} {z : Str} : inStr ⟨#[c]⟩ z = decide (c ∈ z.cps.toList) := rfl
theorem str_len {w : Str} : w.cps.toList.length = w.length := by
  show w.cps.toList.length = w.cps.size
  simp
theorem str_app {v w : Str} : (v ++ w).cps.toList = v.cps.toList ++ w.cps.toList := Array.toList_append
/-- a comprehension's turns over data of one kind -/
theorem lcW_map {g : WG} {tt : WT} {te : WE} {env : Env} {cl : Bool} {α : Type} {Q : List D → Prop} (f : α → D) (keep : α → Bool) (h : α → D) : ∀ (xs : List α) (acc : List D), acc.length + xs.length ≤ 100000 →
    (∀ a ∈ xs, ∀ (Y : D → Prop) (N : Prop), (keep a = true → Y (h a)) → (keep a = false → N) → g (f a) env fun env2 => tt px0 env2 fun b env3 => if b = true then te px0 env3 fun y by_ _ => (by_ = false ∨ dirty y = false) ∧ (cl = true ∨ selfc y = true) ∧ Y y else N) →
    Q (acc ++ (xs.filter keep).map h) → lcW g tt te env cl (xs.map f) acc Q
  | [], acc, _, _, q => by simpa [lcW] using q
  | a :: xs, acc, hl, st, q => by
    have hl' : acc.length + (xs.length + 1) ≤ 100000 := hl
    refine st a List.mem_cons_self (fun y => acc.length ≤ 100000 ∧ lcW g tt te env cl (xs.map f) (acc ++ [y]) Q) (lcW g tt te env cl (xs.map f) acc Q) (fun k => ⟨by omega, ?_⟩) (fun k => ?_)
    · refine lcW_map f keep h xs _ (by simp; omega) (fun b hb => st b (List.mem_cons_of_mem _ hb)) ?_
      rw [List.filter_cons, if_pos k] at q
      simpa using q
    · refine lcW_map f keep h xs _ (by omega) (fun b hb => st b (List.mem_cons_of_mem _ hb)) ?_
      rw [List.filter_cons, if_neg (by simp [k])] at q
      exact q
theorem filter_yes {α : Type} {xs : List α} : xs.filter (fun _ => true) = xs := List.filter_eq_self.mpr fun _ _ => rfl

theorem eqD_ilst {o p : Bool} (k k' : List Int) : eqD (.lst o (k.map .int)) (.lst p (k'.map .int)) = decide (k = k') :=
  eqD_dec (noBs_ints k) (noBs_ints k') (by show D.lst false _ = D.lst false _ ↔ _; rw [D.lst.injEq, cans_ints, cans_ints, ints_inj]; simp)
theorem shD_ilst {o : Bool} (k : List Int) : shD (.lst o (k.map .int)) = true := shD_of 64 (by simp only [okd, okds_ints]; rfl) (by decide)
theorem shD_nil {o : Bool} : shD (.lst o []) = true := rfl
theorem eqD_nil {o p : Bool} {ds : List D} : eqD (.lst o ds) (.lst p []) = decide (ds = []) := by
  cases ds with
  | nil => rfl
  | cons d ds => rfl
theorem shD_slst {o : Bool} {α : Type} {f : α → Str} (xs : List α) (h : ∀ x ∈ xs, PyData.strOk (f x) = true) : shD (.lst o (xs.map fun x => .str (f x))) = true := shD_of 64 (by
  simp only [okd]
  rw [okds_mapI]
  · rfl
  · exact h) (by decide)

theorem envF_cons {x : Option D} {r : Env} : envF (x :: r) = x.map fz :: envF r := by cases x <;> rfl
theorem envF_nil : envF [] = [] := rfl

theorem ixN_lt {n a : Nat} (h : a < n) : ixN n (a : Int) = some a := by
  unfold ixN
  rw [if_pos (by omega), if_pos (by omega), Int.toNat_natCast]
theorem set_map {α : Type} {f : α → D} {xs : List α} {j : Nat} {a : α} {d : D} (h : d = f a) : (xs.map f).set j d = (xs.set j a).map f := by rw [List.map_set, h]

theorem selfcs_mapI {α : Type} {f : α → D} (hf : ∀ a, selfc (f a) = true) (xs : List α) : selfcs (xs.map f) = true := selfcs_true.mpr fun d hd => by
  obtain ⟨a, _, rfl⟩ := List.mem_map.mp hd
  exact hf a

end Tm

set_option Elab.async false
set_option linter.all false
set_option maxRecDepth 100000
set_option maxHeartbeats 1000000
namespace Tm
open PySem PySem.Spec PyProof.Rows L2

/-! ### enumerate(text) -/
/-- the i-th sign in a new pair -/
def ItS (x : Str) : It :=
  ⟨fun i _ => i < x.cps.size, fun i H v H' => ∃ T c, v = .ref T ∧ H T = none ∧ H' = upd H T (.tup [.int (i : Nat), .str ⟨#[c]⟩]) ∧ x.cps[i]? = some c, fun i _ => x.cps.size ≤ i⟩
theorem turn_enumS {P : Program} {w : World} {K : PySem.W.Frag} {elts : List Expr} {kk : Nat} {tpos : Pos} (x : Str) (t : Tok) (e it : Addr) :
    Turn P w K (.Tuple elts kk tpos) (ItS x) [e, it] e (fun i h => (∃ old, IsEnum h e it ((i : Nat) : Int) old) ∧ h.IsStrIter it (strIterType x) x t i ∧ e ≠ it ∧ i ≤ x.cps.size) where
  mem := by simp
  obj := fun i h st b hb => by
    obtain ⟨⟨old, he⟩, ⟨o, ho, hc, hd⟩, _⟩ := st
    have e' : b = e ∨ b = it := by simpa using hb
    rcases e' with z | z
    · rw [z]; exact ⟨_, he, fun v q => nomatch q⟩
    · rw [z]; exact ⟨o, ho, fun v q => by rw [hd] at q; cases q⟩
  keep := fun i h h' st k => let ⟨⟨old, he⟩, ⟨o, ho, r⟩, hne⟩ := st; ⟨⟨old, k e (by simp) _ he⟩, ⟨o, k it (by simp) o ho, r⟩, hne⟩
  item := by
    intro X hP hw hK hc i pins s σ H E I hf st hg
    subst hP hw hK
    obtain ⟨⟨old, he⟩, hit, hne, hle⟩ := st
    have hg : i < x.cps.size := hg
    have hel : e < s.heap.objs.size := Heap.lt_size he
    have hil : it < s.heap.objs.size := by obtain ⟨_, q, _⟩ := hit; exact Heap.lt_size q
    have key : wpAny (model X.prog X.w) X.A (pyNext (.ref e)) (fun r s1 => ∃ c u h' tk, x.cps[i]? = some c ∧ r = some (.ref s.heap.objs.size) ∧ s1 = { s with heap := h', toks := tk + 1 } ∧ IsEnumOut h' e it ((i : Int) + 1) (.str ⟨#[c]⟩ u) s.heap.objs.size ∧ h'.IsStrIter it (strIterType x) x t (i + 1) ∧
        h'.get? s.heap.objs.size = some { cls := .type "tuple", data := .seq #[.int i tk, .str ⟨#[c]⟩ u] } ∧ (∀ b o, b ≠ e → b ≠ it → s.heap.get? b = some o → h'.get? b = some o)) E s := by
      cases ha : x.cps.all (· < 128)
      · have ety : strIterType x = "str_iterator" := by simp [strIterType, ha]
        rw [ety] at hit ⊢
        refine wpAny_pyNext_enum_itemD (Draws.strWide (A := X.A.in1) (I.ok.hd hc) it x t) he hit hg hne (by simpa using hne) fun v h' tk hv ho st' hT hsz hk => ?_
        obtain ⟨c, u, hcx, rfl⟩ := hv
        exact ⟨c, u, h', tk, hcx, rfl, rfl, ho, st', hT, hk⟩
      · have ety : strIterType x = "str_ascii_iterator" := by simp [strIterType, ha]
        rw [ety] at hit ⊢
        refine wpAny_pyNext_enum_itemD (Draws.strAscii (A := X.A.in1) (I.ok.hd hc) it x t) he hit hg hne (by simpa using hne) fun v h' tk hv ho st' hT hsz hk => ?_
        obtain ⟨c, u, hcx, rfl⟩ := hv
        exact ⟨c, u, h', tk, hcx, rfl, rfl, ho, st', hT, hk⟩
    refine thn key fun r s1 ⟨c, u, h', tk, hcx, er, es, ho, hit', hT, hk⟩ => ?_
    subst er es
    refine ⟨_, rfl, wpAny_letOwnedTupleGo_enum (s := { s with heap := h', toks := tk + 1 }) ho fun h'' he' sb => ?_⟩
    have hT2 : h''.get? s.heap.objs.size = some { cls := .type "tuple", data := .seq #[.int i tk, .str ⟨#[c]⟩ u] } := (sb.2 _ (Nat.ne_of_gt hel)).trans hT
    have new : ObjOk X.prog X.w (upd H s.heap.objs.size (.tup [.int (i : Nat), .str ⟨#[c]⟩])) h'' s.heap.objs.size (.tup [.int (i : Nat), .str ⟨#[c]⟩]) :=
      ⟨by show 2 ≤ sizeLine; decide, [.int i tk, .str ⟨#[c]⟩ u], .cons ⟨_, rfl⟩ (.cons ⟨_, rfl⟩ .nil), ⟨_, hT2, rfl, _, rfl⟩⟩
    have I1 : Inv X pins σ (upd H s.heap.objs.size (.tup [.int (i : Nat), .str ⟨#[c]⟩])) { s with heap := h'', toks := tk + 1 } :=
      I.turnedNew (ch := [e, it]) (fun b ob hb q => (sb.2 b (fun z => hb (by simp [z]))).trans (hk b ob (fun z => hb (by simp [z])) (fun z => hb (by simp [z])) q)) hf (Nat.le_refl _) new
    refine ⟨.ref s.heap.objs.size, _, I1, rfl, ⟨_, c, rfl, I.hok.fresh (Nat.le_refl _), rfl, hcx⟩, ⟨⟨.str ⟨#[c]⟩ u, ?_⟩, ?_, hne, hg⟩, fun b hb => ?_⟩
    · have e1 : ((i + 1 : Nat) : Int) = (i : Int) + 1 := by omega
      rw [e1]; exact he'
    · obtain ⟨o, ho2, r⟩ := hit'
      exact ⟨o, (sb.2 it (Ne.symm hne)).trans ho2, r⟩
    · have hb' : b < s.heap.objs.size := by
        have e' : b = e ∨ b = it := by simpa using hb
        rcases e' with z | z
        · rw [z]; exact hel
        · rw [z]; exact hil
      rw [upd_ne (Nat.ne_of_lt hb')]
      exact (hf b hb).1
  done := by
    intro X hP hw hK hc i pins s σ H E I hf st hg
    subst hP hw hK
    obtain ⟨⟨old, he⟩, hit, hne, hle⟩ := st
    obtain ⟨f0, f1, f2, f3, f4, f5⟩ := hf it (by simp)
    have hg : x.cps.size ≤ i := hg
    have e0 : i = x.cps.size := Nat.le_antisymm hle hg
    subst e0
    cases ha : x.cps.all (· < 128)
    · have ety : strIterType x = "str_iterator" := by simp [strIterType, ha]
      rw [ety] at hit
      exact wpAny_pyNext_enum_endD (Draws.strWide (A := X.A.in1) (I.ok.hd hc) it x t) he hit fun h' eb => ⟨rfl, I.turned (t' := s.toks) (fun b o hb q => eb b o hb q) f0 f1 f3 f4 f5⟩
    · have ety : strIterType x = "str_ascii_iterator" := by simp [strIterType, ha]
      rw [ety] at hit
      exact wpAny_pyNext_enum_endD (Draws.strAscii (A := X.A.in1) (I.ok.hd hc) it x t) he hit fun h' eb => ⟨rfl, I.turned (t' := s.toks) (fun b o hb q => eb b o hb q) f0 f1 f3 f4 f5⟩
  self := fun A i s Q E st h => let ⟨⟨_, he⟩, _⟩ := st; wpAny_pyIter_enum he h
def iEnumS (ta : TA) : TI := fun σ H R => ta σ H fun vs H1 => ∃ x, vs = [.str x] ∧ R (ItS x) H1
theorem pi_enumS {X : Cx} {e : Expr} {ta : TA} {p pos tpos : Pos} {elts : List Expr} {kk : Nat} (hg : Gl X "enumerate") (hm : X.mg "enumerate" = none) (ha : PA X [e] ta) (hs : starEach [e] X.env = [(false, eval e X.env)] := by rfl) :
    PI X (.Tuple elts kk tpos) (.Call (.Name "enumerate" p) [e] [] pos) (iEnumS ta) := by
  refine ⟨fun pins s σ H R I h => ?_⟩
  refine Call_ (ld_blt I hg hm PyProof.Rows.boot_enumerate (PyProof.Rows.callWith_type1 (thn (ha.run pos pins s σ H _ I h) fun us s1 ⟨vs, H1, I1, r1, q1⟩ => ?_) hs rfl))
  obtain ⟨x, ex, q⟩ := q1
  subst ex
  cases r1 with
  | cons r rr =>
    cases rr
    obtain ⟨t, rfl⟩ := r
    refine call_enumerate_str fun h' he hit hsz hk => wpAny_pyIter_enum he ?_
    have I2 : Inv X pins σ H1 { s1 with heap := h' } := I1.kept (t' := s1.toks) hk
    refine ⟨s1.heap.objs.size + 1, [s1.heap.objs.size + 1, s1.heap.objs.size], _, _, H1, rfl, I2, turn_enumS x t (s1.heap.objs.size + 1) s1.heap.objs.size, ⟨⟨.none, he⟩, hit, Nat.succ_ne_self _, Nat.zero_le _⟩, fun b hb => ?_, q⟩
    have e' : b = s1.heap.objs.size + 1 ∨ b = s1.heap.objs.size := by simpa using hb
    have hle : s1.heap.objs.size ≤ b := by
      rcases e' with z | z
      · rw [z]; exact Nat.le_add_right _ _
      · rw [z]; exact Nat.le_refl _
    exact I1.fpOk hle (I1.hok.fresh hle)
def itsES (w : WA) : WI := fun px env Q => w px env fun ds env1 => match ds with
  | [.str x] => Q (enumD 0 (signsD x)) env1
  | _ => False
theorem simI_ES {K : KW} {E : EX} {w : WA} {t : TA} (h : SimA K E w t) : SimI K E (itsES w) (iEnumS t) := by
  intro px F0 H0 F H σ env pv pd L S Q' R w1 k
  refine h px F0 H0 F H σ env pv pd L S _ _ w1 fun ds env1 vs F1 H1 A w2 eF eH rs S1 => ?_
  unfold itsES at w1
  split at w2
  · rename_i x
    obtain ⟨v, rfl, r⟩ := reps1 rs
    rw [rep_str r]
    have hsz : (enumD 0 (signsD x)).length = x.cps.size := by rw [enumD_len]; simp [signsD]
    refine ⟨x, rfl, k _ env1 _ F1 H1 [] [] w2 eF eH S1 ⟨rfl, fun F H A i e hs rr hi => ?_, fun F H A hs rr => ?_⟩⟩
    · rw [enumD_get] at hi
      cases hx : (signsD x)[i]? with
      | none => rw [hx] at hi; cases hi
      | some y =>
        rw [hx] at hi
        simp only [Option.map_some, Option.some.injEq, Nat.zero_add] at hi
        obtain ⟨c, hc, rfl⟩ := signs_get hx
        have hlt : i < x.cps.size := by
          have := (List.getElem?_eq_some_iff.mp hc).1
          simpa using this
        refine ⟨hlt, fun z H' yl => ?_⟩
        obtain ⟨T, c2, rfl, hT, rfl, f⟩ := yl
        have ec : c = c2 := by
          rw [Array.getElem?_toList] at hc
          rw [hc] at f; cases f; rfl
        subst ec
        refine ⟨Ex.new hT, ?_⟩
        rw [← hi]
        exact .tup upd_same (.cons (.int _) (.cons (.str _) .nil rfl) rfl)
    · show x.cps.size ≤ _
      rw [hsz]; exact Nat.le_refl _
  · exact w2.elim
theorem n_ES {X : Cx} {E : EX} {elts : List Expr} {kk : Nat} {tpos : Pos} {e : Expr} {wa : WA} {p pos : Pos} (hg : Gl X "enumerate") (hm : X.mg "enumerate" = none) (h : DA X E [e] wa) (hs : starEach [e] X.env = [(false, eval e X.env)] := by rfl) : DI X E (.Tuple elts kk tpos) (.Call (.Name "enumerate" p) [e] [] pos) (itsES wa) := by
  obtain ⟨t, p, s⟩ := h.ex
  exact ⟨_, pi_enumS hg hm p hs, simI_ES s⟩

/-! ### a text's own methods -/
def isStr : D → Bool
  | .str _ => true
  | _ => false
def wM1 (g : G2) (wa wb : WE) : WE := fun px env Q => wa px env fun a _ env1 => isStr a = true ∧ wb px env1 fun b _ env2 => g a b fun d => Q d false env2
def wM0 (g : G1) (wa : WE) : WE := fun px env Q => wa px env fun a _ env1 => isStr a = true ∧ g a fun d => Q d false env1
def M1D (K : KW) (g : G2) (r : V → List V → Hp → VK → Prop) : Prop := ∀ (F H : Hp) (x y : V) (dx dy : D) (A B : List Addr) (Q' : D → Prop) (Q : VK), Ex F H → Rep K F H x dx A → Rep K F H y dy B → g dx dy Q' → Ends1 K F H Q' Q → r x [y] H Q
def M0D (K : KW) (g : G1) (r : V → List V → Hp → VK → Prop) : Prop := ∀ (F H : Hp) (x : V) (dx : D) (A : List Addr) (Q' : D → Prop) (Q : VK), Ex F H → Rep K F H x dx A → g dx Q' → Ends1 K F H Q' Q → r x [] H Q
theorem sim_m1 {K : KW} {E : EX} {g : G2} {r : V → List V → Hp → VK → Prop} {wa wb : WE} {ta tb : TE} (h : M1D K g r) (ha : Sim K E wa ta) (hb : Sim K E wb tb) : Sim K E (wM1 g wa wb) (tM1 r ta tb) := by
  intro px F0 H0 F H σ env pv pd L S Q' Q w k
  refine ha px F0 H0 F H σ env pv pd L S _ _ w fun a ba env1 x F1 H1 w1 eF1 eH1 R1 => ?_
  obtain ⟨⟨A, rx⟩, S1⟩ := R1.forget
  obtain ⟨ws, w1⟩ := w1
  refine ⟨?_, hb px F0 H0 F1 H1 σ env1 pv pd L S1 _ _ w1 fun b bb env2 y F2 H2 w2 eF2 eH2 R2 => ?_⟩
  · cases a with
    | str z => exact ⟨z, rep_str rx⟩
    | _ => cases ws
  obtain ⟨⟨B, ry⟩, S2⟩ := R2.forget
  refine h F2 H2 x y a b A B _ _ S2.sub (rx.ex eF2 eH2) ry w2 fun d v H' C q e r hn hC => ?_
  exact k d false env2 v F2 H' q (eF1.trans eF2) ((eH1.trans eH2).trans e) (S2.push e r hn hC)
def gJoin : G2
  | .str a, d, Q => ∃ ys : List Str, asL d = some (ys.map D.str) ∧ (ys.map (·.length)).sum + ys.length * a.length ≤ 16777216 ∧ Q (.str (Txt.join a ys))
  | _, _, _ => False
theorem gJoin_str {a : Str} {d : D} {Q : D → Prop} : gJoin (.str a) d Q = ∃ ys : List Str, asL d = some (ys.map D.str) ∧ (ys.map (·.length)).sum + ys.length * a.length ≤ 16777216 ∧ Q (.str (Txt.join a ys)) := rfl
theorem Reps.strs {K : KW} {F H : Hp} : ∀ {vs : List V} {ys : List Str} {A : List Addr}, Reps K F H vs (ys.map D.str) A → vs = ys.map V.str
  | _, [], _, .nil => rfl
  | _, y :: ys, _, .cons h r e => by
    have e1 := Reps.strs r
    cases h
    rw [e1]; rfl
theorem m1d_join {K : KW} : M1D K gJoin (fun x xs H Q => ∃ a p, ∃ ys : List Str, x = .str a ∧ xs = [.ref p] ∧ (SqL K H p (ys.map V.str) ∨ SqT K H p (ys.map V.str)) ∧ (ys.map (·.length)).sum + ys.length * a.length ≤ 16777216 ∧ Q (.str (Txt.join a ys)) H) := by
  intro F H x y dx dy A B Q' Q hs rx ry w k
  cases dx with
  | str a =>
    obtain ⟨ys, e, hl, w⟩ := w
    rw [rep_str rx]
    obtain ⟨p, vs, C, rfl, hq, rs⟩ := rep_asL1 hs ry e
    have := rs.strs
    subst this
    exact ⟨a, p, ys, rfl, rfl, .inl hq, hl, k.same w (.str _)⟩
  | _ => exact w.elim
theorem d_join {X : Cx} {E : EX} {o e : Expr} {wo we : WE} {apos pos : Pos} (ho : DE X E o wo) (he : DE X E e we) (hs : starEach [e] X.env = [(false, eval e X.env)] := by rfl) (hbase : attributeBase o "join" X.env (eval o X.env) = eval o X.env := by rfl) (hline : (apos.endLine == pos.line) = true := by rfl) :
    DE X E (.Call (.Attribute o "join" apos) [e] [] pos) (wM1 gJoin wo we) := by
  obtain ⟨to, po, so⟩ := ho.ex
  obtain ⟨te, pe, se⟩ := he.ex
  exact ⟨_, pe_join po pe hs hbase hline, sim_m1 m1d_join so se⟩
end Tm

set_option Elab.async false
set_option linter.all false
set_option maxRecDepth 100000
set_option maxHeartbeats 1000000
/-! errors: raise, try .. except, what leaves a def -/
namespace Tm
open PySem PySem.Spec PyProof.Rows L2
abbrev exOf (W : WX) : EX := fun σ cls d H => W cls d σ H
/-- a class of errors -/
structure ErrC (K : PySem.W.Frag) (mg : Str → Option Value) (n : Str) (C : Addr) : Prop where
  m : mg n = some (.ref C)
  n : PySem.W.nsIn K mainGlobals n = some (some (.ref C))
  x : PySem.W.excIn K C [.type "ValueError", .type "Exception", .type "BaseException", .type "object"] "ValueError.__new__" = true
  k : PySem.W.keepIn K (.ref C) = true
  s : PySem.W.subIn K (.ref C) (.type "BaseException") = some true
  t : PySem.W.typeIn K (.ref C) = some (.type "type")
  d : PySem.W.hasDictIn K C = true
theorem passF {X : Cx} : ∀ σ, PassesAt (L2.CX X.prog X.w) X σ fun _ _ _ => False := fun _ _ _ _ _ _ _ h => by
  obtain ⟨_, _, _, _, _, _, _, _, _, _, _, _, z⟩ := h
  exact z.elim
theorem boot_ve : bootBuiltins "ValueError" = some (.type "ValueError") := by decide +kernel
def wRaise (n : Str) : WS := fun _ px env => px n env
section
variable {X : Cx} {W : WX}
theorem s_raise {n m : Str} {C : Addr} {j : Nat} {p p2 pos pos' : Pos} (hc : X.calm = true) (tk : Takes X W) (T : ErrC X.K X.mg n C) (hg : Gl X n) (hdb : (n == ("__debug__" : Str)) = false := by decide) :
    DS X (exOf W) (.Raise (some (.Call (.Name n p) [.Constant (.str m) j p2] [] pos)) none pos') (wRaise n) := by
  refine ⟨_, ps_raise hc tk (pmk_own PySem.F.excBase_ValueError T.x T.m T.k (raises_own T.s T.t) hg hdb), ?_⟩
  intro px F0 H0 F H σ env pv pd L S P D w k
  exact L n _ σ env F H [] [] T.n w rfl S
end
/-- the canonical reading of statements -/
def tS (K : KW) (E : EX) (w : WS) : TS := fun D σ H => ∃ (px : PX) (F0 H0 F : Hp) (env : Env) (pv : List V) (pd : List Tm.D) (P : PEnds), LinkX K F0 H0 px E pv pd ∧ Sta K F0 H0 F H σ env pv pd ∧ w P px env ∧ LinkD K F0 H0 pv pd P D
theorem DSs.canon {X : Cx} {E : EX} {s : List Stmt} {w : WS} (h : DSs X E s w) : PSs X s (tS X.kw E w) := by
  obtain ⟨t, p, sm⟩ := h.ex
  refine ⟨fun pins sh σ H D I q => p.run pins sh σ H D I ?_⟩
  obtain ⟨px, F0, H0, F, env, pv, pd, P, L, S, w1, k⟩ := q
  exact sm px F0 H0 F H σ env pv pd L S P D w1 k
theorem Slots.wipe {K : KW} {F H : Hp} : ∀ {σ : L2.St} {env : Env} {A : List Addr} (i : Nat), Slots K F H σ env A → ∃ B, Slots K F H (σ.set i none) (env.set i none) B ∧ B.Sublist A
  | _, _, _, _, .nil => ⟨[], .nil, List.Sublist.refl _⟩
  | _, _, _, 0, .skip r => ⟨_, .skip r, List.Sublist.refl _⟩
  | _, _, _, 0, .cons h r e => ⟨_, .skip r, by rw [e]; exact List.sublist_append_right _ _⟩
  | _, _, _, i + 1, .skip r => by
    obtain ⟨B, q, s⟩ := Slots.wipe i r
    exact ⟨B, .skip q, s⟩
  | _, _, _, i + 1, .cons (A := A) h r e => by
    obtain ⟨B, q, s⟩ := Slots.wipe i r
    exact ⟨A ++ B, .cons h q rfl, by rw [e]; exact List.Sublist.append (List.Sublist.refl _) s⟩
theorem Sta.wipe {K : KW} {F0 H0 F H : Hp} {σ : L2.St} {env : Env} {pv : List V} {pd : List D} (i : Nat) (S : Sta K F0 H0 F H σ env pv pd) : Sta K F0 H0 F H (σ.set i none) (env.set i none) pv pd := by
  obtain ⟨A, B, h1, h2, h3, h4⟩ := S.own
  obtain ⟨C, q, s⟩ := h1.wipe i
  have sub := List.Sublist.append s (List.Sublist.refl B)
  exact ⟨S.exF, S.exH, S.sub, S.new, C, B, q, h2, h3.sublist sub, fun a ha => h4 a (sub.subset ha)⟩
def PEnds.gone (P : PEnds) (i : Nat) : PEnds := { nx := fun env => P.nx (env.set i none), rt := P.rt, bk := fun env => P.bk (env.set i none), ct := fun env => P.ct (env.set i none) }
section
variable {P : PEnds} {i : Nat} {env : Env} {d : D}
theorem gone_nx : (P.gone i).nx env = P.nx (env.set i none) := rfl
theorem gone_rt : (P.gone i).rt = P.rt := rfl
theorem gone_bk : (P.gone i).bk env = P.bk (env.set i none) := rfl
theorem gone_ct : (P.gone i).ct env = P.ct (env.set i none) := rfl
end
/-- try: wb, except .. as slot i: ws; sub: the clause's class takes it -/
def wTry (ns : List Str) (sub : Str → Bool) (i : Nat) (wb : WS) (ws : Addr → Str → WS) : WS := fun P px env =>
  wb P (fun n env' => n ∈ ns ∧ if sub n = true then ∀ a, ws a n (P.gone i) px0 (env'.set i (some (.ref a))) else px n env') env
section
variable {X : Cx} {x y : Str} {c : Value} {i : Nat} {body suite : List Stmt} {b₀ : Stmt} {np pos pos' : Pos} {Wout : WX} {ns : List Str} {sub : Str → Bool} {wb : WS} {ws : Addr → Str → WS}
def tHd (K : KW) (ns : List Str) (ws : Addr → Str → WS) (a : Addr) (cls : Value) (d : Option Addr) : TS := fun D σ H => d = none ∧ ∃ n, n ∈ ns ∧ PySem.W.nsIn K mainGlobals n = some (some cls) ∧ tS K (fun _ _ _ _ => False) (ws a n) D σ H
theorem s_try (hs : X.stack = X.env :: X.outer) (hf : X.env.frame = some X.env.locals) (hN : X.N.Nodup) (hi : X.N[i]? = some y) (hln : X.env.kindOf y = some .local) (hc : Names X x c) (tk : Takes X Wout)
    (hex : ∀ n C, n ∈ ns → PySem.W.nsIn X.K mainGlobals n = some (some C) → PySem.W.exmOne X.K C c = some (sub n))
    (hb : ∀ (W : WX) (pn : List (Addr × Obj)) (xe : Value → Shared → Prop), Takes (X.tr pn xe) W → PassesOwn (model X.prog X.w) X.A X.env xe → DSs (X.tr pn xe) (exOf W) body wb)
    (hsu : ∀ (a : Addr) (oe : Obj) (n : Str) (C : Value) (pn : List (Addr × Obj)), n ∈ ns → PySem.W.nsIn X.K mainGlobals n = some (some C) → Zc C none oe → (∃ vs, oe.data = .fields vs) → DSs (X.suite a ((a, oe) :: pn)) (fun _ _ _ _ => False) (b₀ :: suite) (ws a n)) :
    DS X (exOf Wout) (.Try body [.ExceptHandler (some (.Name x np)) (some y) (b₀ :: suite) pos'] [] [] pos) (wTry ns sub i wb ws) := by
  have hb' : ∀ (W : WX) (pn : List (Addr × Obj)) (xe : Value → Shared → Prop), Takes (X.tr pn xe) W → PassesOwn (model X.prog X.w) X.A X.env xe → PSs (X.tr pn xe) body ((fun W => tS X.kw (exOf W) wb) W) := fun W pn xe t po => (hb W pn xe t po).canon
  have hsu' : ∀ (a : Addr) (oe : Obj) (cls : Value) (d : Option Addr) (pn : List (Addr × Obj)), Zc cls d oe → (∃ vs, oe.data = .fields vs) → PSs (X.suite a ((a, oe) :: pn)) (b₀ :: suite) (tHd X.kw ns ws a cls d) := fun a oe cls d pn hz hv => by
    refine ⟨fun pins sh σ H D I q => ?_⟩
    obtain ⟨rfl, n, hn, hC, q⟩ := q
    exact (hsu a oe n cls pn hn hC hz hv).canon.run pins sh σ H D I q
  refine ⟨_, ps_try_as hs hf hN hi hln hc tk hb' hsu', ?_⟩
  intro px F0 H0 F H σ env pv pd L S P D w k
  refine ⟨_, F0, H0, F, env, pv, pd, P, fun n C σ' env' F' H' pvx pdx hn h hl S' => ?_, S, w, k⟩
  have S2 := Sta.drops hl S'
  obtain ⟨hm, h⟩ := h
  refine ⟨sub n, hex n C hm hn, fun e a ha => ?_, fun e => ?_⟩
  · rw [if_pos e] at h
    refine ⟨rfl, n, hm, hn, px0, F0, H0, F', _, pv, pd, P.gone i, link0, (S2.clean (.ref a)).store, h a, ⟨fun σ6 env6 F6 H6 q S6 => k.nx _ _ _ _ q (S6.wipe i), k.rt, fun σ6 env6 F6 H6 q S6 => k.bk _ _ _ _ q (S6.wipe i), fun σ6 env6 F6 H6 q S6 => k.ct _ _ _ _ q (S6.wipe i)⟩⟩
  · rw [if_neg (by rw [e]; simp)] at h
    exact L n C σ' env' F' H' pvx pdx hn h hl S'
end
/-! ### isinstance in an except suite -/
def wIsE (i : Nat) (a : Addr) (b : Bool) : WE := fun _ env Q => match env[i]? with
  | some (some (.ref a')) => a' = a ∧ Q (.bl b) false env
  | _ => False
def rIsET (K : PySem.W.Frag) (D a : Addr) : List V → Hp → VK → Prop := fun xs H Q => ∃ (tp : Addr) (cs : List V) (us : List Value) (b : Bool), xs = [.ref a, .ref tp] ∧ H tp = some (.tup cs) ∧ Paired ClsV cs us ∧ PySem.W.kitAny K (.ref D) us = some b ∧ Q (.bl b) H
theorem call_isET {X : Cx} {a D : Addr} {oe : Obj} {pn : List (Addr × Obj)} (C : ExcC X.K D) (hz : Zc (.ref D) none oe) (hf : ∃ vs, oe.data = .fields vs) : CallR (X.suite a ((a, oe) :: pn)) (.builtin "isinstance") (rIsET X.K D a) := by
  intro pins s σ H xs us Q I r h
  obtain ⟨tp, cs, ws, b, rfl, hT, k, e, q⟩ := h
  cases r with
  | cons rx rr =>
    cases rr with
    | cons rt rr =>
      cases rr
      cases rx
      cases rt
      obtain ⟨hget, _⟩ := I.pin (a, oe) (List.mem_append.mpr (.inl List.mem_cons_self))
      obtain ⟨vs, hv⟩ := hf
      have J : PySem.W.InstAt s.heap a oe D none := by
        obtain ⟨oc, od, oda, osl⟩ := oe
        obtain ⟨h1, h2⟩ := hz
        dsimp only at h1 h2 hv
        subst h1 h2 hv
        exact ⟨hget, rfl, rfl, trivial⟩
      obtain ⟨_, its, rv, o, h1, h2, n, h3⟩ := (show ObjOk X.prog X.w H s.heap tp (.tup cs) from I.hok tp _ hT)
      have e3 := ClsV.all k rv
      subst e3
      obtain ⟨oc, od, dt, sl⟩ := o
      simp only at h2 h3
      subst h2 h3
      exact PySem.W.kia_tup (PySem.W.handS_kitx_exc C.hg C.hk C.hs C.hd C.ha C.hn C.ht C.hm) I.kIn J h1 e (fun z => nomatch z) fun tk => ⟨.bl b, H, I.kept (t' := tk) fun _ _ z => z, rfl, q⟩
/-- a class named: an own one, or a built-in one -/
inductive NmC (X : Cx) : Expr → Value → Prop where
  | own {x : Str} {C : Addr} {p : Pos} (hg : Gl X x) (hm : X.mg x = some (.ref C)) (hd : (x == ("__debug__" : Str)) = false := by decide) : NmC X (.Name x p) (.ref C)
  | ty {x : Str} {n : String} {p : Pos} (hg : Gl X x) (hm : X.mg x = none) (hv : bootBuiltins x = some (.type n)) (hn : x ≠ "__name__" := by decide) (hd : (x == ("__debug__" : Str)) = false := by decide) : NmC X (.Name x p) (.type n)
def vOf : Value → V
  | .ref C => .ref C
  | .type n => .ty n
  | _ => .non
theorem NmC.pe {X : Cx} {e : Expr} {u : Value} (h : NmC X e u) : PE X e (tC (vOf u)) := by
  cases h with
  | own hg hm hd => exact pe_glob (v := .ref _) hg hm rfl hd
  | ty hg hm hv hn hd => exact pe_bltn (v := .ty _) hg hm hv rfl hn hd
theorem NmC.cls {X : Cx} {e : Expr} {u : Value} (h : NmC X e u) : ClsV (vOf u) u := by
  cases h with
  | own => exact .own _
  | ty => exact .ty _
inductive NmCs (X : Cx) : List Expr → List Value → Prop where
  | nil : NmCs X [] []
  | cons {e : Expr} {u : Value} {es : List Expr} {us : List Value} (h : NmC X e u) (r : NmCs X es us) (hs : starEach (e :: es) X.env = (false, eval e X.env) :: starEach es X.env := by rfl) : NmCs X (e :: es) (u :: us)
def tCs : List Value → TA
  | [] => tNil
  | u :: us => tCons (tC (vOf u)) (tCs us)
theorem NmCs.pa {X : Cx} {es : List Expr} {us : List Value} (h : NmCs X es us) : PA X es (tCs us) := by
  induction h with
  | nil => exact pa_nil
  | cons h r hs ih => exact pa_cons h.pe ih hs
theorem NmCs.cls {X : Cx} {es : List Expr} {us : List Value} (h : NmCs X es us) : Paired ClsV (us.map vOf) us := by
  induction h with
  | nil => exact .nil
  | cons h r hs ih => exact .cons h.cls ih
theorem tCs_is : ∀ (us : List Value) (σ : L2.St) (H : Hp) (Q : List V → Hp → Prop), Q (us.map vOf) H → tCs us σ H Q
  | [], σ, H, Q, h => h
  | u :: us, σ, H, Q, h => tCs_is us σ H _ h
theorem kitAnyC {K : PySem.W.Frag} {t c : Value} {cs : List Value} {b r : Bool} (h : PySem.W.kitOne K t c = some b) (hr : PySem.W.kitAny K t cs = some r) : PySem.W.kitAny K t (c :: cs) = some (b || r) := by
  unfold PySem.W.kitAny
  rw [h]
  cases b with
  | true => rfl
  | false => exact hr
theorem kitAny0 {K : PySem.W.Frag} {t : Value} : PySem.W.kitAny K t [] = some false := rfl
section
variable {X : Cx} {E : EX} {a D : Addr} {oe : Obj} {pn : List (Addr × Obj)} {i : Nat} {y : Str} {p q pos tpos : Pos} {c : Expr} {cs : List Expr} {u : Value} {us : List Value} {b : Bool} {kk : Nat}
theorem d_isE (C : ExcC X.K D) (hz : Zc (.ref D) none oe) (hf : ∃ vs, oe.data = .fields vs) (hk : PySem.W.kitOne X.K (.ref D) u = some b) (hc : NmC (X.suite a ((a, oe) :: pn)) c u) (hg : Gl X "isinstance") (hm : X.mg "isinstance" = none)
    (hN : X.N[i]? = some y := by rfl) (hv : Vis X.env.scope y := by first | exact Or.inl rfl | exact Or.inr (Or.inl rfl) | exact Or.inr (Or.inr rfl)) (hd : (y == ("__debug__" : Str)) = false := by decide) (hcd : (y == ("__classdict__" : Str)) = false := by decide)
    (hs1 : starEach [.Name y q, c] X.env = (false, eval (.Name y q) X.env) :: starEach [c] X.env := by rfl) (hs2 : starEach [c] X.env = (false, eval c X.env) :: starEach [] X.env := by rfl) (hpl : (backTo pos (starEach [c] X.env)).any (·.1) = false := by rfl) :
    DE (X.suite a ((a, oe) :: pn)) E (.Call (.Name "isinstance" p) [.Name y q, c] [] pos) (wIsE i a b) := by
  refine ⟨_, pe_callB (X := X.suite a ((a, oe) :: pn)) (call_isE C hz hf) hg hm PyProof.Rows.boot_isinstance (pa_cons (pe_var (i := i) hN hv hd hcd) (pa_cons hc.pe pa_nil hs2) hs1) (by decide) (by decide) hs1 hpl, ?_⟩
  intro px F0 H0 F H σ env pv pd L S Q' Q w k
  unfold wIsE at w
  split at w
  · rename_i a' e
    obtain ⟨rfl, w⟩ := w
    obtain ⟨v, A, e2, r⟩ := S.slot e
    cases r
    refine ⟨_, e2, vOf u, u, b, rfl, fun z hz => hc.cls.eq hz, hk, k (.bl b) false env (.bl b) F H w (Same.refl _) (Same.refl _) (S.clean (.bl b))⟩
  · exact w.elim
theorem d_isET (C : ExcC X.K D) (hz : Zc (.ref D) none oe) (hf : ∃ vs, oe.data = .fields vs) (hk : PySem.W.kitAny X.K (.ref D) us = some b) (hc : NmCs (X.suite a ((a, oe) :: pn)) cs us) (hg : Gl X "isinstance") (hm : X.mg "isinstance" = none) (hl : us.length ≤ 1000 := by simp)
    (hN : X.N[i]? = some y := by rfl) (hv : Vis X.env.scope y := by first | exact Or.inl rfl | exact Or.inr (Or.inl rfl) | exact Or.inr (Or.inr rfl)) (hd : (y == ("__debug__" : Str)) = false := by decide) (hcd : (y == ("__classdict__" : Str)) = false := by decide)
    (hs1 : starEach [.Name y q, .Tuple cs kk tpos] X.env = (false, eval (.Name y q) X.env) :: starEach [.Tuple cs kk tpos] X.env := by rfl) (hs2 : starEach [.Tuple cs kk tpos] X.env = (false, eval (.Tuple cs kk tpos) X.env) :: starEach [] X.env := by rfl) (hpl : (backTo pos (starEach [.Tuple cs kk tpos] X.env)).any (·.1) = false := by rfl) :
    DE (X.suite a ((a, oe) :: pn)) E (.Call (.Name "isinstance" p) [.Name y q, .Tuple cs kk tpos] [] pos) (wIsE i a b) := by
  refine ⟨_, pe_callB (X := X.suite a ((a, oe) :: pn)) (call_isET C hz hf) hg hm PyProof.Rows.boot_isinstance (pa_cons (pe_var (i := i) hN hv hd hcd) (pa_cons (pe_tup hc.pa) pa_nil hs2) hs1) (by decide) (by decide) hs1 hpl, ?_⟩
  intro px F0 H0 F H σ env pv pd L S Q' Q w k
  unfold wIsE at w
  split at w
  · rename_i a' e
    obtain ⟨rfl, w⟩ := w
    obtain ⟨v, A, e2, r⟩ := S.slot e
    cases r
    refine ⟨_, e2, ?_⟩
    refine tCs_is us σ H _ ⟨by rw [List.length_map]; exact le_line (by omega), fun p hp => ?_⟩
    refine ⟨p, us.map vOf, us, b, rfl, upd_same, hc.cls, hk, k (.bl b) false env (.bl b) F _ w (Same.refl _) (Ex.new hp) ((S.grow (Ex.new hp)).clean (.bl b))⟩
  · exact w.elim
end
/-! ### defs -/
section
variable {P : Program} {w : World} {K : KW} {mg : Str → Option Value} {base : Heap}
/-- THE RULE for a def that errors may leave -/
theorem okX {x qual : Str} {st : Stmt} {f : Addr} {fd : FuncData} {N ps : List Str} {k : Nat} {spec : SpecT} (F : Fun K x qual st f fd) (S : FnScope N ps (defScope st)) (len : ∀ ds px Q, spec ds px Q → ds.length = ps.length) {ws : WS}
    (body : ∀ (cdv : Value) (A : Around) (outer : List PySem.Env) (s : Shared) (H : Hp) (E : XK), Room k (A.deeper (envOfC qual (defScope st) s.heap.objs.size f cdv)) →
      Takes (cxOf (L2.CX P K.w) P K.w K mg base N qual (defScope st) f cdv A outer s H E) (fun cls d _ H => E cls d H) →
      PassesOwn (model P K.w) (cxOf (L2.CX P K.w) P K.w K mg base N qual (defScope st) f cdv A outer s H E).A (cxOf (L2.CX P K.w) P K.w K mg base N qual (defScope st) f cdv A outer s H E).env (cxOf (L2.CX P K.w) P K.w K mg base N qual (defScope st) f cdv A outer s H E).xe →
      DSs (cxOf (L2.CX P K.w) P K.w K mg base N qual (defScope st) f cdv A outer s H E) (exOf fun cls d _ H => E cls d H) (defBody st) ws)
    (pure : ∀ ds px Qd, spec ds px Qd → ws (PEnds.top Qd) px (start0 N.length ds)) : FnOk P K.w K mg base (L2.CX P K.w) (k + 1) f fd ps (spD K spec) := by
  refine F.okX S (spD_len len) fun cdv A outer s H vs Q E hr h => ?_
  obtain ⟨t, p, sim⟩ := (body cdv A outer s H E hr (takes_of rfl rfl rfl rfl) (passes_of rfl)).ex
  exact ⟨t, p, body_ok sim h pure⟩
/-- .. for a def that lets nothing out but tries -/
theorem okT {x qual : Str} {st : Stmt} {f : Addr} {fd : FuncData} {N ps : List Str} {k : Nat} {spec : SpecT} (F : Fun K x qual st f fd) (S : FnScope N ps (defScope st)) (len : ∀ ds px Q, spec ds px Q → ds.length = ps.length) {ws : WS}
    (body : ∀ (cdv : Value) (A : Around) (outer : List PySem.Env) (s : Shared) (H : Hp) (E : XK), Room k (A.deeper (envOfC qual (defScope st) s.heap.objs.size f cdv)) → DSs (cxOf CX0 P K.w K mg base N qual (defScope st) f cdv A outer s H E).nox (exOf fun _ _ _ _ => False) (defBody st) ws)
    (pure : ∀ ds px Qd, spec ds px Qd → ws (PEnds.top Qd) px0 (start0 N.length ds)) : FnOk P K.w K mg base CX0 (k + 1) f fd ps (spD K spec) := by
  refine F.ok S (spD_len len) fun cdv A outer s H vs Q E hr h => ?_
  obtain ⟨t, p, sim⟩ := (body cdv A outer s H E hr).ex
  exact ⟨t, p, body_ok0 sim h pure⟩
end
end Tm

set_option Elab.async false
set_option linter.all false
set_option maxRecDepth 100000
set_option maxHeartbeats 1000000
/-! sorted lists of pairs of whole numbers -/
namespace Tm
open PySem PySem.Spec PyProof.Rows L2
def pD (p : Int × Int) : D := .tup [.int p.1, .int p.2]
def lexLe (a b : Int × Int) : Prop := a.1 < b.1 ∨ (a.1 = b.1 ∧ a.2 ≤ b.2)
def gSortP : GC
  | [.lst _ ds], Q => ∃ ps : List (Int × Int), ds = ps.map pD ∧ ∀ ps' : List (Int × Int), ps'.Perm ps → ps'.Pairwise lexLe → Q (.lst true (ps'.map pD))
  | _, _ => False
theorem rep_pD {K : KW} {F H : Hp} {v : V} {p : Int × Int} {A : List Addr} (r : Rep K F H v (pD p) A) : A = [] ∧ ∃ t, v = .ref t ∧ H t = some (.tup [.int p.1, .int p.2]) := by
  have e := r.clean rfl
  subst e
  unfold pD at r
  cases r with
  | tup h rs =>
    cases rs with
    | cons r1 rs e1 =>
      cases rs with
      | cons r2 rs e2 =>
        cases rs
        rw [rep_int r1, rep_int r2] at h
        exact ⟨rfl, _, rfl, h⟩
theorem reps_pD {K : KW} {F H : Hp} : ∀ {vs : List V} {ps : List (Int × Int)} {A : List Addr}, Reps K F H vs (ps.map pD) A → A = [] ∧ vs.length = ps.length ∧ ∀ (i : Nat) v p, vs[i]? = some v → ps[i]? = some p → ∃ t, v = .ref t ∧ H t = some (.tup [.int p.1, .int p.2])
  | _, [], _, .nil => ⟨rfl, rfl, fun i v p h => by simp at h⟩
  | _, p :: ps, _, .cons h r e => by
    obtain ⟨e1, x⟩ := rep_pD h
    obtain ⟨e2, l, y⟩ := reps_pD r
    refine ⟨by rw [e, e1, e2]; rfl, by simp [l], fun i v q h1 h2 => ?_⟩
    cases i with
    | zero => simp at h1 h2; subst h1 h2; exact x
    | succ i => exact y i v q (by simpa using h1) (by simpa using h2)
open Classical in
noncomputable def pairAt (H : Hp) (v : V) : Int × Int := if h : ∃ p : Int × Int, ∃ t, v = .ref t ∧ H t = some (.tup [.int p.1, .int p.2]) then h.choose else (0, 0)
theorem pairAt_is {H : Hp} {v : V} {p : Int × Int} {t : Addr} (e : v = .ref t) (h : H t = some (.tup [.int p.1, .int p.2])) : pairAt H v = p := by
  unfold pairAt
  have hx : ∃ p : Int × Int, ∃ t, v = .ref t ∧ H t = some (.tup [.int p.1, .int p.2]) := ⟨p, t, e, h⟩
  rw [dif_pos hx]
  obtain ⟨t', e', h'⟩ := hx.choose_spec
  subst e
  cases e'
  rw [h] at h'
  simp only [Option.some.injEq, HO.tup.injEq, List.cons.injEq, V.int.injEq, and_true] at h'
  exact Prod.ext h'.1.symm h'.2.symm
theorem cd_sortP {K : KW} : CallD K gSortP (rSortedPO K) := by
  intro F H xs ds A Q' Q hs r w k
  unfold gSortP at w
  split at w
  · rename_i o ds
    obtain ⟨ps, rfl, w⟩ := w
    obtain ⟨v, rfl, r1⟩ := reps1 r
    obtain ⟨a, vs, B, rfl, h1, r2⟩ := rep_asL1 hs r1 rfl
    obtain ⟨rfl, hl, hv⟩ := reps_pD r2
    have hk : vs.map (pairAt H) = ps := by
      refine List.ext_getElem? fun i => ?_
      rw [List.getElem?_map]
      by_cases c : i < vs.length
      · rw [List.getElem?_eq_getElem c, List.getElem?_eq_getElem (by omega)]
        obtain ⟨t, e, h⟩ := hv i _ _ (List.getElem?_eq_getElem c) (List.getElem?_eq_getElem (by omega))
        exact congrArg some (pairAt_is e h)
      · rw [List.getElem?_eq_none (by omega), List.getElem?_eq_none (by omega)]; rfl
    have at_ : ∀ x ∈ vs, ∃ t, x = .ref t ∧ H t = some (.tup [.int (pairAt H x).1, .int (pairAt H x).2]) := fun x hx => by
      obtain ⟨i, hi, rfl⟩ := List.getElem_of_mem hx
      obtain ⟨t, e, h⟩ := hv i _ _ (List.getElem?_eq_getElem hi) (List.getElem?_eq_getElem (by omega : i < ps.length))
      exact ⟨t, e, by rw [pairAt_is e h]; exact h⟩
    refine ⟨a, vs, pairAt H, rfl, h1, at_, fun ys p hsd hst hp => ?_⟩
    have perm := hst.perm
    refine k.lst (w (ys.map (pairAt H)) ?_ ?_) ?_ p hp
    · rw [← hk]; exact perm.map _
    · refine List.pairwise_map.mpr (List.Pairwise.imp ?_ hsd)
      intro x y hxy
      have := SrtO.lexB_no.mp hxy
      unfold lexLe
      omega
    · refine Reps.of_clean (by simp) fun i v d e1 e2 => ?_
      rw [List.getElem?_map, List.getElem?_map, e1] at e2
      cases e2
      obtain ⟨t, e, h⟩ := at_ v (perm.mem_iff.mp (List.mem_of_getElem? e1))
      rw [e]
      rw [e] at h
      exact .tup h (.cons (.int _) (.cons (.int _) .nil rfl) rfl)
  · exact w.elim
end Tm

set_option Elab.async false
set_option linter.all false
set_option maxRecDepth 100000
set_option maxHeartbeats 1000000
/-! dicts: keys whole numbers and texts, or tuples of these; one owner, clean values -/
namespace Tm
open PySem PySem.Spec PyProof.Rows L2

/-! ### tables in plain words -/
def keyOf : D → Option L2.Key
  | .int i => some (.inl i)
  | .str x => some (.inr x)
  | _ => none
def keysOf : List D → Option (List L2.Key)
  | [] => some []
  | d :: ds => match keyOf d, keysOf ds with
    | some k, some ks => some (k :: ks)
    | _, _ => none
section
variable {κ : Type} [DecidableEq κ]
def lookD : List κ → List D → κ → Option D
  | k :: ks, d :: ds, j => if k = j then some d else lookD ks ds j
  | _, _, _ => none
def putKs (ks : List κ) (k : κ) : List κ := if k ∈ ks then ks else ks ++ [k]
def repDs : List κ → List D → κ → D → List D
  | k :: ks, e :: ds, j, d => (if k = j then d else e) :: repDs ks ds j d
  | _, ds, _, _ => ds
def putDs (ks : List κ) (ds : List D) (k : κ) (d : D) : List D := if k ∈ ks then repDs ks ds k d else ds ++ [d]
theorem repDs_len : ∀ (ks : List κ) (ds : List D) (k : κ) (d : D), (repDs ks ds k d).length = ds.length
  | [], ds, k, d => by simp [repDs]
  | _ :: _, [], k, d => by simp [repDs]
  | _ :: ks, _ :: ds, k, d => by simp [repDs, repDs_len ks ds k d]
theorem putKs_len (ks : List κ) (ds : List D) (k : κ) (d : D) (h : ks.length = ds.length) : (putKs ks k).length = (putDs ks ds k d).length := by
  unfold putKs putDs
  split
  · rw [repDs_len]; exact h
  · simp [h]
theorem putKs_le (ks : List κ) (k : κ) : (putKs ks k).length ≤ ks.length + 1 := by
  unfold putKs
  split
  · omega
  · simp
theorem lookD_none : ∀ {ks : List κ} {ds : List D} {k : κ}, k ∉ ks → lookD ks ds k = none
  | [], ds, k, _ => by cases ds <;> rfl
  | _ :: _, [], k, _ => rfl
  | j :: ks, d :: ds, k, h => by
    rw [lookD, if_neg (fun e => h (by simp [e]))]
    exact lookD_none fun z => h (List.mem_cons_of_mem _ z)
theorem lookD_some : ∀ {ks : List κ} {ds : List D} {k : κ}, ks.length = ds.length → k ∈ ks → ∃ d, lookD ks ds k = some d ∧ d ∈ ds
  | [], ds, k, _, h => by simp at h
  | _ :: _, [], k, h, _ => by simp at h
  | j :: ks, d :: ds, k, hl, h => by
    rw [lookD]
    by_cases c : j = k
    · exact ⟨d, if_pos c, List.mem_cons_self⟩
    · rw [if_neg c]
      obtain ⟨e, h1, h2⟩ := lookD_some (ks := ks) (ds := ds) (k := k) (by simpa using hl) (by
        rcases List.mem_cons.mp h with h | h
        · exact absurd h.symm c
        · exact h)
      exact ⟨e, h1, List.mem_cons_of_mem _ h2⟩
theorem lookD_iff {ks : List κ} {ds : List D} {k : κ} (hl : ks.length = ds.length) : (lookD ks ds k).isSome = decide (k ∈ ks) := by
  by_cases h : k ∈ ks
  · obtain ⟨d, e, _⟩ := lookD_some hl h
    rw [e, decide_eq_true h]; rfl
  · rw [lookD_none h, decide_eq_false h]; rfl
theorem lookD_rep : ∀ (ks : List κ) (ds : List D) (k j : κ) (d : D), lookD ks (repDs ks ds k d) j = if j = k then (lookD ks ds j).map fun _ => d else lookD ks ds j
  | [], ds, k, j, d => by
    have : lookD ([] : List κ) (repDs [] ds k d) j = none := by cases repDs [] ds k d <;> rfl
    rw [this]
    have e2 : lookD ([] : List κ) ds j = none := by cases ds <;> rfl
    rw [e2]; simp
  | _ :: _, [], k, j, d => by simp [repDs, lookD]
  | i :: ks, e :: ds, k, j, d => by
    rw [repDs, lookD, lookD, lookD_rep ks ds k j d]
    by_cases c : i = j
    · rw [if_pos c, if_pos c]
      by_cases c2 : j = k
      · rw [if_pos c2, if_pos (c.trans c2)]; rfl
      · rw [if_neg c2, if_neg (fun z => c2 (c.symm.trans z))]
    · rw [if_neg c, if_neg c]
theorem lookD_snoc : ∀ (ks : List κ) (ds : List D) (k j : κ) (d : D), ks.length = ds.length → k ∉ ks → lookD (ks ++ [k]) (ds ++ [d]) j = if j = k then some d else lookD ks ds j
  | [], [], k, j, d, _, _ => by
    show lookD [k] [d] j = _
    rw [lookD]
    by_cases c : k = j
    · rw [if_pos c, if_pos c.symm]
    · rw [if_neg c, if_neg (fun z => c z.symm)]
  | [], _ :: _, k, j, d, h, _ => by simp at h
  | _ :: _, [], k, j, d, h, _ => by simp at h
  | i :: ks, e :: ds, k, j, d, h, hn => by
    rw [List.cons_append, List.cons_append, lookD, lookD_snoc ks ds k j d (by simpa using h) (fun z => hn (List.mem_cons_of_mem _ z)), lookD]
    have ne : i ≠ k := fun z => hn (by rw [z]; exact List.mem_cons_self)
    by_cases c : i = j
    · rw [if_pos c, if_pos c, if_neg (fun z => ne (c.trans z))]
    · rw [if_neg c, if_neg c]
theorem lookD_put {ks : List κ} {ds : List D} {k : κ} {d : D} (h : ks.length = ds.length) (j : κ) : lookD (putKs ks k) (putDs ks ds k d) j = if j = k then some d else lookD ks ds j := by
  unfold putKs putDs
  by_cases c : k ∈ ks
  · rw [if_pos c, if_pos c, lookD_rep]
    by_cases e : j = k
    · rw [if_pos e, if_pos e]
      obtain ⟨x, hx, _⟩ := lookD_some h c
      rw [e, hx]; rfl
    · rw [if_neg e, if_neg e]
  · rw [if_neg c, if_neg c, lookD_snoc _ _ _ _ _ h c]
theorem repDs_dirty : ∀ (ks : List κ) (ds : List D) (k : κ) (d : D), dirtys ds = false → dirty d = false → dirtys (repDs ks ds k d) = false
  | [], ds, k, d, h, _ => by simpa [repDs] using h
  | _ :: _, [], k, d, h, _ => by simp [repDs, dirtys]
  | i :: ks, e :: ds, k, d, h, hd => by
    simp only [dirtys, Bool.or_eq_false_iff] at h
    rw [repDs, dirtys, repDs_dirty ks ds k d h.2 hd]
    split
    · rw [hd]; rfl
    · rw [h.1]; rfl
theorem putDs_dirty {ks : List κ} {ds : List D} {k : κ} {d : D} (h : dirtys ds = false) (hd : dirty d = false) : dirtys (putDs ks ds k d) = false := by
  unfold putDs
  split
  · exact repDs_dirty _ _ _ _ h hd
  · rw [dirtys_app, h]; simp [dirtys, hd]
end
/-- what stands at a key, where it may be a key of such a dict -/
def getK (kd : DKeys) (ds : List D) (y : D) : Option (Option D) := match kd, y with
  | .k ks, .int i => some (lookD ks ds (.inl i))
  | .k ks, .str x => some (lookD ks ds (.inr x))
  | .t ks, .tup es => (keysOf es).map fun k => lookD ks ds k
  | _, _ => none
theorem getK_int {ks : List L2.Key} {ds : List D} {i : Int} : getK (.k ks) ds (.int i) = some (lookD ks ds (.inl i)) := rfl
theorem getK_str {ks : List L2.Key} {ds : List D} {x : Str} : getK (.k ks) ds (.str x) = some (lookD ks ds (.inr x)) := rfl
theorem getK_tup {ks : List (List L2.Key)} {ds : List D} {es : List D} : getK (.t ks) ds (.tup es) = (keysOf es).map fun k => lookD ks ds k := rfl
def putK2 (kd : DKeys) (ds : List D) (y d : D) (Q : DKeys → List D → Prop) : Prop := match kd, y with
  | .k ks, .int i => Q (.k (putKs ks (.inl i))) (putDs ks ds (.inl i) d)
  | .k ks, .str x => Q (.k (putKs ks (.inr x))) (putDs ks ds (.inr x) d)
  | .t ks, .tup es => match keysOf es with
    | some k => Q (.t (putKs ks k)) (putDs ks ds k d)
    | none => False
  | _, _ => False
theorem putK2_int {ks : List L2.Key} {ds : List D} {i : Int} {d : D} {Q : DKeys → List D → Prop} : putK2 (.k ks) ds (.int i) d Q = Q (.k (putKs ks (.inl i))) (putDs ks ds (.inl i) d) := rfl
theorem putK2_str {ks : List L2.Key} {ds : List D} {i : Str} {d : D} {Q : DKeys → List D → Prop} : putK2 (.k ks) ds (.str i) d Q = Q (.k (putKs ks (.inr i))) (putDs ks ds (.inr i) d) := rfl
def tPut (o : Option (List L2.Key)) (ks : List (List L2.Key)) (ds : List D) (d : D) (Q : DKeys → List D → Prop) : Prop := match o with
  | some k => Q (.t (putKs ks k)) (putDs ks ds k d)
  | none => False
theorem putK2_tup {ks : List (List L2.Key)} {ds : List D} {es : List D} {d : D} {Q : DKeys → List D → Prop} : putK2 (.t ks) ds (.tup es) d Q = tPut (keysOf es) ks ds d Q := rfl
theorem tPut_some {k : List L2.Key} {ks : List (List L2.Key)} {ds : List D} {d : D} {Q : DKeys → List D → Prop} : tPut (some k) ks ds d Q = Q (.t (putKs ks k)) (putDs ks ds k d) := rfl

/-! ### what stands in the heap -/
section
variable {K : KW} {F H : Hp}
theorem rep_dct {v : V} {o : Bool} {kd : DKeys} {ds : List D} {A : List Addr} (hs : Ex F H) (r : Rep K F H v (.dct o kd ds) A) : ∃ a vs B, v = .ref a ∧ Rd H a (kd.ho vs) ∧ kd.len = vs.length ∧ Reps K F H vs ds B := by
  cases r with
  | dF h1 h2 h3 => exact ⟨_, _, [], rfl, .inl (hs _ _ h1), h2, h3⟩
  | dL h1 h2 h3 => exact ⟨_, _, [], rfl, .inr ⟨_, hs _ _ h1⟩, h2, h3⟩
  | dO h1 h2 h3 => exact ⟨_, _, _, rfl, .inl h1, h2, h3⟩
theorem rd_ex {H H' : Hp} {a : Addr} {u : HO} (e : Ex H H') (h : Rd H a u) : Rd H' a u := h.imp (e _ _) fun ⟨o, q⟩ => ⟨o, e _ _ q⟩
theorem look_none {κ : Type} [DecidableEq κ] : ∀ {ks : List κ} {vs : List V} {ds : List D} {A : List Addr} {k : κ}, Reps K F H vs ds A → lookD ks ds k = none → valV (ks.zip vs) k = none
  | [], vs, ds, A, k, r, h => by simp [valV]
  | j :: ks, _, _, _, k, .nil, h => by simp [valV]
  | j :: ks, v :: vs, d :: ds, _, k, .cons h r e, q => by
    rw [lookD] at q
    split at q
    · cases q
    · rename_i c
      rw [List.zip_cons_cons, valV_neg (p := (j, v)) c]
      exact look_none r q
theorem look_some {κ : Type} [DecidableEq κ] : ∀ {ks : List κ} {vs : List V} {ds : List D} {A : List Addr} {k : κ} {d : D}, Reps K F H vs ds A → lookD ks ds k = some d → ∃ v B, valV (ks.zip vs) k = some v ∧ Rep K F H v d B
  | [], vs, ds, A, k, d, r, h => by cases ds <;> simp [lookD] at h
  | j :: ks, _, _, _, k, d, .nil, h => by simp [lookD] at h
  | j :: ks, v :: vs, d0 :: ds, _, k, d, .cons h r e, q => by
    rw [lookD] at q
    split at q
    · rename_i c
      cases q
      exact ⟨v, _, by rw [List.zip_cons_cons, valV_pos (p := (j, v)) c], h⟩
    · rename_i c
      rw [List.zip_cons_cons, valV_neg (p := (j, v)) c]
      exact look_some r q
theorem rep_keys : ∀ {vs : List V} {es : List D} {A : List Addr} {k : List L2.Key}, Reps K F H vs es A → keysOf es = some k → vs = k.map kV
  | _, _, _, k, .nil, h => by
    simp only [keysOf, Option.some.injEq] at h
    subst h; rfl
  | _, _, _, k, .cons (d := d) h r e, q => by
    rw [keysOf] at q
    split at q
    · rename_i k1 ks1 h1 h2
      cases q
      rw [List.map_cons, rep_keys r h2]
      cases d with
      | int i => cases h1; rw [rep_int h]; rfl
      | str x => cases h1; rw [rep_str h]; rfl
      | _ => cases h1
    · cases q
theorem DGetK {H : Hp} {a : Addr} {kvs : List (Key × V)} {k : Key} (h : Rd H a (.dK kvs)) : DGet H a (kV k) (valV kvs k) := .inl ⟨kvs, k, h, rfl, rfl⟩
theorem DGetT {H : Hp} {a b : Addr} {kvs : List (List Key × V)} {k : List Key} (h : Rd H a (.dT kvs)) (hb : H b = some (.tup (k.map kV))) : DGet H a (.ref b) (valV kvs k) := .inr ⟨kvs, k, b, h, rfl, hb, rfl⟩
/-- d[y], read -/
theorem get_of {a : Addr} {vs : List V} {kd : DKeys} {ds : List D} {B A : List Addr} {y : V} {dy : D} {o : Option D} (h : Rd H a (kd.ho vs)) (r : Reps K F H vs ds B) (ry : Rep K F H y dy A) (g : getK kd ds dy = some o) :
    ∃ ov, DGet H a y ov ∧ ((o = none ∧ ov = none) ∨ ∃ d v C, o = some d ∧ ov = some v ∧ Rep K F H v d C) := by
  have fin : ∀ {κ : Type} [DecidableEq κ] (ks : List κ) (k : κ), o = lookD ks ds k → ((o = none ∧ valV (ks.zip vs) k = none) ∨ ∃ d v C, o = some d ∧ valV (ks.zip vs) k = some v ∧ Rep K F H v d C) := fun ks k e => by
    cases q : lookD ks ds k with
    | none => exact .inl ⟨e.trans q, look_none r q⟩
    | some d =>
      obtain ⟨v, C, h1, h2⟩ := look_some r q
      exact .inr ⟨d, v, C, e.trans q, h1, h2⟩
  unfold getK at g
  split at g
  · rename_i ks i
    cases g
    rw [rep_int ry]
    exact ⟨_, DGetK (k := .inl i) h, fin _ _ rfl⟩
  · rename_i ks x
    cases g
    rw [rep_str ry]
    exact ⟨_, DGetK (k := .inr x) h, fin _ _ rfl⟩
  · rename_i ks es
    cases hk : keysOf es with
    | none => rw [hk] at g; cases g
    | some k =>
      rw [hk] at g
      cases g
      cases ry with
      | tup hb rb =>
        have := rep_keys rb hk
        subst this
        exact ⟨_, DGetT h hb, fin _ _ rfl⟩
  · cases g
end

/-! ### reading -/
def gDGet : G2
  | .dct _ kd ds, y, Q => match getK kd ds y with
    | some o => atK o Q
    | none => False
  | _, _, _ => False
def gKget (o : Option (Option D)) (Q : D → Prop) : Prop := match o with
  | some o => atK o Q
  | none => False
theorem gKget_some {o : Option D} {Q : D → Prop} : gKget (some o) Q = atK o Q := rfl
theorem gDGet_is {b : Bool} {kd : DKeys} {ds : List D} {y : D} {Q : D → Prop} : gDGet (.dct b kd ds) y Q = gKget (getK kd ds y) Q := rfl
def rDGet : R2 := fun x y H Q => ∃ a v, x = .ref a ∧ DGet H a y (some v) ∧ Q v H
theorem opd_dget {K : KW} : OpD K gDGet rDGet := by
  intro F H x y dx dy A B Q' Q hs rx ry w k
  unfold gDGet at w
  split at w
  · rename_i o kd ds y'
    split at w
    · rename_i o2 g
      obtain ⟨d, rfl, hd, q⟩ := atK_is w
      obtain ⟨a, vs, C, rfl, h1, h2, h3⟩ := rep_dct hs rx
      obtain ⟨ov, hg, hv⟩ := get_of h1 h3 ry g
      rcases hv with ⟨e, _⟩ | ⟨d', v, C', e, rfl, r⟩
      · cases e
      · cases e
        have := r.clean hd
        subst this
        exact ⟨a, v, rfl, hg, k.same q r⟩
    · exact w.elim
  · exact w.elim
def hasK (kd : DKeys) (ds : List D) (y : D) : Option Bool := match kd, y with
  | .k _, .non => some false
  | kd, y => (getK kd ds y).map Option.isSome
theorem hasK_int {ks : List L2.Key} {ds : List D} {i : Int} : hasK (.k ks) ds (.int i) = some (lookD ks ds (.inl i)).isSome := rfl
theorem hasK_str {ks : List L2.Key} {ds : List D} {x : Str} : hasK (.k ks) ds (.str x) = some (lookD ks ds (.inr x)).isSome := rfl
theorem hasK_non {ks : List L2.Key} {ds : List D} : hasK (.k ks) ds .non = some false := rfl
theorem hasK_tup {ks : List (List L2.Key)} {ds : List D} {es : List D} : hasK (.t ks) ds (.tup es) = ((keysOf es).map fun k => lookD ks ds k).map Option.isSome := rfl
def bK (o : Option Bool) (Q : Bool → Prop) : Prop := match o with
  | some b => Q b
  | none => False
theorem bK_some {b : Bool} {Q : Bool → Prop} : bK (some b) Q = Q b := rfl
theorem bK_is {o : Option Bool} {Q : Bool → Prop} (h : bK o Q) : ∃ b, o = some b ∧ Q b := by
  cases o with
  | some b => exact ⟨b, rfl, h⟩
  | none => exact h.elim
def gDIn : G2
  | y, .dct _ kd ds, Q => bK (hasK kd ds y) fun b => Q (.bl b)
  | _, _, _ => False
def gDNotIn : G2
  | y, .dct _ kd ds, Q => bK (hasK kd ds y) fun b => Q (.bl (!b))
  | _, _, _ => False
theorem gDIn_is {b : Bool} {kd : DKeys} {ds : List D} {y : D} {Q : D → Prop} : gDIn y (.dct b kd ds) Q = bK (hasK kd ds y) fun b => Q (.bl b) := by cases y <;> rfl
theorem gDNotIn_is {b : Bool} {kd : DKeys} {ds : List D} {y : D} {Q : D → Prop} : gDNotIn y (.dct b kd ds) Q = bK (hasK kd ds y) fun b => Q (.bl (!b)) := by cases y <;> rfl
def rDIn : R2 := fun y x H Q => (∃ a o, x = .ref a ∧ DGet H a y o ∧ Q (.bl o.isSome) H) ∨ ∃ a kvs, x = .ref a ∧ y = .non ∧ Rd H a (.dK kvs) ∧ Q (.bl false) H
def rDNotIn : R2 := fun y x H Q => (∃ a o, x = .ref a ∧ DGet H a y o ∧ Q (.bl (!o.isSome)) H) ∨ ∃ a kvs, x = .ref a ∧ y = .non ∧ Rd H a (.dK kvs) ∧ Q (.bl true) H
theorem op_din {X : Cx} (hu : X.A.units + 64 < cLine) : OpR X (compareOp .In) rDIn := by
  intro pins s σ H y x v u Q I ry rx q
  rcases q with ⟨a, ov, ex, g, q2⟩ | ⟨a, kvs, ex, ey, g, q2⟩
  · subst ex
    obtain rfl : u = Value.ref a := rx
    exact d_in (by omega) I g ry fun s3 I3 => ⟨.bl ov.isSome, H, I3, rfl, q2⟩
  · subst ex ey
    obtain rfl : u = Value.ref a := rx
    obtain rfl : v = Value.none := ry
    exact d_inNone I g fun s3 I3 => ⟨.bl false, H, I3, rfl, q2⟩
theorem op_dnotin {X : Cx} (hu : X.A.units + 64 < cLine) : OpR X (compareOp .NotIn) rDNotIn := by
  intro pins s σ H y x v u Q I ry rx q
  rcases q with ⟨a, ov, ex, g, q2⟩ | ⟨a, kvs, ex, ey, g, q2⟩
  · subst ex
    obtain rfl : u = Value.ref a := rx
    exact d_notIn (by omega) I g ry fun s3 I3 => ⟨.bl (!ov.isSome), H, I3, rfl, q2⟩
  · subst ex ey
    obtain rfl : u = Value.ref a := rx
    obtain rfl : v = Value.none := ry
    exact d_notInNone I g fun s3 I3 => ⟨.bl true, H, I3, rfl, q2⟩
theorem has_of {K : KW} {F H : Hp} {a : Addr} {vs : List V} {kd : DKeys} {ds : List D} {B A : List Addr} {y : V} {dy : D} {b : Bool} (h : Rd H a (kd.ho vs)) (r : Reps K F H vs ds B) (ry : Rep K F H y dy A) (g : hasK kd ds dy = some b) :
    (∃ o, DGet H a y o ∧ o.isSome = b) ∨ ((∃ kvs, y = .non ∧ Rd H a (.dK kvs)) ∧ b = false) := by
  unfold hasK at g
  split at g
  · rename_i ks
    cases g
    cases ry
    exact .inr ⟨⟨_, rfl, h⟩, rfl⟩
  · cases hg : getK kd ds dy with
    | none => rw [hg] at g; cases g
    | some o =>
      rw [hg] at g
      cases g
      obtain ⟨ov, h1, h2⟩ := get_of h r ry hg
      refine .inl ⟨ov, h1, ?_⟩
      rcases h2 with ⟨rfl, rfl⟩ | ⟨d, v, C, rfl, rfl, _⟩ <;> rfl
theorem opd_din {K : KW} : OpD K gDIn rDIn := by
  intro F H x y dx dy A B Q' Q hs rx ry w k
  unfold gDIn at w
  split at w
  · obtain ⟨b, g, q⟩ := bK_is w
    obtain ⟨a, vs, C, rfl, h1, h2, h3⟩ := rep_dct hs ry
    rcases has_of h1 h3 rx g with ⟨o, hg, rfl⟩ | ⟨⟨kvs, rfl, hr⟩, rfl⟩
    · exact .inl ⟨a, o, rfl, hg, k.same q (.bl _)⟩
    · exact .inr ⟨a, kvs, rfl, rfl, hr, k.same q (.bl _)⟩
  · exact w.elim
theorem opd_dnotin {K : KW} : OpD K gDNotIn rDNotIn := by
  intro F H x y dx dy A B Q' Q hs rx ry w k
  unfold gDNotIn at w
  split at w
  · obtain ⟨b, g, q⟩ := bK_is w
    obtain ⟨a, vs, C, rfl, h1, h2, h3⟩ := rep_dct hs ry
    rcases has_of h1 h3 rx g with ⟨o, hg, rfl⟩ | ⟨⟨kvs, rfl, hr⟩, rfl⟩
    · exact .inl ⟨a, o, rfl, hg, k.same q (.bl _)⟩
    · exact .inr ⟨a, kvs, rfl, rfl, hr, k.same q (.bl _)⟩
  · exact w.elim
theorem d_dget {X : Cx} {E : EX} {a b : Expr} {wa wb : WE} {pos : Pos} (hu : X.A.units + 64 < cLine) (ha : DE X E a wa) (hb : DE X E b wb) (hs : NoSl b := by exact fun _ _ => rfl) : DE X E (.Subscript a b pos) (wOp gDGet wa wb) := by
  obtain ⟨ta, pa, sa⟩ := ha.ex
  obtain ⟨tb, pb, sb⟩ := hb.ex
  exact ⟨_, pe_dget (by omega) pa pb hs, sim_op (r := rDGet) opd_dget sa sb⟩
/-- d.get(k), d.get(k, x) -/
def isDct : D → Bool
  | .dct _ _ _ => true
  | _ => false
def gGetN (z : D) : G2
  | .dct _ kd ds, y, Q => gKget ((getK kd ds y).map fun o => some (o.getD z)) Q
  | _, _, _ => False
theorem gGetN_is {z : D} {b : Bool} {kd : DKeys} {ds : List D} {y : D} {Q : D → Prop} : gGetN z (.dct b kd ds) y Q = gKget ((getK kd ds y).map fun o => some (o.getD z)) Q := rfl
def wDGet1 (wa wb : WE) : WE := fun px env Q => wa px env fun a _ env1 => isDct a = true ∧ wb px env1 fun b _ env2 => gGetN .non a b fun d => Q d false env2
def wDGet2 (wa wb wc : WE) : WE := fun px env Q => wa px env fun a _ env1 => isDct a = true ∧ wb px env1 fun b _ env2 => wc px env2 fun c _ env3 => gGetN c a b fun d => Q d false env3
theorem isD_of {H : Hp} {a : Addr} {kd : DKeys} {vs : List V} (h : Rd H a (kd.ho vs)) : IsD H a := by
  cases kd with
  | k ks => exact .inl ⟨_, h⟩
  | t ks => exact .inr ⟨_, h⟩
theorem getN_of {K : KW} {F H : Hp} {a : Addr} {vs : List V} {kd : DKeys} {ds : List D} {B A C : List Addr} {y z : V} {dy dz : D} {Q : D → Prop} {bb : Bool} (h : Rd H a (kd.ho vs)) (r : Reps K F H vs ds B) (ry : Rep K F H y dy A) (rz : Rep K F H z dz C)
    (w : gGetN dz (.dct bb kd ds) dy Q) : ∃ o d, DGet H a y o ∧ Q d ∧ Rep K F H (o.getD z) d [] := by
  rw [gGetN_is] at w
  cases hg : getK kd ds dy with
  | none => rw [hg] at w; exact w.elim
  | some o =>
    rw [hg] at w
    obtain ⟨d, e, hd, q⟩ := atK_is (o := some (o.getD dz)) w
    obtain ⟨ov, h1, h2⟩ := get_of h r ry hg
    refine ⟨ov, d, h1, q, ?_⟩
    rcases h2 with ⟨rfl, rfl⟩ | ⟨d', v, C', rfl, rfl, r'⟩
    · cases e
      have := rz.clean hd
      subst this
      exact rz
    · cases e
      have := r'.clean hd
      subst this
      exact r'
theorem sim_dget1 {K : KW} {E : EX} {wa wb : WE} {ta tb : TE} (ha : Sim K E wa ta) (hb : Sim K E wb tb) : Sim K E (wDGet1 wa wb) (tDGet1 ta tb) := by
  intro px F0 H0 F H σ env pv pd L S Q' Q w k
  refine ha px F0 H0 F H σ env pv pd L S _ _ w fun a ba env1 x F1 H1 w1 eF1 eH1 R1 => ?_
  obtain ⟨⟨A, rx⟩, S1⟩ := R1.forget
  obtain ⟨hi, w1⟩ := w1
  cases a with
  | dct o kd ds =>
    obtain ⟨a, vs, C, rfl, h1, h2, h3⟩ := rep_dct S1.sub rx
    refine ⟨a, rfl, isD_of h1, hb px F0 H0 F1 H1 σ env1 pv pd L S1 _ _ w1 fun b bb env2 y F2 H2 w2 eF2 eH2 R2 => ?_⟩
    obtain ⟨⟨B, ry⟩, S2⟩ := R2.forget
    obtain ⟨ov, d, hg, q, r⟩ := getN_of (z := .non) (rd_ex eH2 h1) (h3.ex eF2 eH2) ry .non w2
    exact ⟨ov, hg, k d false env2 _ F2 H2 q (eF1.trans eF2) (eH1.trans eH2) (S2.clean r)⟩
  | _ => cases hi
theorem sim_dget2 {K : KW} {E : EX} {wa wb wc : WE} {ta tb tc : TE} (ha : Sim K E wa ta) (hb : Sim K E wb tb) (hc : Sim K E wc tc) : Sim K E (wDGet2 wa wb wc) (tDGet2 ta tb tc) := by
  intro px F0 H0 F H σ env pv pd L S Q' Q w k
  refine ha px F0 H0 F H σ env pv pd L S _ _ w fun a ba env1 x F1 H1 w1 eF1 eH1 R1 => ?_
  obtain ⟨⟨A, rx⟩, S1⟩ := R1.forget
  obtain ⟨hi, w1⟩ := w1
  cases a with
  | dct o kd ds =>
    obtain ⟨a, vs, C, rfl, h1, h2, h3⟩ := rep_dct S1.sub rx
    refine ⟨a, rfl, isD_of h1, hb px F0 H0 F1 H1 σ env1 pv pd L S1 _ _ w1 fun b bb env2 y F2 H2 w2 eF2 eH2 R2 => ?_⟩
    obtain ⟨⟨B, ry⟩, S2⟩ := R2.forget
    refine hc px F0 H0 F2 H2 σ env2 pv pd L S2 _ _ w2 fun c bc env3 z F3 H3 w3 eF3 eH3 R3 => ?_
    obtain ⟨⟨C3, rz⟩, S3⟩ := R3.forget
    obtain ⟨ov, d, hg, q, r⟩ := getN_of (rd_ex eH3 (rd_ex eH2 h1)) ((h3.ex eF2 eH2).ex eF3 eH3) (ry.ex eF3 eH3) rz w3
    exact ⟨ov, hg, k d false env3 _ F3 H3 q ((eF1.trans eF2).trans eF3) ((eH1.trans eH2).trans eH3) (S3.clean r)⟩
  | _ => cases hi
theorem d_get1 {X : Cx} {E : EX} {a b : Expr} {wa wb : WE} {apos cpos : Pos} (hu : X.A.units + 64 < cLine) (ha : DE X E a wa) (hb : DE X E b wb) (m : M1 X a "get" apos b cpos := by exact ⟨rfl, rfl, rfl, rfl⟩) : DE X E (.Call (.Attribute a "get" apos) [b] [] cpos) (wDGet1 wa wb) := by
  obtain ⟨ta, pa, sa⟩ := ha.ex
  obtain ⟨tb, pb, sb⟩ := hb.ex
  exact ⟨_, pe_dget1 (by omega) pa pb m, sim_dget1 sa sb⟩
theorem d_get2 {X : Cx} {E : EX} {a b c : Expr} {wa wb wc : WE} {apos cpos : Pos} (hu : X.A.units + 64 < cLine) (ha : DE X E a wa) (hb : DE X E b wb) (hc : DE X E c wc) (m : M2 X a "get" apos b c cpos := by exact ⟨rfl, rfl, rfl, rfl⟩) : DE X E (.Call (.Attribute a "get" apos) [b, c] [] cpos) (wDGet2 wa wb wc) := by
  obtain ⟨ta, pa, sa⟩ := ha.ex
  obtain ⟨tb, pb, sb⟩ := hb.ex
  obtain ⟨tc, pc, sc⟩ := hc.ex
  exact ⟨_, pe_dget2 (by omega) pa pb pc m, sim_dget2 sa sb sc⟩
/-- len(d) -/
def gLenD : GC
  | [.dct _ (.k ks) _], Q => Q (.int (DKeys.k ks).len)
  | [.dct true (.t ks) _], Q => Q (.int (DKeys.t ks).len)
  | _, _ => False
def rLenD : List V → Hp → VK → Prop := fun xs H Q => (∃ a kvs, xs = [V.ref a] ∧ Rd H a (.dK kvs) ∧ Q (.int kvs.length) H) ∨ (∃ (p : Addr) (kvs : List (List L2.Key × V)), xs = [.ref p] ∧ H p = some (.dT kvs) ∧ Q (.int ((kvs.length : Nat) : Int)) H)
theorem call_lenKT {X : Cx} : CallR X (.builtin "len") rLenD := by
  intro pins s σ H xs us Q I r h
  rcases h with h | h
  · obtain ⟨a, kvs, rfl, ha, q⟩ := h
    obtain ⟨w, rfl, rw⟩ := vals1 r
    cases rw
    exact d_len I ha fun tk s' J => ⟨V.int kvs.length, H, J, ⟨tk, rfl⟩, q⟩
  · exact call_len_dT pins s σ H xs us Q I r h
theorem rep_dctT {K : KW} {F H : Hp} {v : V} {ks : List (List Key)} {ds : List D} {A : List Addr} (hs : Ex F H) (r : Rep K F H v (.dct true (.t ks) ds) A) : ∃ a vs, v = .ref a ∧ H a = some (.dT (ks.zip vs)) ∧ ks.length = vs.length := by
  cases r with
  | dO h1 h2 h3 => exact ⟨_, _, rfl, h1, h2⟩
theorem cd_lenD {K : KW} : CallD K gLenD rLenD := by
  intro F H xs ds A Q' Q hs r w k
  unfold gLenD at w
  split at w
  · obtain ⟨v, rfl, r1⟩ := reps1 r
    rename_i o ks es
    obtain ⟨a, vs, C, rfl, h1, h2, h3⟩ := rep_dct hs r1
    have : ((ks.zip vs).length : Int) = (ks.length : Int) := by rw [List.length_zip]; have : ks.length = vs.length := h2; omega
    exact .inl ⟨a, _, rfl, h1, by rw [this]; exact k.same w (.int _)⟩
  · obtain ⟨v, rfl, r1⟩ := reps1 r
    rename_i ks es
    obtain ⟨a, vs, rfl, h1, h2⟩ := rep_dctT hs r1
    have : ((ks.zip vs).length : Int) = (ks.length : Int) := by rw [List.length_zip]; omega
    exact .inr ⟨a, _, rfl, h1, by rw [this]; exact k.same w (.int _)⟩
  · exact w.elim

/-! ### made, changed -/
section
variable {K : KW} {F0 H0 F F' H H' : Hp} {σ : L2.St} {env : Env} {pv : List V} {pd : List D}
theorem tup_updD {a : Addr} {kd : DKeys} {vs : List V} {o : HO} (h : H a = some (kd.ho vs)) : ∀ b xs, H b = some (.tup xs) → upd H a o b = some (.tup xs) := fun b xs q => by
  have ne : b ≠ a := fun z => by
    subst z
    rw [h] at q
    cases kd <;> cases q
  rw [upd_ne ne]; exact q
/-- the dict in slot i, changed to clean values -/
theorem Sta.mutD {i : Nat} {kd : DKeys} {ds : List D} (S : Sta K F0 H0 F H σ env pv pd) (h : env[i]? = some (some (.dct true kd ds))) : ∃ a vs A', σ[i]? = some (some (.ref a)) ∧ H a = some (kd.ho vs) ∧ kd.len = vs.length ∧ Reps K F H vs ds A' ∧
    ∀ kd' vs' ds', kd'.len = vs'.length → Reps K F H vs' ds' [] → Sta K F0 H0 F (upd H a (kd'.ho vs')) σ (env.set i (some (.dct true kd' ds'))) pv pd := by
  obtain ⟨A0, B, h1, h2, h3, h4⟩ := S.own
  obtain ⟨v, A1, Ai, A2, e2, e3, r, s, back⟩ := h1.at h
  subst e3
  cases r with
  | dO hq hl rs =>
    rename_i a vs A'
    refine ⟨a, vs, A', e2, hq, hl, rs, fun kd' vs' ds' hl' r' => ?_⟩
    have na : ∀ b ∈ A1 ++ A2 ++ B, b ≠ a := fun b hb z => by
      subst z
      rw [List.nodup_append] at h3
      have h5 := List.nodup_append.mp h3.1
      have h6 := List.nodup_append.mp h5.1
      simp only [List.mem_append] at hb
      rcases hb with (hb | hb) | hb
      · exact h6.2.2 b hb b List.mem_cons_self rfl
      · exact h5.2.2 b (by simp) b hb rfl
      · exact h3.2.2 b (by simp) b hb rfl
    have ha := h4 a (by simp)
    have hT := tup_updD (o := kd'.ho vs') hq
    have ex0 : ∀ {G : Hp}, G a = none → (∀ b o, G b = some o → H b = some o) → Ex G (upd H a (kd'.ho vs')) := fun {G} hn hg b o q => by
      rw [upd_ne (ne_of_none q hn)]; exact hg b o q
    have ev : (σ.set i (some (V.ref a))) = σ := by
      obtain ⟨hi, hv⟩ := List.getElem?_eq_some_iff.mp e2
      rw [← hv]; exact List.set_getElem_self hi
    have rnew : Rep K F (upd H a (kd'.ho vs')) (.ref a) (.dct true kd' ds') [a] := .dO upd_same hl' (r'.mono (Same.refl _) hT fun b hb => absurd hb List.not_mem_nil)
    have sl := back (F' := F) (H' := upd H a (kd'.ho vs')) (Same.refl _) hT (fun b hb => upd_ne (na b (List.mem_append_left _ hb))) rnew
    rw [ev] at sl
    refine ⟨S.exF, ex0 ha.2 S.exH, ex0 ha.1 S.sub, S.new, A1 ++ [a] ++ A2, B, sl, h2.mono (Same.refl _) hT fun b hb => upd_ne (na b (List.mem_append_right _ hb)), ?_, fun b hb => h4 b ?_⟩
    · refine List.Nodup.sublist ?_ h3
      refine List.Sublist.append (List.Sublist.append (List.Sublist.append (List.Sublist.refl _) ?_) (List.Sublist.refl _)) (List.Sublist.refl _)
      exact List.Sublist.cons₂ _ (List.nil_sublist _)
    · simp only [List.mem_append, List.mem_cons, List.mem_nil_iff, or_false] at hb ⊢
      rcases hb with ((hb | hb) | hb) | hb
      · exact .inl (.inl (.inl hb))
      · exact .inl (.inl (.inr (.inl hb)))
      · exact .inl (.inr hb)
      · exact .inr hb
/-- the newest value is a dict, changed to clean values -/
theorem Sta.mutDP {x : V} {kd : DKeys} {ds : List D} (S : Sta K F0 H0 F H σ env (x :: pv) (.dct true kd ds :: pd)) : ∃ a vs A', x = .ref a ∧ H a = some (kd.ho vs) ∧ kd.len = vs.length ∧ Reps K F H vs ds A' ∧
    ∀ kd' vs' ds', kd'.len = vs'.length → Reps K F H vs' ds' [] → Sta K F0 H0 F (upd H a (kd'.ho vs')) σ env (.ref a :: pv) (.dct true kd' ds' :: pd) := by
  obtain ⟨A0, B, h1, h2, h3, h4⟩ := S.own
  cases h2 with
  | cons r rr e =>
    subst e
    cases r with
    | dO hq hl rs =>
      rename_i B1 a vs A'
      refine ⟨a, vs, A', rfl, hq, hl, rs, fun kd' vs' ds' hl' r' => ?_⟩
      have h3' := List.nodup_append.mp h3
      have na : ∀ b ∈ A0 ++ B1, b ≠ a := fun b hb z => by
        subst z
        rcases List.mem_append.mp hb with hb | hb
        · exact h3'.2.2 b hb b (by simp) rfl
        · have h5 := h3'.2.1
          rw [List.cons_append] at h5
          exact (List.nodup_cons.mp h5).1 (List.mem_append_right _ hb)
      have ha := h4 a (by simp)
      have hT := tup_updD (o := kd'.ho vs') hq
      have ex0 : ∀ {G : Hp}, G a = none → (∀ b o, G b = some o → H b = some o) → Ex G (upd H a (kd'.ho vs')) := fun {G} hn hg b o q => by
        rw [upd_ne (ne_of_none q hn)]; exact hg b o q
      have rnew : Rep K F (upd H a (kd'.ho vs')) (.ref a) (.dct true kd' ds') [a] := .dO upd_same hl' (r'.mono (Same.refl _) hT fun b hb => absurd hb List.not_mem_nil)
      refine ⟨S.exF, ex0 ha.2 S.exH, ex0 ha.1 S.sub, S.new, A0, a :: B1, h1.mono (Same.refl _) hT fun b hb => upd_ne (na b (List.mem_append_left _ hb)), .cons rnew (rr.mono (Same.refl _) hT fun b hb => upd_ne (na b (List.mem_append_right _ hb))) rfl, ?_, fun b hb => h4 b ?_⟩
      · refine List.Nodup.sublist ?_ h3
        refine List.Sublist.append (List.Sublist.refl _) ?_
        rw [List.cons_append]
        exact List.Sublist.cons₂ _ (List.sublist_append_right _ _)
      · simp only [List.mem_append, List.mem_cons] at hb ⊢
        rcases hb with hb | hb | hb
        · exact .inl hb
        · exact .inr (.inl (.inl hb))
        · exact .inr (.inr hb)
theorem reps_put {κ : Type} [DecidableEq κ] (f : List (κ × V) → HO) {ks : List κ} {vs : List V} {ds : List D} {k : κ} {v : V} {d : D} (hl : ks.length = vs.length) (r : Reps K F H vs ds []) (h : Rep K F H v d []) :
    ∃ vs', putK (ks.zip vs) k v = (putKs ks k).zip vs' ∧ (putKs ks k).length = vs'.length ∧ Reps K F H vs' (putDs ks ds k d) [] := by
  have hany : ∀ {ks : List κ} {vs : List V}, ks.length = vs.length → ((ks.zip vs).any fun kv => decide (kv.1 = k)) = decide (k ∈ ks) := by
    intro ks
    induction ks with
    | nil => intro vs _; simp
    | cons j ks ih =>
      intro vs hl
      cases vs with
      | nil => simp at hl
      | cons w vs =>
        rw [List.zip_cons_cons, List.any_cons, ih (by simpa using hl)]
        by_cases c : j = k
        · simp [c]
        · have : ¬ k = j := fun z => c z.symm
          simp [c, this]
  unfold putK putKs putDs
  rw [hany hl]
  by_cases c : k ∈ ks
  · simp only [c, decide_true, if_true]
    have go : ∀ {ks : List κ} {vs : List V} {ds : List D}, ks.length = vs.length → Reps K F H vs ds [] → ∃ vs', (ks.zip vs).map (fun kv => if kv.1 = k then (kv.1, v) else kv) = ks.zip vs' ∧ ks.length = vs'.length ∧ Reps K F H vs' (repDs ks ds k d) [] := by
      intro ks
      induction ks with
      | nil => intro vs ds hl r; exact ⟨vs, by simp, hl, by simpa [repDs] using r⟩
      | cons j ks ih =>
        intro vs ds hl r
        cases r with
        | nil => simp at hl
        | cons r1 rs e =>
          rename_i v1 vs1 d1 ds1 A1 B1
          have e2 := List.nil_eq_append_iff.mp e
          rw [e2.1] at r1
          rw [e2.2] at rs
          obtain ⟨vs', h1, h2, h3⟩ := ih (by simpa using hl) rs
          by_cases c : j = k
          · refine ⟨v :: vs', ?_, by simp [h2], ?_⟩
            · rw [List.zip_cons_cons, List.map_cons, h1, List.zip_cons_cons]
              simp [c]
            · rw [repDs, if_pos c]; exact .cons h h3 rfl
          · refine ⟨v1 :: vs', ?_, by simp [h2], ?_⟩
            · rw [List.zip_cons_cons, List.map_cons, h1, List.zip_cons_cons]
              simp [c]
            · rw [repDs, if_neg c]; exact .cons r1 h3 rfl
    exact go hl r
  · simp only [c, decide_false, Bool.false_eq_true, if_false]
    refine ⟨vs ++ [v], ?_, by simp [hl], ?_⟩
    · rw [List.zip_append hl]; rfl
    · exact r.app (.cons h .nil rfl)
end
/-- {} -/
def wDNew (kd : DKeys) : WE := fun _ env Q => Q (.dct true kd []) false env
theorem sim_dnewK {K : KW} {E : EX} : Sim K E (wDNew (.k [])) tDNewK := by
  intro px F0 H0 F H σ env pv pd L S Q' Q w k p hp
  exact k _ false env _ F _ w (Same.refl _) (Ex.new hp) (S.push (Ex.new hp) (.dO (vs := []) upd_same rfl .nil) (by simp) (by simpa using hp))
theorem sim_dnewT {K : KW} {E : EX} : Sim K E (wDNew (.t [])) tDNewT := by
  intro px F0 H0 F H σ env pv pd L S Q' Q w k p hp
  exact k _ false env _ F _ w (Same.refl _) (Ex.new hp) (S.push (Ex.new hp) (.dO (vs := []) upd_same rfl .nil) (by simp) (by simpa using hp))
/-- {k: v} -/
def kDisp (a b : D) (Q : D → Prop) : Prop := match keyOf a with
  | some k => Q (.dct true (.k [k]) [b])
  | none => False
theorem kDisp_int {i : Int} {b : D} {Q : D → Prop} : kDisp (.int i) b Q = Q (.dct true (.k [.inl i]) [b]) := rfl
theorem kDisp_str {i : Str} {b : D} {Q : D → Prop} : kDisp (.str i) b Q = Q (.dct true (.k [.inr i]) [b]) := rfl
def wDisp1 (wa wb : WE) : WE := fun px env Q => wa px env fun a _ env1 => wb px env1 fun b _ env2 => dirty b = false ∧ kDisp a b fun d => Q d false env2
theorem sim_disp1 {K : KW} {E : EX} {wa wb : WE} {ta tb : TE} (ha : Sim K E wa ta) (hb : Sim K E wb tb) : Sim K E (wDisp1 wa wb) (tDisp [(ta, tb)]) := by
  intro px F0 H0 F H σ env pv pd L S Q' Q w k p hp
  have S0 : Sta K F0 H0 F (upd H p (.dK [])) σ env (.ref p :: pv) (.dct true (.k []) [] :: pd) := S.push (Ex.new hp) (.dO (vs := []) upd_same rfl .nil) (by simp) (by simpa using hp)
  have L0 : LinkX K F0 H0 px E (.ref p :: pv) (.dct true (.k []) [] :: pd) := L.push (qv := [.ref p]) (qd := [.dct true (.k []) []]) rfl
  refine ha px F0 H0 F _ σ env _ _ L0 S0 _ _ w fun a ba env1 x F1 H1 w1 eF1 eH1 R1 => ?_
  obtain ⟨⟨A, rx⟩, S1⟩ := R1.forget
  refine hb px F0 H0 F1 H1 σ env1 _ _ L0 S1 _ _ w1 fun b bb env2 y F2 H2 w2 eF2 eH2 R2 => ?_
  obtain ⟨hd, w2⟩ := w2
  obtain ⟨⟨B, ry⟩, S2⟩ := R2.forget
  have := ry.clean hd
  subst this
  obtain ⟨a', vs, A', e, hq, hl, rs, back⟩ := S2.mutDP
  cases e
  cases rs
  refine ⟨hq, ?_⟩
  unfold kDisp at w2
  split at w2
  · rename_i kk hk
    have ex : x = kV kk := by
      cases a with
      | int i => cases hk; rw [rep_int rx]; rfl
      | str i => cases hk; rw [rep_str rx]; rfl
      | _ => cases hk
    refine ⟨[(kk, y)], by rw [ex]; rfl, by simp, ?_⟩
    have em : mergeK [] [(kk, y)] = [kk].zip [y] := rfl
    rw [em]
    refine k _ false env2 _ F2 _ w2 (eF1.trans eF2) ?_ (back (.k [kk]) [y] [b] rfl (.cons ry .nil rfl))
    intro b o q
    have ne : b ≠ p := fun z => by subst z; rw [hp] at q; cases q
    have h0 : (upd H p (.dK [])) b = some o := by rw [upd_ne ne]; exact q
    rw [upd_ne ne]
    exact eH2 _ _ (eH1 _ _ h0)
  · exact w2.elim
section
variable {X : Cx} {E : EX} {e k : Expr} {w wk : WE} {pos apos cpos npos : Pos} {i : Nat} {x : Str}
theorem d_dnewK : DE X E (.Dict [] [] pos) (wDNew (.k [])) := ⟨_, pe_dnewK, sim_dnewK⟩
theorem d_dnewT : DE X E (.Dict [] [] pos) (wDNew (.t [])) := ⟨_, pe_dnewT, sim_dnewT⟩
theorem d_disp1 (ha : DE X E k wk) (hb : DE X E e w) : DE X E (.Dict [some k] [e] pos) (wDisp1 wk w) := by
  obtain ⟨ta, pa, sa⟩ := ha.ex
  obtain ⟨tb, pb, sb⟩ := hb.ex
  exact ⟨_, pe_disp (pps_cons pa pb pps_nil) rfl rfl (by simp) (by simp), sim_disp1 sa sb⟩
end
/-- x[k] = e, a dict -/
def atDct (i : Nat) (env : Env) (Q : DKeys → List D → Prop) : Prop := match env[i]? with
  | some (some (.dct true kd ds)) => Q kd ds
  | _ => False
theorem atDct_is {i : Nat} {env : Env} {Q : DKeys → List D → Prop} (h : atDct i env Q) : ∃ kd ds, env[i]? = some (some (.dct true kd ds)) ∧ Q kd ds := by
  unfold atDct at h
  split at h
  · exact ⟨_, _, by assumption, h⟩
  · exact h.elim
def wDPut (i : Nat) (w wk : WE) : WS := fun P px env => w px env fun d _ env1 => atDct i env1 fun _ _ => wk px env1 fun y _ env2 => atDct i env2 fun kd ds => dirty d = false ∧ dirtys ds = false ∧ kd.len ≤ 100000 ∧ putK2 kd ds y d fun kd' ds' => P.nx (env2.set i (some (.dct true kd' ds')))
theorem simS_dput {K : KW} {E : EX} {i : Nat} {w wk : WE} {t tk : TE} (h : Sim K E w t) (hk : Sim K E wk tk) : SimS K E (wDPut i w wk) (sDPut (tVar i) tk t) := by
  intro px F0 H0 F H σ env pv pd L S P D w1 k
  refine h px F0 H0 F H σ env pv pd L S _ _ w1 fun d b env1 v F1 H1 w2 eF eH R => ?_
  obtain ⟨⟨A, r⟩, S1⟩ := R.forget
  obtain ⟨kd0, ds0, e0, w2⟩ := atDct_is w2
  obtain ⟨a0, vs0, A0, ea, ha, _, _, _⟩ := S1.mutD e0
  refine ⟨.ref a0, ea, ?_⟩
  refine hk px F0 H0 F1 H1 σ env1 pv pd L S1 _ _ w2 fun kk bk env2 kv F2 H2 w3 eF2 eH2 R2 => ?_
  obtain ⟨⟨A2, rk⟩, S2⟩ := R2.forget
  obtain ⟨kd, ds, e1, w3⟩ := atDct_is w3
  obtain ⟨w4, w5, w6, w7⟩ := w3
  obtain ⟨a, vs, A', es', hq, hl, ra, back⟩ := S2.mutD e1
  rw [ea] at es'; cases es'
  have c1 := ra.clean w5
  subst c1
  have c2 := r.clean w4
  subst c2
  have rv := r.ex eF2 eH2
  have zl : ∀ {κ : Type} (ks : List κ), ks.length ≤ 100000 → (ks.zip vs).length < sizeLine := fun ks hk => by
    rw [List.length_zip]
    exact lt_line (by omega)
  unfold putK2 at w7
  split at w7
  · rename_i ks j
    rw [rep_int rk]
    obtain ⟨vs', h1, h2, h3⟩ := reps_put (k := .inl j) HO.dK hl ra rv
    refine ⟨a0, _, rfl, .inl ⟨_, .inl j, hq, rfl, zl ks w6, rfl⟩, ?_⟩
    rw [h1]
    exact k.nx _ _ _ _ w7 (back (.k (putKs ks (.inl j))) vs' _ h2 h3)
  · rename_i ks j
    rw [rep_str rk]
    obtain ⟨vs', h1, h2, h3⟩ := reps_put (k := .inr j) HO.dK hl ra rv
    refine ⟨a0, _, rfl, .inl ⟨_, .inr j, hq, rfl, zl ks w6, rfl⟩, ?_⟩
    rw [h1]
    exact k.nx _ _ _ _ w7 (back (.k (putKs ks (.inr j))) vs' _ h2 h3)
  · rename_i ks es
    split at w7
    · rename_i key hkey
      cases rk with
      | tup hb rb =>
        have := rep_keys rb hkey
        subst this
        obtain ⟨vs', h1, h2, h3⟩ := reps_put (k := key) HO.dT hl ra rv
        refine ⟨a0, _, rfl, .inr ⟨_, key, _, hq, rfl, hb, zl ks w6, rfl⟩, ?_⟩
        rw [h1]
        exact k.nx _ _ _ _ w7 (back (.t (putKs ks key)) vs' _ h2 h3)
    · exact w7.elim
  · exact w7.elim
section
variable {X : Cx} {E : EX} {e k : Expr} {w wk : WE} {pos apos cpos npos spos : Pos} {i : Nat} {x : Str}
theorem s_dput (hu : X.A.units + 64 < cLine) (hN : X.N[i]? = some x := by rfl) (hv : Vis X.env.scope x := by first | exact Or.inl rfl | exact Or.inr (Or.inl rfl) | exact Or.inr (Or.inr rfl)) (hk : DE X E k wk) (h : DE X E e w) (hd : (x == ("__debug__" : Str)) = false := by decide) (hcd : (x == ("__classdict__" : Str)) = false := by decide)
    (hs : swapsWith e (some (.Subscript (.Name x npos) k spos)) pos.line X.env = pure false := by rfl) :
    DS X E (.Assign [.Subscript (.Name x npos) k spos] e pos) (wDPut i w wk) := by
  obtain ⟨t, p, s⟩ := h.ex
  obtain ⟨tk, pk, sk⟩ := hk.ex
  exact ⟨_, ps_dput (by omega) (pe_var hN hv hd hcd) pk p hs, simS_dput s sk⟩
end

/-! ### x in a list of data -/
def isLs : D → Bool
  | .lst _ _ => true
  | .seq _ => true
  | _ => false
def lsOf : D → List D
  | .lst _ ds => ds
  | .seq ds => ds
  | _ => []
def gInD : G2 := fun a b Q => isLs b = true ∧ shD a = true ∧ shD b = true ∧ Q (.bl ((lsOf b).any fun z => eqD z a))
def gNotInD : G2 := fun a b Q => isLs b = true ∧ shD a = true ∧ shD b = true ∧ Q (.bl (!(lsOf b).any fun z => eqD z a))
theorem pys_any {d : D} : ∀ {ds : List D}, (pys ds).any (fun z => PyData.eqv z (py d)) = ds.any fun z => eqD z d
  | [] => rfl
  | e :: ds => by rw [pys, List.any_cons, List.any_cons, pys_any]; rfl
theorem py_ls {d : D} (h : isLs d = true) : py d = .list (pys (lsOf d)) := by
  cases d with
  | lst o ds => rw [py]; rfl
  | seq ds => rw [py]; rfl
  | _ => cases h
theorem opd_inD {K : KW} : OpD K gInD (rInD K) := by
  intro F H x y dx dy A B Q' Q hs rx ry w k
  obtain ⟨hi, w1, w2, w3⟩ := w
  unfold shD at w1 w2
  rw [Bool.and_eq_true] at w1 w2
  have e := py_ls hi
  have d2 := ry.dp hs w2.1
  rw [e] at d2
  refine ⟨_, _, rx.dp hs w1.1, d2, w1.2, by rw [← e]; exact w2.2, ?_⟩
  rw [pys_any]
  exact k.same w3 (.bl _)
theorem opd_notInD {K : KW} : OpD K gNotInD (rNotInD K) := by
  intro F H x y dx dy A B Q' Q hs rx ry w k
  obtain ⟨hi, w1, w2, w3⟩ := w
  unfold shD at w1 w2
  rw [Bool.and_eq_true] at w1 w2
  have e := py_ls hi
  have d2 := ry.dp hs w2.1
  rw [e] at d2
  refine ⟨_, _, rx.dp hs w1.1, d2, w1.2, by rw [← e]; exact w2.2, ?_⟩
  rw [pys_any]
  exact k.same w3 (.bl _)
theorem units65 {k : Nat} {A : Around} (r : Room k A) : A.units + 65 < cLine := by have := r.un; omega

/-! ### is of truths -/
def gIsB : G2
  | .bl a, .bl b, Q => Q (.bl (decide (a = b)))
  | _, _, _ => False
def gIsntB : G2
  | .bl a, .bl b, Q => Q (.bl (!decide (a = b)))
  | _, _, _ => False
theorem gIsB_bl {a b : Bool} {Q : D → Prop} : gIsB (.bl a) (.bl b) Q = Q (.bl (decide (a = b))) := rfl
theorem gIsntB_bl {a b : Bool} {Q : D → Prop} : gIsntB (.bl a) (.bl b) Q = Q (.bl (!decide (a = b))) := rfl
theorem opd_isB {K : KW} : OpD K gIsB rIsB := by
  intro F H x y dx dy A B Q' Q hs rx ry w k
  unfold gIsB at w
  split at w
  · rw [rep_bl rx, rep_bl ry]
    exact ⟨_, _, rfl, rfl, k.same w (.bl _)⟩
  · exact w.elim
theorem opd_isntB {K : KW} : OpD K gIsntB rNotB := by
  intro F H x y dx dy A B Q' Q hs rx ry w k
  unfold gIsntB at w
  split at w
  · rw [rep_bl rx, rep_bl ry]
    exact ⟨_, _, rfl, rfl, k.same w (.bl _)⟩
  · exact w.elim

/-! ### list + list, the script's own among them -/
def rCatL (K : PySem.W.Frag) : R2 := fun x y H Q => ∃ l b xs zs, x = .ref l ∧ y = .ref b ∧ SqL K H l xs ∧ SqL K H b zs ∧ xs.length + zs.length ≤ sizeLine ∧ ∀ p, H p = none → Q (.ref p) (upd H p (.lst (xs ++ zs)))
theorem op_catL {X : Cx} : OpR X (binaryOp .Add) (rCatL X.K) := by
  intro pins s σ H x y v u Q I rx ry h
  obtain ⟨l, b, xs, zs, rfl, rfl, hH, hB, hz, q⟩ := h
  cases rx
  cases ry
  obtain ⟨its, r, ⟨⟨cls, dd, data, sl⟩, n, ho, hc, hdn, hdt⟩, _⟩ := I.list hH
  obtain ⟨its2, r2, ⟨⟨cls2, dd2, data2, sl2⟩, n2, ho2, hc2, hdn2, hdt2⟩, _⟩ := I.list hB
  simp only at hc hdt hc2 hdt2
  subst hc hdt hc2 hdt2
  have hl := r.length
  have hl2 := r2.length
  have ea : its.toArray ++ its2.toArray = (its ++ its2).toArray := by simp
  refine concat_meets ⟨_, ho, rfl⟩ ⟨_, ho2, rfl⟩ noFill_list_add seq_list_add PySem.F.slot_list_add PySem.F.entry_list_add (PySem.F.args_list_add_2 _ _) (list_addW l b its.toArray its2.toArray n n2 dd dd2 sl sl2 (by simp; omega)) ⟨ho, ho2, ?_⟩
  rw [ea]
  exact ⟨.ref _, _, I.lnew (t' := s.toks) (r.append r2) (by rw [List.length_append]; omega), rfl, q _ I.fresh⟩
def gAddL : G2 := fun a b Q => isLs a = true ∧ isLs b = true ∧ dirtys (lsOf a) = false ∧ dirtys (lsOf b) = false ∧ (lsOf a).length + (lsOf b).length ≤ 100000 ∧ Q (.lst true (lsOf a ++ lsOf b))
theorem rep_ls {K : KW} {F H : Hp} {v : V} {d : D} {A : List Addr} (hs : Ex F H) (r : Rep K F H v d A) (h : isLs d = true) : ∃ a vs B, v = .ref a ∧ SqL K H a vs ∧ Reps K F H vs (lsOf d) B := by
  refine rep_asL1 hs r ?_
  cases d with
  | lst o ds => rfl
  | seq ds => rfl
  | _ => cases h
theorem opd_addL {K : KW} : OpD K gAddL (rCatL K) := by
  intro F H x y dx dy A B Q' Q hs rx ry w k
  obtain ⟨h1, h2, h3, h4, h5, h6⟩ := w
  obtain ⟨a, vs, A', rfl, ha, ra⟩ := rep_ls hs rx h1
  obtain ⟨b, ws, B', rfl, hb, rb⟩ := rep_ls hs ry h2
  have e1 := ra.clean h3
  have e2 := rb.clean h4
  subst e1 e2
  exact ⟨a, b, vs, ws, rfl, rfl, ha, hb, by rw [ra.length, rb.length]; exact le_line h5, k.lst h6 (ra.app rb)⟩
end Tm

set_option Elab.async false
set_option linter.all false
set_option maxRecDepth 100000
set_option maxHeartbeats 1000000
/-! enumerate(list, start=1) -/
namespace Tm
open PySem PySem.Spec PyProof.Rows L2
def Ite1 (K : PySem.W.Frag) (a : Addr) : It :=
  ⟨fun i H => ∃ (xs : List V) (x : V), SqL K H a xs ∧ xs[i]? = some x, fun i H v H' => ∃ T x, v = .ref T ∧ H T = none ∧ H' = upd H T (.tup [.int ((i + 1 : Nat) : Int), x]) ∧ ∀ xs, SqL K H a xs → xs[i]? = some x, fun i H => ∃ xs : List V, SqL K H a xs ∧ xs.length ≤ i⟩
theorem enum_ne {s : Shared} {e it a : Addr} {c : Int} {old : Value} {i : Nat} {items : Array Value} (he : IsEnum s.heap e it c old) (hi : s.heap.IsListIter it a i) (hl : s.heap.IsList a items) : a ≠ it ∧ e ≠ a := by
  obtain ⟨o, ho, hc, _⟩ := hl
  obtain ⟨o2, ho2, hc2, _⟩ := hi
  refine ⟨fun z => ?_, fun z => ?_⟩
  · subst z
    rw [ho] at ho2; cases ho2
    rw [hc] at hc2
    exact absurd hc2 (by decide)
  · subst z
    obtain ⟨d, he⟩ : ∃ d, s.heap.get? e = some { cls := .type "enumerate", data := d } := ⟨_, he⟩
    rw [ho] at he; cases he
    exact absurd (Value.type.inj hc) (by decide)
theorem enum_endC {prog : Program} {w : World} {A : Around} {E : Value → Shared → Prop} {s : Shared} {e it l : Addr} {i : Nat} {c : Int} {items : Array Value} {old : Value} {Q : Option Value → Shared → Prop} (hh : A.handled = none)
    (he : IsEnum s.heap e it c old) (hit : s.heap.IsListIter it l i) (hl : s.heap.IsList l items) (hx : items[i]? = none)
    (hQ : ∀ h', Heap.ExtBut it s.heap h' → Q none { s with heap := h' }) : wpAny (model prog w) A (pyNext (.ref e)) Q E s := by
  have hT : s.TypeIs (.ref e) "enumerate" := ⟨_, he, rfl⟩
  unfold pyNext
  refine wpAny_bind (wpAny_attempt (wpAny_callSpecial?_slot (name := Str.ofString "__next__") hT PySem.F.slot_enumerate_next
    (wpAny_call_entry PySem.F.slot_enumerate_next hT PySem.F.entry_enumerate_next ?_ (PySem.F.args_enumerate_next_1 _))))
  show wpAny _ _ (field (.ref e) 2 >>= _) _ _ _
  refine wpAny_bind (wpAny_field he rfl (x := .ref it) rfl ?_)
  refine wpAny_bind (wpAny_nextOf_list_end hh hit hl hx fun h' x he' hx' => ?_)
  obtain ⟨o, ho, hc⟩ := hx'
  refine wpAny_bind (wpAny_isInstance (T := "StopIteration") (b := true) ⟨o, ho, hc⟩ isSubtype_stop ?_)
  exact wpAny_pure (hQ _ he')
theorem turn_enum1 {P : Program} {w : World} {K : PySem.W.Frag} {elts : List Expr} {kk : Nat} {tpos : Pos} (a e it : Addr) :
    Turn P w K (.Tuple elts kk tpos) (Ite1 K a) [e, it] e (fun i h => (∃ old, IsEnum h e it ((i + 1 : Nat) : Int) old) ∧ h.IsListIter it a i ∧ e ≠ it) where
  mem := by simp
  obj := fun i h st b hb => by
    obtain ⟨⟨old, he⟩, ⟨o, ho, hc, hd⟩, _⟩ := st
    have e' : b = e ∨ b = it := by simpa using hb
    rcases e' with z | z
    · rw [z]; exact ⟨_, he, fun v q => nomatch q⟩
    · rw [z]; exact ⟨o, ho, fun v q => by rw [hd] at q; cases q⟩
  keep := fun i h h' st k => let ⟨⟨old, he⟩, hi, hne⟩ := st; ⟨⟨old, k e (by simp) _ he⟩, hi.at fun o q => k it (by simp) o q, hne⟩
  item := by
    intro X hP hw hK hc i pins s σ H E I hf st hg
    subst hP hw hK
    obtain ⟨⟨old, he⟩, hit, hne⟩ := st
    obtain ⟨xs, x, hq, hx⟩ := hg
    obtain ⟨its, rv, p, hz⟩ := I.list hq
    obtain ⟨u, hu, ru⟩ := rv.get hx
    have hel : e < s.heap.objs.size := Heap.lt_size he
    have hil : it < s.heap.objs.size := by obtain ⟨_, q, _⟩ := hit; exact Heap.lt_size q
    have hu' : its.toArray[i]? = some u := by simpa using hu
    obtain ⟨ne1, ne2⟩ := enum_ne he hit p.isList
    refine wpAny_pyNext_enum_itemC (Draws.list (A := X.A.in1) (I.ok.hd hc) it a ne1 its.toArray) he ⟨hit, p.isList⟩ (Array.getElem?_eq_some_iff.mp hu').1 hne (by simp [hne, ne2]) fun y h' tk hy ho st' hT hsz hk => ?_
    rw [hu'] at hy; cases hy
    refine ⟨_, rfl, wpAny_letOwnedTupleGo_enum (s := { s with heap := h', toks := tk + 1 }) ho fun h'' he' sb => ?_⟩
    have hT2 : h''.get? s.heap.objs.size = some { cls := .type "tuple", data := .seq #[.int ((i + 1 : Nat) : Int) tk, u] } := (sb.2 _ (Nat.ne_of_gt hel)).trans hT
    have new : ObjOk X.prog X.w (upd H s.heap.objs.size (.tup [.int ((i + 1 : Nat) : Int), x])) h'' s.heap.objs.size (.tup [.int ((i + 1 : Nat) : Int), x]) :=
      ⟨by show 2 ≤ sizeLine; decide, [.int ((i + 1 : Nat) : Int) tk, u], .cons ⟨_, rfl⟩ (.cons ru .nil), ⟨_, hT2, rfl, _, rfl⟩⟩
    have I1 : Inv X pins σ (upd H s.heap.objs.size (.tup [.int ((i + 1 : Nat) : Int), x])) { s with heap := h'', toks := tk + 1 } :=
      I.turnedNew (ch := [e, it]) (fun b ob hb q => (sb.2 b (fun z => hb (by simp [z]))).trans (hk b ob (fun z => hb (by simp [z])) (fun z => hb (by simp [z])) q)) hf (Nat.le_refl _) new
    refine ⟨.ref s.heap.objs.size, _, I1, rfl, ⟨_, x, rfl, I.hok.fresh (Nat.le_refl _), rfl, fun ys hy => by rw [I.list_inj hy hq]; exact hx⟩, ⟨⟨u, ?_⟩, st'.1.at fun o q => (sb.2 it (Ne.symm hne)).trans q, hne⟩, fun b hb => ?_⟩
    · have e1 : ((i + 1 + 1 : Nat) : Int) = ((i + 1 : Nat) : Int) + 1 := by omega
      rw [e1]; exact he'
    · have hb' : b < s.heap.objs.size := by
        have e' : b = e ∨ b = it := by simpa using hb
        rcases e' with z | z
        · rw [z]; exact hel
        · rw [z]; exact hil
      rw [upd_ne (Nat.ne_of_lt hb')]
      exact (hf b hb).1
  done := by
    intro X hP hw hK hc i pins s σ H E I hf st hg
    subst hP hw hK
    obtain ⟨⟨old, he⟩, hit, hne⟩ := st
    obtain ⟨xs, hq, hx⟩ := hg
    obtain ⟨its, rv, p, hz⟩ := I.list hq
    obtain ⟨f0, f1, f2, f3, f4, f5⟩ := hf it (by simp)
    have hl := rv.length
    exact enum_endC (I.ok.hd hc) he hit p.isList (by simp; omega) fun h' eb => ⟨rfl, I.turned (t' := s.toks) (fun b o hb q => eb b o hb q) f0 f1 f3 f4 f5⟩
  self := fun A i s Q E st h => let ⟨⟨_, he⟩, _⟩ := st; wpAny_pyIter_enum he h
theorem callWith_typeK {M : Model} {A : Around} {E : Value → Shared → Prop} {s : Shared} {env : PySem.Env} {pos : Pos} {T : String} {e : Expr} {rest : List Expr} {kws : List Keyword} {Q : Value → Shared → Prop}
    (h : wpAny M A (spliced (backTo pos (starEach (e :: rest) env))) (fun vs s₁ => wpAny M A (evalAll ((backToKw pos (keywordEach kws env)).map (·.2)))
      (fun kvs s₂ => wpAny M A (call (.type T) vs (((backToKw pos (keywordEach kws env)).filterMap (·.1)).zip kvs)) Q E s₂) E s₁) E s)
    (he : backTo pos (starEach (e :: rest) env) = (false, eval e env) :: backTo pos (starEach rest env))
    (hplain : (backTo pos (starEach (e :: rest) env)).any (·.1) = false)
    (hall : (backToKw pos (keywordEach kws env)).all (·.1.isSome) = true)
    (hkw : (backToKw pos (keywordEach kws env)).any (·.1.isNone) = false) :
    wpAny M A (callWith pos (.type T) [] (backTo pos (starEach (e :: rest) env)) (backToKw pos (keywordEach kws env))) Q E s := by
  have h2 : wpAny M A (evalArgs (.type T) true (backTo pos (starEach (e :: rest) env)) (backToKw pos (keywordEach kws env))) (fun a s₁ => wpAny M A (call (.type T) ([] ++ a.pos) a.kw) Q E s₁) E s := by
    rw [he] at h ⊢
    exact evalArgs_kwB hall h
  unfold callWith
  refine wpAny_bind (wpAny_holding (wpAny_mono h2 (fun a s₁ h₁ => wpAny_bind (wpAny_standAt ?_)) fun _ _ x => x))
  simp only [hplain, hkw, Bool.or_false]
  refine wpAny_bind (wpAny_pure ?_)
  exact wpAny_bind (wpAny_mono h₁ (fun r s₂ hr => wpAny_bind (wpAny_holding (wpAny_point (wpAny_pure hr)))) fun _ _ x => x)
def iEnum1 (K : PySem.W.Frag) (ta : TA) : TI := fun σ H R => ta σ H fun vs H1 => ∃ a xs, vs = [.ref a] ∧ SqL K H1 a xs ∧ R (Ite1 K a) H1
theorem pi_enum1 {X : Cx} {e : Expr} {ta : TA} {p pos tpos kpos cpos : Pos} {j : Nat} {elts : List Expr} {kk : Nat} (hg : Gl X "enumerate") (hm : X.mg "enumerate" = none) (ha : PA X [e] ta) (hs : starEach [e] X.env = [(false, eval e X.env)] := by rfl) :
    PI X (.Tuple elts kk tpos) (.Call (.Name "enumerate" p) [e] [⟨some "start", .Constant (.int 1) j cpos, kpos⟩] pos) (iEnum1 X.K ta) := by
  refine ⟨fun pins s σ H R I h => ?_⟩
  refine wpAny_Call_Name_kw (ld_blt I hg hm boot_enumerate (callWith_typeK (thn (ha.run pos pins s σ H _ I h) fun us s1 ⟨vs, H1, I1, r1, q1⟩ => ?_) (by rw [hs]; rfl) (by rw [hs]; rfl) (by rfl) (by rfl)))
  obtain ⟨a, xs, ex, hq, q⟩ := q1
  subst ex
  cases r1 with
  | cons r rr =>
    cases rr
    cases r
    obtain ⟨its, rv, p', hz⟩ := I1.list hq
    refine kws_cons (wpAny_Constant_int (kws_nil ?_))
    refine enum_begins_start (begins_list a its.toArray) (by exact p'.isList) (by decide) (by decide) fun h' he hit hsz hk => wpAny_pyIter_enum he ?_
    have I2 : Inv X pins σ H1 { s1 with heap := h', toks := s1.toks + 1 } := (I1.tok _).kept (t' := s1.toks + 1) hk
    refine ⟨s1.heap.objs.size + 1, [s1.heap.objs.size + 1, s1.heap.objs.size], _, _, H1, rfl, I2, turn_enum1 a (s1.heap.objs.size + 1) s1.heap.objs.size, ⟨⟨.none, he⟩, ⟨_, hit, rfl, rfl⟩, Nat.succ_ne_self _⟩, fun b hb => ?_, q⟩
    have e' : b = s1.heap.objs.size + 1 ∨ b = s1.heap.objs.size := by simpa using hb
    have hle : s1.heap.objs.size ≤ b := by
      rcases e' with z | z
      · rw [z]; exact Nat.le_add_right _ _
      · rw [z]; exact Nat.le_refl _
    exact I1.fpOk hle (I1.hok.fresh hle)
def itsE1 (w : WA) : WI := fun px env Q => w px env fun ds env1 => match ds with
  | [d] => dirty d = false ∧ (match asL d with
    | some es => dirtys es = false ∧ Q (enumD 1 es) env1
    | none => False)
  | _ => False
theorem simI_E1 {K : KW} {E : EX} {w : WA} {t : TA} (h : SimA K E w t) : SimI K E (itsE1 w) (iEnum1 K t) := by
  intro px F0 H0 F H σ env pv pd L S Q' R w1 k
  refine h px F0 H0 F H σ env pv pd L S _ _ w1 fun ds env1 vs F1 H1 A w2 eF eH rs S1 => ?_
  unfold itsE1 at w1
  split at w2
  · rename_i d
    obtain ⟨hd, w2⟩ := w2
    obtain ⟨v, rfl, r⟩ := reps1 rs
    have := r.clean hd
    subst this
    split at w2
    · rename_i es he
      obtain ⟨a, vs, B, rfl, hq, rs', _⟩ := rep_asL S1.sub r he
      refine ⟨a, vs, rfl, hq, k _ env1 _ F1 H1 [.ref a] [d] w2.2 eF eH (S1.clean r) ⟨rfl, fun F H A i e hs rr hi => ?_, fun F H A hs rr => ?_⟩⟩
      · cases rr with
        | cons r1 _ _ =>
          obtain ⟨a', vs', B', e1, hq', rs', _⟩ := rep_asL hs r1 he
          cases e1
          rw [enumD_get] at hi
          cases hx : es[i]? with
          | none => rw [hx] at hi; cases hi
          | some y =>
            rw [hx] at hi
            simp only [Option.map_some, Option.some.injEq] at hi
            obtain ⟨x, C, hx', rx, _⟩ := rs'.get hx
            have cl := rx.clean (dirtys_false.mp w2.1 y (List.mem_of_getElem? hx))
            subst cl
            refine ⟨⟨vs', x, hq', hx'⟩, fun z H' yl => ?_⟩
            obtain ⟨T, x2, rfl, hT, rfl, f⟩ := yl
            have := f vs' hq'
            rw [hx'] at this; cases this
            refine ⟨Ex.new hT, ?_⟩
            rw [← hi, Nat.add_comm 1 i]
            exact .tup upd_same (.cons (.int _) (.cons (rx.ex (Same.refl _) (Ex.new hT)) .nil rfl) rfl)
      · cases rr with
        | cons r1 _ _ =>
          obtain ⟨a', vs', B', e1, hq', rs', _⟩ := rep_asL hs r1 he
          cases e1
          exact ⟨vs', hq', by rw [enumD_len, rs'.length]; exact Nat.le_refl _⟩
    · exact w2.elim
  · exact w2.elim
theorem n_E1 {X : Cx} {E : EX} {e : Expr} {wa : WA} {p pos tpos kpos cpos : Pos} {j : Nat} {elts : List Expr} {kk : Nat} (hg : Gl X "enumerate") (hm : X.mg "enumerate" = none) (h : DA X E [e] wa) (hs : starEach [e] X.env = [(false, eval e X.env)] := by rfl) :
    DI X E (.Tuple elts kk tpos) (.Call (.Name "enumerate" p) [e] [⟨some "start", .Constant (.int 1) j cpos, kpos⟩] pos) (itsE1 wa) := by
  obtain ⟨t, pp, s⟩ := h.ex
  exact ⟨_, pi_enum1 hg hm pp hs, simI_E1 s⟩
theorem enum1_get {α : Type} {f : α → D} {xs : List α} {i : Nat} {d : D} (h : (enumD 1 (xs.map f))[i]? = some d) : ∃ a, xs[i]? = some a ∧ d = .tup [.int ((i : Int) + 1), f a] := by
  rw [enumD_get, List.getElem?_map] at h
  cases e : xs[i]? with
  | none => rw [e] at h; cases h
  | some a =>
    rw [e] at h
    simp only [Option.map_some, Option.some.injEq] at h
    refine ⟨a, rfl, ?_⟩
    rw [← h, show ((1 + i : Nat) : Int) = (i : Int) + 1 from by omega]
end Tm

set_option Elab.async false
set_option linter.all false
set_option maxRecDepth 100000
set_option maxHeartbeats 1000000
/-! places within owned data: read (borrowed), changed in place -/
namespace Tm
open PySem PySem.Spec PyProof.Rows L2

/-! ### xs[i], the item borrowed -/
def bI (o : Option D) (Q : D → Prop) : Prop := match o with
  | some d => Q d
  | none => False
theorem bI_some {d : D} {Q : D → Prop} : bI (some d) Q = Q d := rfl
theorem bI_of {o : Option D} {d : D} {Q : D → Prop} (e : o = some d) (h : Q d) : bI o Q := by rw [e]; exact h
theorem bI_is {o : Option D} {Q : D → Prop} (h : bI o Q) : ∃ d, o = some d ∧ Q d := by
  cases o with
  | some d => exact ⟨d, rfl, h⟩
  | none => exact h.elim
def gIxB : G2
  | .lst _ ds, .int i, Q => bI (atI ds i) Q
  | .tup ds, .int i, Q => bI (atI ds i) Q
  | .pin _ ds, .int i, Q => bI (atI ds i) Q
  | _, _, _ => False
theorem gIxB_pin {a : Addr} {ds : List D} {i : Int} {Q : D → Prop} : gIxB (.pin a ds) (.int i) Q = bI (atI ds i) Q := rfl
theorem gIxB_lst {o : Bool} {ds : List D} {i : Int} {Q : D → Prop} : gIxB (.lst o ds) (.int i) Q = bI (atI ds i) Q := rfl
theorem gIxB_tup {ds : List D} {i : Int} {Q : D → Prop} : gIxB (.tup ds) (.int i) Q = bI (atI ds i) Q := rfl
def wIxB (wa wb : WE) : WE := fun px env Q => wa px env fun a _ env1 => wb px env1 fun k _ env2 => gIxB a k fun d => Q d (dirty d) env2
theorem Res.borrow {K : KW} {F0 H0 F H : Hp} {σ : L2.St} {env : Env} {pv : List V} {pd : List D} {v : V} {d : D} {A : List Addr} (S : Sta K F0 H0 F H σ env pv pd) (r : Rep K F H v d A) : Res K F0 H0 F H σ env pv pd v d (dirty d) := by
  cases h : dirty d with
  | true => exact ⟨⟨A, r⟩, S⟩
  | false =>
    have e := r.clean h
    subst e
    exact S.clean r
theorem sim_ixB {K : KW} {E : EX} {wa wb : WE} {ta tb : TE} (ha : Sim K E wa ta) (hb : Sim K E wb tb) : Sim K E (wIxB wa wb) (tOp (rIx K) ta tb) := by
  intro px F0 H0 F H σ env pv pd L S Q' Q w k
  refine ha px F0 H0 F H σ env pv pd L S _ _ w fun a ba env1 x F1 H1 w1 eF1 eH1 R1 => ?_
  obtain ⟨⟨A, rx⟩, S1⟩ := R1.forget
  refine hb px F0 H0 F1 H1 σ env1 pv pd L S1 _ _ w1 fun b bb env2 y F2 H2 w2 eF2 eH2 R2 => ?_
  obtain ⟨⟨B, ry⟩, S2⟩ := R2.forget
  have rx := rx.ex eF2 eH2
  unfold gIxB at w2
  split at w2
  · rename_i o ds i
    rw [rep_int ry]
    obtain ⟨d, hd, q⟩ := bI_is w2
    obtain ⟨a, vs, C, rfl, hq, rs⟩ := rep_lst S2.sub rx
    obtain ⟨v, B, e2, r2⟩ := reps_atI rs hd
    exact .inl ⟨a, vs, _, v, rfl, rfl, .inl (.inl hq), e2, k d _ env2 v F2 H2 q (eF1.trans eF2) (eH1.trans eH2) (Res.borrow S2 r2)⟩
  · rename_i ds i
    rw [rep_int ry]
    obtain ⟨d, hd, q⟩ := bI_is w2
    obtain ⟨a, vs, rfl, hq, rs⟩ := rep_tup rx
    obtain ⟨v, B, e2, r2⟩ := reps_atI rs hd
    exact .inr (.inl ⟨a, vs, _, v, rfl, rfl, hq, e2, k d _ env2 v F2 H2 q (eF1.trans eF2) (eH1.trans eH2) (Res.borrow S2 r2)⟩)
  · rename_i a ds i
    rw [rep_int ry]
    obtain ⟨d, hd, q⟩ := bI_is w2
    cases rx with
    | pin hq rs =>
      obtain ⟨v, B, e2, r2⟩ := reps_atI rs hd
      exact .inl ⟨_, _, _, v, rfl, rfl, .inl (.inl hq), e2, k d _ env2 v F2 H2 q (eF1.trans eF2) (eH1.trans eH2) (Res.borrow S2 r2)⟩
  · exact w2.elim
theorem d_ixB {X : Cx} {E : EX} {a b : Expr} {wa wb : WE} {pos : Pos} (ha : DE X E a wa) (hb : DE X E b wb) (hs : PlainIx b := by exact fun _ _ => rfl) : DE X E (.Subscript a b pos) (wIxB wa wb) := by
  obtain ⟨ta, pa, sa⟩ := ha.ex
  obtain ⟨tb, pb, sb⟩ := hb.ex
  exact ⟨_, pe_ix ix_seq pa pb hs, sim_ixB sa sb⟩

/-! ### paths -/
/-- the part of owned data at a path -/
def subP : D → List Nat → Option D
  | d, [] => some d
  | .lst true ds, j :: p => match ds[j]? with
    | some d => subP d p
    | none => none
  | .tup ds, j :: p => match ds[j]? with
    | some d => subP d p
    | none => none
  | .dct true _ ds, j :: p => match ds[j]? with
    | some d => subP d p
    | none => none
  | .pin _ ds, j :: p => match ds[j]? with
    | some d => subP d p
    | none => none
  | .obj .t _ _ ds, j :: p => match ds[j]? with
    | some d => subP d p
    | none => none
  | .obj (.p _) _ _ ds, j :: p => match ds[j]? with
    | some d => subP d p
    | none => none
  | _, _ :: _ => none
def setP : D → List Nat → D → D
  | _, [], e => e
  | .lst o ds, j :: p, e => match ds[j]? with
    | some d => .lst o (ds.set j (setP d p e))
    | none => .lst o ds
  | .tup ds, j :: p, e => match ds[j]? with
    | some d => .tup (ds.set j (setP d p e))
    | none => .tup ds
  | .dct o kd ds, j :: p, e => match ds[j]? with
    | some d => .dct o kd (ds.set j (setP d p e))
    | none => .dct o kd ds
  | .pin a ds, j :: p, e => match ds[j]? with
    | some d => .pin a (ds.set j (setP d p e))
    | none => .pin a ds
  | .obj o c ns ds, j :: p, e => match ds[j]? with
    | some d => .obj o c ns (ds.set j (setP d p e))
    | none => .obj o c ns ds
  | d, _ :: _, _ => d
def stepO (o : Option D) (p : List Nat) : Option D := match o with
  | some d => subP d p
  | none => none
theorem stepO_some {d : D} {p : List Nat} : stepO (some d) p = subP d p := rfl
theorem subP_nil {d : D} : subP d [] = some d := by cases d <;> rfl
theorem subP_lst {ds : List D} {j : Nat} {p : List Nat} : subP (.lst true ds) (j :: p) = stepO ds[j]? p := by unfold stepO; rw [subP]
theorem subP_tup {ds : List D} {j : Nat} {p : List Nat} : subP (.tup ds) (j :: p) = stepO ds[j]? p := by unfold stepO; rw [subP]
theorem subP_dct {kd : DKeys} {ds : List D} {j : Nat} {p : List Nat} : subP (.dct true kd ds) (j :: p) = stepO ds[j]? p := by unfold stepO; rw [subP]
theorem subP_pin {a : Addr} {ds : List D} {j : Nat} {p : List Nat} : subP (.pin a ds) (j :: p) = stepO ds[j]? p := by unfold stepO; rw [subP]
theorem subP_objT {c : Str} {ns : List Str} {ds : List D} {j : Nat} {p : List Nat} : subP (.obj .t c ns ds) (j :: p) = stepO ds[j]? p := by unfold stepO; rw [subP]
theorem subP_objP {a : Addr} {c : Str} {ns : List Str} {ds : List D} {j : Nat} {p : List Nat} : subP (.obj (.p a) c ns ds) (j :: p) = stepO ds[j]? p := by unfold stepO; rw [subP]
theorem setP_nil {d e : D} : setP d [] e = e := by cases d <;> rfl
theorem set_none {ds : List D} {j : Nat} {e : D} (h : ds[j]? = none) : ds.set j e = ds := List.set_eq_of_length_le (List.getElem?_eq_none_iff.mp h)
theorem setP1_lst {o : Bool} {ds : List D} {j : Nat} {e : D} : setP (.lst o ds) [j] e = .lst o (ds.set j e) := by
  rw [setP]
  cases h : ds[j]? with
  | none => simp only; rw [set_none h]
  | some d => simp only; rw [setP_nil]
theorem setP1_tup {ds : List D} {j : Nat} {e : D} : setP (.tup ds) [j] e = .tup (ds.set j e) := by
  rw [setP]
  cases h : ds[j]? with
  | none => simp only; rw [set_none h]
  | some d => simp only; rw [setP_nil]
theorem setP1_dct {o : Bool} {kd : DKeys} {ds : List D} {j : Nat} {e : D} : setP (.dct o kd ds) [j] e = .dct o kd (ds.set j e) := by
  rw [setP]
  cases h : ds[j]? with
  | none => simp only; rw [set_none h]
  | some d => simp only; rw [setP_nil]
theorem setP1_pin {a : Addr} {ds : List D} {j : Nat} {e : D} : setP (.pin a ds) [j] e = .pin a (ds.set j e) := by
  rw [setP]
  cases h : ds[j]? with
  | none => simp only; rw [set_none h]
  | some d => simp only; rw [setP_nil]
theorem setP1_obj {o : Own} {c : Str} {ns : List Str} {ds : List D} {j : Nat} {e : D} : setP (.obj o c ns ds) [j] e = .obj o c ns (ds.set j e) := by
  rw [setP]
  cases h : ds[j]? with
  | none => simp only; rw [set_none h]
  | some d => simp only; rw [setP_nil]
theorem setP_obj {o : Own} {c : Str} {ns : List Str} {ds : List D} {j : Nat} {p : List Nat} {d e : D} (h : ds[j]? = some d) : setP (.obj o c ns ds) (j :: p) e = .obj o c ns (ds.set j (setP d p e)) := by simp [setP, h]
theorem setP_pin {a : Addr} {ds : List D} {j : Nat} {p : List Nat} {d e : D} (h : ds[j]? = some d) : setP (.pin a ds) (j :: p) e = .pin a (ds.set j (setP d p e)) := by simp [setP, h]
theorem setP_lst {o : Bool} {ds : List D} {j : Nat} {p : List Nat} {d e : D} (h : ds[j]? = some d) : setP (.lst o ds) (j :: p) e = .lst o (ds.set j (setP d p e)) := by simp [setP, h]
theorem setP_tup {ds : List D} {j : Nat} {p : List Nat} {d e : D} (h : ds[j]? = some d) : setP (.tup ds) (j :: p) e = .tup (ds.set j (setP d p e)) := by simp [setP, h]
theorem setP_dct {o : Bool} {kd : DKeys} {ds : List D} {j : Nat} {p : List Nat} {d e : D} (h : ds[j]? = some d) : setP (.dct o kd ds) (j :: p) e = .dct o kd (ds.set j (setP d p e)) := by simp [setP, h]
/-- what stands at a path in the heap -/
def kidsV : HO → Option (List V)
  | .lst vs => some vs
  | .tup vs => some vs
  | .dK kvs => some (kvs.map (·.2))
  | .dT kvs => some (kvs.map (·.2))
  | .ins _ _ fs => some (fs.map (·.2))
  | _ => none
def valP (H : Hp) : V → List Nat → Option V
  | v, [] => some v
  | .ref a, j :: p => match H a with
    | some o => match kidsV o with
      | some vs => match vs[j]? with
        | some v => valP H v p
        | none => none
      | none => none
    | none => none
  | _, _ :: _ => none
theorem valP_mono {H H' : Hp} (e : Ex H H') : ∀ {p : List Nat} {v u : V}, valP H v p = some u → valP H' v p = some u
  | [], v, u, h => h
  | j :: p, v, u, h => by
    cases v with
    | ref a =>
      simp only [valP] at h ⊢
      cases ha : H a with
      | none => rw [ha] at h; cases h
      | some o =>
        rw [ha] at h
        rw [e _ _ ha]
        simp only at h ⊢
        cases hk : kidsV o with
        | none => rw [hk] at h; cases h
        | some vs =>
          rw [hk] at h
          simp only at h ⊢
          cases hj : vs[j]? with
          | none => rw [hj] at h; cases h
          | some w =>
            rw [hj] at h
            simp only at h ⊢
            exact valP_mono e h
    | _ => cases h
theorem valP_lst {H : Hp} {a : Addr} {vs : List V} {j : Nat} {p : List Nat} {v : V} (h : H a = some (.lst vs)) (hj : vs[j]? = some v) : valP H (.ref a) (j :: p) = valP H v p := by
  simp [valP, h, kidsV, hj]
theorem valP_tup {H : Hp} {a : Addr} {vs : List V} {j : Nat} {p : List Nat} {v : V} (h : H a = some (.tup vs)) (hj : vs[j]? = some v) : valP H (.ref a) (j :: p) = valP H v p := by
  simp [valP, h, kidsV, hj]
theorem zip_snd {α β : Type} : ∀ {ks : List α} {vs : List β}, ks.length = vs.length → (ks.zip vs).map (·.2) = vs
  | [], [], _ => rfl
  | k :: ks, v :: vs, h => by simp [zip_snd (ks := ks) (vs := vs) (by simpa using h)]
  | [], v :: vs, h => by simp at h
  | k :: ks, [], h => by simp at h
theorem kids_dct {kd : DKeys} {vs : List V} (h : kd.len = vs.length) : kidsV (kd.ho vs) = some vs := by
  cases kd with
  | k ks => simp only [DKeys.ho, kidsV]; rw [zip_snd h]
  | t ks => simp only [DKeys.ho, kidsV]; rw [zip_snd h]
theorem valP_dct {H : Hp} {a : Addr} {kd : DKeys} {vs : List V} {j : Nat} {p : List Nat} {v : V} (h : H a = some (kd.ho vs)) (hl : kd.len = vs.length) (hj : vs[j]? = some v) : valP H (.ref a) (j :: p) = valP H v p := by
  simp [valP, h, kids_dct hl, hj]
theorem valP_ins {H : Hp} {a C dx : Addr} {ns : List Str} {vs : List V} {j : Nat} {p : List Nat} {v : V} (h : H a = some (.ins C dx (ns.zip vs))) (hl : ns.length = vs.length) (hj : vs[j]? = some v) : valP H (.ref a) (j :: p) = valP H v p := by
  simp [valP, h, kidsV, zip_snd hl, hj]
theorem valP_app {H : Hp} : ∀ {p q : List Nat} {v u : V}, valP H v p = some u → valP H v (p ++ q) = valP H u q
  | [], q, v, u, h => by cases h; rfl
  | j :: p, q, v, u, h => by
    cases v with
    | ref a =>
      simp only [valP, List.cons_append] at h ⊢
      cases ha : H a with
      | none => rw [ha] at h; cases h
      | some o =>
        rw [ha] at h
        simp only at h ⊢
        cases hk : kidsV o with
        | none => rw [hk] at h; cases h
        | some vs =>
          rw [hk] at h
          simp only at h ⊢
          cases hj : vs[j]? with
          | none => rw [hj] at h; cases h
          | some w =>
            rw [hj] at h
            simp only at h ⊢
            exact valP_app h
    | _ => cases h
section
variable {K : KW} {F F' H H' : Hp}
theorem Reps.kid : ∀ {vs : List V} {ds : List D} {A : List Addr} {j : Nat} {d : D}, Reps K F H vs ds A → ds[j]? = some d → ∃ v A1 Aj A2, vs[j]? = some v ∧ A = A1 ++ Aj ++ A2 ∧ Rep K F H v d Aj ∧
    ∀ {F' H' : Hp} {d' : D} {Aj' : List Addr}, Ex F F' → (∀ a xs, H a = some (.tup xs) → H' a = some (.tup xs)) → (∀ a ∈ A1 ++ A2, H' a = H a) → Rep K F' H' v d' Aj' → Reps K F' H' vs (ds.set j d') (A1 ++ Aj' ++ A2)
  | _, _, _, 0, d, .cons (A := A) (B := B) h r e, q => by
    simp at q; subst q
    exact ⟨_, [], A, B, rfl, by rw [e]; rfl, h, fun hF hT hA h' => .cons h' (r.mono hF hT fun a ha => hA a (by simpa using ha)) (by simp)⟩
  | _, _, _, j + 1, d, .cons (A := A) h r e, q => by
    obtain ⟨v, A1, Aj, A2, h1, h2, h3, h5⟩ := Reps.kid (j := j) (d := d) r (by simpa using q)
    refine ⟨v, A ++ A1, Aj, A2, by simpa using h1, by rw [e, h2]; simp [List.append_assoc], h3, fun hF hT hA h' => ?_⟩
    refine .cons (h.mono hF hT fun a ha => hA a (by simp [ha])) (h5 hF hT (fun a ha => hA a (by simp at ha ⊢; rcases ha with ha | ha <;> simp [ha])) h') (by simp [List.append_assoc])
/-- an item stored anew -/
theorem Reps.kidV : ∀ {vs : List V} {ds : List D} {A : List Addr} {j : Nat} {d : D}, Reps K F H vs ds A → ds[j]? = some d → ∃ v A1 Aj A2, vs[j]? = some v ∧ A = A1 ++ Aj ++ A2 ∧ Rep K F H v d Aj ∧
    ∀ {F' H' : Hp} {v' : V} {d' : D} {Aj' : List Addr}, Ex F F' → (∀ a xs, H a = some (.tup xs) → H' a = some (.tup xs)) → (∀ a ∈ A1 ++ A2, H' a = H a) → Rep K F' H' v' d' Aj' → Reps K F' H' (vs.set j v') (ds.set j d') (A1 ++ Aj' ++ A2)
  | _, _, _, 0, d, .cons (A := A) (B := B) h r e, q => by
    simp at q; subst q
    exact ⟨_, [], A, B, rfl, by rw [e]; rfl, h, fun hF hT hA h' => .cons h' (r.mono hF hT fun a ha => hA a (by simpa using ha)) (by simp)⟩
  | _, _, _, j + 1, d, .cons (A := A) h r e, q => by
    obtain ⟨v, A1, Aj, A2, h1, h2, h3, h5⟩ := Reps.kidV (j := j) (d := d) r (by simpa using q)
    refine ⟨v, A ++ A1, Aj, A2, by simpa using h1, by rw [e, h2]; simp [List.append_assoc], h3, fun hF hT hA h' => ?_⟩
    refine .cons (h.mono hF hT fun a ha => hA a (by simp [ha])) (h5 hF hT (fun a ha => hA a (by simp at ha ⊢; rcases ha with ha | ha <;> simp [ha])) h') (by simp [List.append_assoc])
theorem Rep.path : ∀ {p : List Nat} {v : V} {d e : D} {A : List Addr}, Rep K F H v d A → subP d p = some e → ∃ v' A1 Ae A2, valP H v p = some v' ∧ A = A1 ++ Ae ++ A2 ∧ Rep K F H v' e Ae ∧
    ∀ {F' H' : Hp} {e' : D} {Ae' : List Addr}, Ex F F' → (∀ a xs, H a = some (.tup xs) → H' a = some (.tup xs)) → (∀ a ∈ A1 ++ A2, H' a = H a) → Rep K F' H' v' e' Ae' → Rep K F' H' v (setP d p e') (A1 ++ Ae' ++ A2)
  | [], v, d, e, A, r, h => by
    have h : d = e := by cases d <;> simpa [subP] using h
    subst h
    refine ⟨v, [], A, [], rfl, by simp, r, fun {F' H' e' Ae'} hF hT hA h' => ?_⟩
    have : setP d [] e' = e' := by cases d <;> rfl
    rw [this]; simpa using h'
  | j :: p, v, d, e, A, r, h => by
    cases r with
    | tup hq rs =>
      rename_i a vs ds
      simp only [subP] at h
      cases hj : ds[j]? with
      | none => rw [hj] at h; cases h
      | some d1 =>
        rw [hj] at h
        obtain ⟨v1, A1, Aj, A2, e1, e2, r1, back⟩ := rs.kid hj
        obtain ⟨v2, B1, Be, B2, g1, g2, r2, back2⟩ := Rep.path (p := p) r1 h
        refine ⟨v2, A1 ++ B1, Be, B2 ++ A2, by rw [valP_tup hq e1]; exact g1, by rw [e2, g2]; simp [List.append_assoc], r2, fun {F' H' e' Ae'} hF hT hA h' => ?_⟩
        have r3 := back2 hF hT (fun a ha => hA a (by simp at ha ⊢; rcases ha with ha | ha <;> simp [ha])) h'
        have r4 := back hF hT (fun a ha => hA a (by simp at ha ⊢; rcases ha with ha | ha <;> simp [ha])) r3
        have es : setP (.tup ds) (j :: p) e' = .tup (ds.set j (setP d1 p e')) := by simp [setP, hj]
        rw [es, show A1 ++ B1 ++ Ae' ++ (B2 ++ A2) = A1 ++ (B1 ++ Ae' ++ B2) ++ A2 by simp [List.append_assoc]]
        exact .tup (hT _ _ hq) r4
    | own hq rs =>
      rename_i a vs ds A0
      simp only [subP] at h
      cases hj : ds[j]? with
      | none => rw [hj] at h; cases h
      | some d1 =>
        rw [hj] at h
        obtain ⟨v1, A1, Aj, A2, e1, e2, r1, back⟩ := rs.kid hj
        obtain ⟨v2, B1, Be, B2, g1, g2, r2, back2⟩ := Rep.path (p := p) r1 h
        refine ⟨v2, a :: (A1 ++ B1), Be, B2 ++ A2, by rw [valP_lst hq e1]; exact g1, by rw [e2, g2]; simp [List.append_assoc], r2, fun {F' H' e' Ae'} hF hT hA h' => ?_⟩
        have r3 := back2 hF hT (fun a ha => hA a (by simp at ha ⊢; rcases ha with ha | ha <;> simp [ha])) h'
        have r4 := back hF hT (fun a ha => hA a (by simp at ha ⊢; rcases ha with ha | ha <;> simp [ha])) r3
        have es : setP (.lst true ds) (j :: p) e' = .lst true (ds.set j (setP d1 p e')) := by simp [setP, hj]
        rw [es, show a :: (A1 ++ B1) ++ Ae' ++ (B2 ++ A2) = a :: (A1 ++ (B1 ++ Ae' ++ B2) ++ A2) by simp [List.append_assoc]]
        exact .own ((hA a (by simp)).trans hq) r4
    | dO hq hl rs =>
      rename_i a vs kd ds A0
      simp only [subP] at h
      cases hj : ds[j]? with
      | none => rw [hj] at h; cases h
      | some d1 =>
        rw [hj] at h
        obtain ⟨v1, A1, Aj, A2, e1, e2, r1, back⟩ := rs.kid hj
        obtain ⟨v2, B1, Be, B2, g1, g2, r2, back2⟩ := Rep.path (p := p) r1 h
        refine ⟨v2, a :: (A1 ++ B1), Be, B2 ++ A2, by rw [valP_dct hq hl e1]; exact g1, by rw [e2, g2]; simp [List.append_assoc], r2, fun {F' H' e' Ae'} hF hT hA h' => ?_⟩
        have r3 := back2 hF hT (fun a ha => hA a (by simp at ha ⊢; rcases ha with ha | ha <;> simp [ha])) h'
        have r4 := back hF hT (fun a ha => hA a (by simp at ha ⊢; rcases ha with ha | ha <;> simp [ha])) r3
        have es : setP (.dct true kd ds) (j :: p) e' = .dct true kd (ds.set j (setP d1 p e')) := by simp [setP, hj]
        rw [es, show a :: (A1 ++ B1) ++ Ae' ++ (B2 ++ A2) = a :: (A1 ++ (B1 ++ Ae' ++ B2) ++ A2) by simp [List.append_assoc]]
        exact .dO ((hA a (by simp)).trans hq) hl r4
    | pin hq rs =>
      rename_i a vs ds A0
      simp only [subP] at h
      cases hj : ds[j]? with
      | none => rw [hj] at h; cases h
      | some d1 =>
        rw [hj] at h
        obtain ⟨v1, A1, Aj, A2, e1, e2, r1, back⟩ := rs.kid hj
        obtain ⟨v2, B1, Be, B2, g1, g2, r2, back2⟩ := Rep.path (p := p) r1 h
        refine ⟨v2, a :: (A1 ++ B1), Be, B2 ++ A2, by rw [valP_lst hq e1]; exact g1, by rw [e2, g2]; simp [List.append_assoc], r2, fun {F' H' e' Ae'} hF hT hA h' => ?_⟩
        have r3 := back2 hF hT (fun a ha => hA a (by simp at ha ⊢; rcases ha with ha | ha <;> simp [ha])) h'
        have r4 := back hF hT (fun a ha => hA a (by simp at ha ⊢; rcases ha with ha | ha <;> simp [ha])) r3
        have es : setP (.pin a ds) (j :: p) e' = .pin a (ds.set j (setP d1 p e')) := by simp [setP, hj]
        rw [es, show a :: (A1 ++ B1) ++ Ae' ++ (B2 ++ A2) = a :: (A1 ++ (B1 ++ Ae' ++ B2) ++ A2) by simp [List.append_assoc]]
        exact .pin ((hA a (by simp)).trans hq) r4
    | oO hq hn hl rs =>
      rename_i a C dx c ns vs ds A0
      simp only [subP] at h
      cases hj : ds[j]? with
      | none => rw [hj] at h; cases h
      | some d1 =>
        rw [hj] at h
        obtain ⟨v1, A1, Aj, A2, e1, e2, r1, back⟩ := rs.kid hj
        obtain ⟨v2, B1, Be, B2, g1, g2, r2, back2⟩ := Rep.path (p := p) r1 h
        refine ⟨v2, a :: (A1 ++ B1), Be, B2 ++ A2, by rw [valP_ins hq hl e1]; exact g1, by rw [e2, g2]; simp [List.append_assoc], r2, fun {F' H' e' Ae'} hF hT hA h' => ?_⟩
        have r3 := back2 hF hT (fun a ha => hA a (by simp at ha ⊢; rcases ha with ha | ha <;> simp [ha])) h'
        have r4 := back hF hT (fun a ha => hA a (by simp at ha ⊢; rcases ha with ha | ha <;> simp [ha])) r3
        have es : setP (.obj .t c ns ds) (j :: p) e' = .obj .t c ns (ds.set j (setP d1 p e')) := by simp [setP, hj]
        rw [es, show a :: (A1 ++ B1) ++ Ae' ++ (B2 ++ A2) = a :: (A1 ++ (B1 ++ Ae' ++ B2) ++ A2) by simp [List.append_assoc]]
        exact .oO ((hA a (by simp)).trans hq) hn hl r4
    | oP hq hn hl rs =>
      rename_i a C dx c ns vs ds A0
      simp only [subP] at h
      cases hj : ds[j]? with
      | none => rw [hj] at h; cases h
      | some d1 =>
        rw [hj] at h
        obtain ⟨v1, A1, Aj, A2, e1, e2, r1, back⟩ := rs.kid hj
        obtain ⟨v2, B1, Be, B2, g1, g2, r2, back2⟩ := Rep.path (p := p) r1 h
        refine ⟨v2, a :: (A1 ++ B1), Be, B2 ++ A2, by rw [valP_ins hq hl e1]; exact g1, by rw [e2, g2]; simp [List.append_assoc], r2, fun {F' H' e' Ae'} hF hT hA h' => ?_⟩
        have r3 := back2 hF hT (fun a ha => hA a (by simp at ha ⊢; rcases ha with ha | ha <;> simp [ha])) h'
        have r4 := back hF hT (fun a ha => hA a (by simp at ha ⊢; rcases ha with ha | ha <;> simp [ha])) r3
        have es : setP (.obj (.p a) c ns ds) (j :: p) e' = .obj (.p a) c ns (ds.set j (setP d1 p e')) := by simp [setP, hj]
        rw [es, show a :: (A1 ++ B1) ++ Ae' ++ (B2 ++ A2) = a :: (A1 ++ (B1 ++ Ae' ++ B2) ++ A2) by simp [List.append_assoc]]
        exact .oP ((hA a (by simp)).trans hq) hn hl r4
    | _ => simp [subP] at h
end
def subE (env : Env) (i : Nat) (p : List Nat) : Option D := match env[i]? with
  | some (some d) => subP d p
  | _ => none
def setE (env : Env) (i : Nat) (p : List Nat) (e : D) : Env := match env[i]? with
  | some (some d) => env.set i (some (setP d p e))
  | _ => env
/-- the value of slot i at a path -/
def valE (σ : L2.St) (H : Hp) (i : Nat) (p : List Nat) : Option V := match σ[i]? with
  | some (some v) => valP H v p
  | _ => none
theorem valE_mono {σ : L2.St} {H H' : Hp} {i : Nat} {p : List Nat} {v : V} (e : Ex H H') (h : valE σ H i p = some v) : valE σ H' i p = some v := by
  unfold valE at h ⊢
  split at h
  · exact valP_mono e h
  · cases h
section
variable {K : KW} {F0 H0 F F' H H' : Hp} {σ : L2.St} {env : Env} {pv : List V} {pd : List D}
theorem ho_upd {a : Addr} {o o' : HO} (hn : ∀ xs, o ≠ .tup xs) (h : H a = some o) : ∀ b xs, H b = some (.tup xs) → upd H a o' b = some (.tup xs) := fun b xs q => by
  have ne : b ≠ a := fun z => by
    subst z
    rw [h] at q; cases q; exact hn _ rfl
  rw [upd_ne ne]; exact q
theorem Sta.seen {i : Nat} {p : List Nat} {e : D} (S : Sta K F0 H0 F H σ env pv pd) (h : subE env i p = some e) : ∃ v A, valE σ H i p = some v ∧ Rep K F H v e A := by
  unfold subE at h
  split at h
  · rename_i d hd
    obtain ⟨v, A, e1, r⟩ := S.slot hd
    obtain ⟨v', A1, Ae, A2, g1, g2, r2, _⟩ := r.path h
    exact ⟨v', Ae, by unfold valE; rw [e1]; exact g1, r2⟩
  · cases h
/-- what is owned at a path, changed in place: its items anew, out of its own and the newest values -/
theorem Sta.mutP {i : Nat} {p : List Nat} {e : D} {ys : List V} {es : List D} (hye : ys.length = es.length) (S : Sta K F0 H0 F H σ env (ys ++ pv) (es ++ pd)) (h : subE env i p = some e)
    (he : (∃ ds, e = .lst true ds) ∨ (∃ kd ds, e = .dct true kd ds) ∨ (∃ b ds, e = .pin b ds) ∨ (∃ c ns ds, e = .obj .t c ns ds) ∨ ∃ b c ns ds, e = .obj (.p b) c ns ds) :
    ∃ a o A' B, valE σ H i p = some (.ref a) ∧ H a = some o ∧ (∀ xs, o ≠ .tup xs) ∧ Rep K F H (.ref a) e (a :: A') ∧ Reps K F H ys es B ∧ (a :: (A' ++ B)).Nodup ∧
      ∀ (o' : HO) (e' : D) (A'' : List Addr),
        (∀ H', (∀ b xs, H b = some (.tup xs) → H' b = some (.tup xs)) → (∀ b, b ≠ a → H' b = H b) → H' a = some o' → Rep K F H' (.ref a) e' (a :: A'')) → A''.Nodup → (∀ b ∈ A'', b ∈ A' ++ B) →
        Sta K F0 H0 F (upd H a o') σ (setE env i p e') pv pd := by
  unfold subE at h
  split at h
  rotate_left
  · cases h
  rename_i d hd
  obtain ⟨A0, B0, h1, h2, h3, h4⟩ := S.own
  obtain ⟨d1, d2, B, B1, e1, e2, r1, r2⟩ := h2.split
  obtain ⟨rfl, rfl⟩ := List.append_inj e1 (by rw [← r1.length]; exact hye.symm)
  subst e2
  obtain ⟨v, S1, Si, S2, g1, g2, r, s, back⟩ := h1.at hd
  subst g2
  obtain ⟨v', P1, Pe, P2, q1, q2, re, back2⟩ := r.path h
  subst q2
  have key : ∃ a o A', v' = .ref a ∧ Pe = a :: A' ∧ H a = some o ∧ (∀ xs, o ≠ .tup xs) := by
    rcases he with ⟨ds, rfl⟩ | ⟨kd, ds, rfl⟩ | ⟨b, ds, rfl⟩ | ⟨c, ns, ds, rfl⟩ | ⟨b, c, ns, ds, rfl⟩
    · cases re with
      | own hq rs => exact ⟨_, _, _, rfl, rfl, hq, fun xs z => by cases z⟩
    · cases re with
      | dO hq hl rs => exact ⟨_, _, _, rfl, rfl, hq, fun xs z => by cases kd <;> cases z⟩
    · cases re with
      | pin hq rs => exact ⟨_, _, _, rfl, rfl, hq, fun xs z => by cases z⟩
    · cases re with
      | oO hq hn hl rs => exact ⟨_, _, _, rfl, rfl, hq, fun xs z => by cases z⟩
    · cases re with
      | oP hq hn hl rs => exact ⟨_, _, _, rfl, rfl, hq, fun xs z => by cases z⟩
  obtain ⟨a, o, A', rfl, rfl, hq, hno⟩ := key
  -- all that is owned, the changed place ahead
  have hperm : (S1 ++ (P1 ++ a :: A' ++ P2) ++ S2 ++ (B ++ B1)).Perm ((a :: (A' ++ B)) ++ ((S1 ++ S2) ++ (P1 ++ P2) ++ B1)) := by
    have p1 : (S1 ++ (P1 ++ a :: A' ++ P2) ++ S2 ++ (B ++ B1)).Perm ((a :: A') ++ (S1 ++ P1 ++ P2 ++ S2 ++ (B ++ B1))) := by
      rw [show S1 ++ (P1 ++ a :: A' ++ P2) ++ S2 ++ (B ++ B1) = (S1 ++ P1) ++ ((a :: A') ++ (P2 ++ S2 ++ (B ++ B1))) by simp [List.append_assoc]]
      refine List.Perm.trans (List.perm_append_comm_assoc (S1 ++ P1) (a :: A') (P2 ++ S2 ++ (B ++ B1))) ?_
      rw [show S1 ++ P1 ++ P2 ++ S2 ++ (B ++ B1) = S1 ++ P1 ++ (P2 ++ S2 ++ (B ++ B1)) by simp [List.append_assoc]]
    refine p1.trans ?_
    rw [show (a :: (A' ++ B)) ++ ((S1 ++ S2) ++ (P1 ++ P2) ++ B1) = (a :: A') ++ (B ++ ((S1 ++ S2) ++ (P1 ++ P2) ++ B1)) by simp [List.append_assoc]]
    refine List.Perm.append_left _ ?_
    rw [show S1 ++ P1 ++ P2 ++ S2 ++ (B ++ B1) = (S1 ++ P1 ++ P2 ++ S2) ++ (B ++ B1) by simp [List.append_assoc]]
    refine List.Perm.trans (List.perm_append_comm_assoc _ _ _) ?_
    refine List.Perm.append_left _ (List.Perm.append_right _ ?_)
    rw [show S1 ++ P1 ++ P2 ++ S2 = S1 ++ ((P1 ++ P2) ++ S2) by simp [List.append_assoc], show S1 ++ S2 ++ (P1 ++ P2) = S1 ++ (S2 ++ (P1 ++ P2)) by simp [List.append_assoc]]
    exact List.Perm.append_left _ List.perm_append_comm
  have hnd := (hperm.nodup_iff).mp h3
  have hin : ∀ b, b ∈ (a :: (A' ++ B)) ++ ((S1 ++ S2) ++ (P1 ++ P2) ++ B1) → F b = none ∧ H0 b = none := fun b hb => h4 b (hperm.mem_iff.mpr hb)
  have nd2 := List.nodup_append.mp hnd
  have nd3 := List.nodup_cons.mp nd2.1
  have ha := hin a (by simp)
  refine ⟨a, o, A', B, by unfold valE; rw [g1]; exact q1, hq, hno, re, r1, nd2.1, fun o' e' A'' mk hn hsub => ?_⟩
  have hT := ho_upd (o' := o') hno hq
  have na : ∀ b ∈ S1 ++ S2 ++ (P1 ++ P2) ++ B1, b ≠ a := fun b hb z => nd2.2.2 a (by simp) b hb z.symm
  have rnew := mk (upd H a o') hT (fun b hb => upd_ne hb) upd_same
  have ex0 : ∀ {G : Hp}, G a = none → (∀ b o, G b = some o → H b = some o) → Ex G (upd H a o') := fun {G} hn hg b o q => by
    rw [upd_ne (ne_of_none q hn)]; exact hg b o q
  have rv := back2 (F' := F) (H' := upd H a o') (Same.refl _) hT (fun b hb => upd_ne (na b (by simp at hb ⊢; rcases hb with hb | hb <;> simp [hb]))) rnew
  have sl := back (F' := F) (H' := upd H a o') (Same.refl _) hT (fun b hb => upd_ne (na b (by simp at hb ⊢; rcases hb with hb | hb <;> simp [hb]))) rv
  have ev : (σ.set i (some v)) = σ := by
    obtain ⟨hi, hv⟩ := List.getElem?_eq_some_iff.mp g1
    rw [← hv]; exact List.set_getElem_self hi
  rw [ev] at sl
  have es : setE env i p e' = env.set i (some (setP d p e')) := by unfold setE; rw [hd]
  rw [es]
  have hperm2 : (S1 ++ (P1 ++ (a :: A'') ++ P2) ++ S2 ++ B1).Perm ((a :: A'') ++ ((S1 ++ S2) ++ (P1 ++ P2) ++ B1)) := by
    rw [show S1 ++ (P1 ++ (a :: A'') ++ P2) ++ S2 ++ B1 = (S1 ++ P1) ++ ((a :: A'') ++ (P2 ++ S2 ++ B1)) by simp [List.append_assoc]]
    refine List.Perm.trans (List.perm_append_comm_assoc (S1 ++ P1) (a :: A'') (P2 ++ S2 ++ B1)) ?_
    refine List.Perm.append_left _ ?_
    rw [show S1 ++ P1 ++ (P2 ++ S2 ++ B1) = S1 ++ ((P1 ++ P2) ++ S2) ++ B1 by simp [List.append_assoc], show S1 ++ S2 ++ (P1 ++ P2) ++ B1 = S1 ++ (S2 ++ (P1 ++ P2)) ++ B1 by simp [List.append_assoc]]
    exact List.Perm.append_right _ (List.Perm.append_left _ List.perm_append_comm)
  refine ⟨S.exF, ex0 ha.2 S.exH, ex0 ha.1 S.sub, S.new, _, B1, sl, r2.mono (Same.refl _) hT fun b hb => upd_ne (na b (by simp [hb])), ?_, fun b hb => ?_⟩
  · refine (hperm2.nodup_iff).mpr ?_
    refine List.nodup_append.mpr ⟨List.nodup_cons.mpr ⟨fun z => nd3.1 (hsub a z), hn⟩, nd2.2.1, fun x hx y hy z => ?_⟩
    rcases List.mem_cons.mp hx with hx | hx
    · exact nd2.2.2 a (by simp) y hy (by rw [← hx]; exact z)
    · exact nd2.2.2 x (List.mem_cons_of_mem _ (hsub x hx)) y hy z
  · have hb := hperm2.mem_iff.mp hb
    refine hin b ?_
    rcases List.mem_append.mp hb with hb | hb
    · rcases List.mem_cons.mp hb with hb | hb
      · simp [hb]
      · exact List.mem_append_left _ (List.mem_cons_of_mem _ (hsub b hb))
    · exact List.mem_append_right _ hb
end

/-! ### a place told by an expression -/
abbrev WP := PX → Env → (Nat → List Nat → Env → Prop) → Prop
def SimP (K : KW) (E : EX) (w : WP) (t : TE) : Prop := ∀ (px : PX) (F0 H0 F H : Hp) (σ : L2.St) (env : Env) (pv : List V) (pd : List D), LinkX K F0 H0 px E pv pd → Sta K F0 H0 F H σ env pv pd →
  ∀ (Q' : Nat → List Nat → Env → Prop) (Q : VK), w px env Q' → (∀ i p env' v F' H', Q' i p env' → Ex F F' → Ex H H' → Sta K F0 H0 F' H' σ env' pv pd → valE σ H' i p = some v → Q v H') → t σ H Q
structure DP (X : Cx) (E : EX) (e : Expr) (w : WP) : Prop where
  ex : ∃ t, PE X e t ∧ SimP X.kw E w t
def onP (o : Option D) (Q : D → Prop) : Prop := match o with
  | some d => Q d
  | none => False
theorem onP_some {d : D} {Q : D → Prop} : onP (some d) Q = Q d := rfl
theorem onP_of {o : Option D} {d : D} {Q : D → Prop} (e : o = some d) (h : Q d) : onP o Q := by rw [e]; exact h
theorem onP_is {o : Option D} {Q : D → Prop} (h : onP o Q) : ∃ d, o = some d ∧ Q d := by
  cases o with
  | some d => exact ⟨d, rfl, h⟩
  | none => exact h.elim
def onJ (o : Option Nat) (Q : Nat → Prop) : Prop := match o with
  | some d => Q d
  | none => False
theorem onJ_some {d : Nat} {Q : Nat → Prop} : onJ (some d) Q = Q d := rfl
theorem onJ_of {o : Option Nat} {d : Nat} {Q : Nat → Prop} (e : o = some d) (h : Q d) : onJ o Q := by rw [e]; exact h
theorem onJ_is {o : Option Nat} {Q : Nat → Prop} (h : onJ o Q) : ∃ d, o = some d ∧ Q d := by
  cases o with
  | some d => exact ⟨d, rfl, h⟩
  | none => exact h.elim
def kidI : D → D → Option Nat
  | .lst true ds, .int z => ixN ds.length z
  | .tup ds, .int z => ixN ds.length z
  | .pin _ ds, .int z => ixN ds.length z
  | _, _ => none
theorem kidI_pin {a : Addr} {ds : List D} {z : Int} : kidI (.pin a ds) (.int z) = ixN ds.length z := rfl
theorem kidI_lst {ds : List D} {z : Int} : kidI (.lst true ds) (.int z) = ixN ds.length z := rfl
theorem kidI_tup {ds : List D} {z : Int} : kidI (.tup ds) (.int z) = ixN ds.length z := rfl
def wpVar (i : Nat) : WP := fun _ env Q => onP (subE env i []) fun _ => Q i [] env
def wpIx (w : WP) (wk : WE) : WP := fun px env Q => w px env fun i p env1 => wk px env1 fun k _ env2 => onP (subE env2 i p) fun d => onJ (kidI d k) fun j => onP (subE env2 i (p ++ [j])) fun _ => Q i (p ++ [j]) env2
theorem simP_var {K : KW} {E : EX} {i : Nat} : SimP K E (wpVar i) (tVar i) := by
  intro px F0 H0 F H σ env pv pd L S Q' Q w k
  obtain ⟨d, hd, q⟩ := onP_is w
  obtain ⟨v, A, e, r⟩ := S.seen hd
  unfold valE at e
  split at e
  · rename_i hv
    simp only [valP, Option.some.injEq] at e
    exact ⟨_, hv, k i [] env _ F H q (Same.refl _) (Same.refl _) S (by unfold valE; rw [hv]; rfl)⟩
  · cases e
theorem simP_ix {K : KW} {E : EX} {w : WP} {wk : WE} {t tk : TE} (h : SimP K E w t) (hk : Sim K E wk tk) : SimP K E (wpIx w wk) (tOp (rIx K) t tk) := by
  intro px F0 H0 F H σ env pv pd L S Q' Q w1 k
  refine h px F0 H0 F H σ env pv pd L S _ _ w1 fun i p env1 x F1 H1 w2 eF eH S1 hx => ?_
  refine hk px F0 H0 F1 H1 σ env1 pv pd L S1 _ _ w2 fun kk bk env2 y F2 H2 w3 eF2 eH2 R2 => ?_
  obtain ⟨⟨B, ry⟩, S2⟩ := R2.forget
  obtain ⟨d, hd, w4⟩ := onP_is w3
  obtain ⟨j, hj, w5⟩ := onJ_is w4
  obtain ⟨c, hc, w6⟩ := onP_is w5
  have hx2 := valE_mono eH2 hx
  obtain ⟨x', A, e1, r⟩ := S2.seen hd
  rw [hx2] at e1
  cases e1
  obtain ⟨v', A', e3, r'⟩ := S2.seen hc
  have step : valE σ H2 i (p ++ [j]) = valP H2 x [j] := by
    unfold valE at hx2 ⊢
    split at hx2
    · exact valP_app hx2
    · cases hx2
  rw [step] at e3
  have fin := k i (p ++ [j]) env2 v' F2 H2 w6 (eF.trans eF2) (eH.trans eH2) S2 (step.trans e3)
  unfold kidI at hj
  split at hj
  · rename_i ds z
    rw [rep_int ry]
    obtain ⟨a, vs, C, rfl, hq, rs⟩ := rep_lst S2.sub r
    simp only [valP, hq, kidsV] at e3
    refine .inl ⟨a, vs, z, v', rfl, rfl, .inl (.inl hq), ?_, fin⟩
    unfold atI
    rw [rs.length, hj]
    cases hv : vs[j]? with
    | none => rw [hv] at e3; cases e3
    | some u => rw [hv] at e3; cases e3; exact hv
  · rename_i ds z
    rw [rep_int ry]
    cases r with
    | tup hq rs =>
      rename_i a vs
      simp only [valP, hq, kidsV] at e3
      refine .inr (.inl ⟨a, vs, z, v', rfl, rfl, SqT.of hq, ?_, fin⟩)
      unfold atI
      rw [rs.length, hj]
      cases hv : vs[j]? with
      | none => rw [hv] at e3; cases e3
      | some u => rw [hv] at e3; cases e3; exact hv
  · rename_i a ds z
    rw [rep_int ry]
    cases r with
    | pin hq rs =>
      rename_i vs A9
      simp only [valP, hq, kidsV] at e3
      refine .inl ⟨a, vs, z, v', rfl, rfl, .inl (.inl hq), ?_, fin⟩
      unfold atI
      rw [rs.length, hj]
      cases hv : vs[j]? with
      | none => rw [hv] at e3; cases e3
      | some u => rw [hv] at e3; cases e3; exact hv
  · cases hj
section
variable {X : Cx} {E : EX}
theorem p_var (i : Nat) {x : Str} {pos : Pos} (hN : X.N[i]? = some x := by rfl) (hv : Vis X.env.scope x := by first | exact Or.inl rfl | exact Or.inr (Or.inl rfl) | exact Or.inr (Or.inr rfl)) (hd : (x == ("__debug__" : Str)) = false := by decide)
    (hcd : (x == ("__classdict__" : Str)) = false := by decide) : DP X E (.Name x pos) (wpVar i) := ⟨_, pe_var hN hv hd hcd, simP_var⟩
theorem p_ix {a b : Expr} {w : WP} {wb : WE} {pos : Pos} (ha : DP X E a w) (hb : DE X E b wb) (hs : PlainIx b := by exact fun _ _ => rfl) : DP X E (.Subscript a b pos) (wpIx w wb) := by
  obtain ⟨ta, pa, sa⟩ := ha.ex
  obtain ⟨tb, pb, sb⟩ := hb.ex
  exact ⟨_, pe_ix ix_seq pa pb hs, simP_ix sa sb⟩
end
/-! ### changes of a list at a place -/
/-- an owned list, and how it is put together -/
def ownL (o : Option D) (Q : List D → (List D → D) → Prop) : Prop := match o with
  | some (.lst true ds) => Q ds (.lst true)
  | some (.pin a ds) => Q ds (.pin a)
  | _ => False
theorem ownL_some {ds : List D} {Q : List D → (List D → D) → Prop} : ownL (some (.lst true ds)) Q = Q ds (.lst true) := rfl
theorem ownL_pin {a : Addr} {ds : List D} {Q : List D → (List D → D) → Prop} : ownL (some (.pin a ds)) Q = Q ds (.pin a) := rfl
theorem ownL_of {o : Option D} {ds : List D} {Q : List D → (List D → D) → Prop} (e : o = some (.lst true ds)) (h : Q ds (.lst true)) : ownL o Q := by rw [e]; exact h
def IsOwn (e : D) (ds : List D) (mk : List D → D) : Prop := (e = .lst true ds ∧ mk = D.lst true) ∨ ∃ b, e = .pin b ds ∧ mk = D.pin b
theorem ownL_is {o : Option D} {Q : List D → (List D → D) → Prop} (h : ownL o Q) : ∃ e ds mk, o = some e ∧ IsOwn e ds mk ∧ Q ds mk := by
  unfold ownL at h
  split at h
  · exact ⟨_, _, _, rfl, .inl ⟨rfl, rfl⟩, h⟩
  · exact ⟨_, _, _, rfl, .inr ⟨_, rfl, rfl⟩, h⟩
  · exact h.elim
theorem IsOwn.mut {e : D} {ds : List D} {mk : List D → D} (h : IsOwn e ds mk) : (∃ ds, e = .lst true ds) ∨ (∃ kd ds, e = .dct true kd ds) ∨ (∃ b ds, e = .pin b ds) ∨ (∃ c ns ds, e = .obj .t c ns ds) ∨ ∃ b c ns ds, e = .obj (.p b) c ns ds := by
  rcases h with ⟨rfl, _⟩ | ⟨b, rfl, _⟩
  · exact .inl ⟨_, rfl⟩
  · exact .inr (.inr (.inl ⟨_, _, rfl⟩))
theorem IsOwn.rep {K : KW} {F H : Hp} {a : Addr} {e : D} {ds : List D} {mk : List D → D} {A' : List Addr} (h : IsOwn e ds mk) (r : Rep K F H (.ref a) e (a :: A')) : ∃ vs, H a = some (.lst vs) ∧ Reps K F H vs ds A' ∧
    ∀ {F' H' : Hp} {vs' : List V} {ds' : List D} {A'' : List Addr}, H' a = some (.lst vs') → Reps K F' H' vs' ds' A'' → Rep K F' H' (.ref a) (mk ds') (a :: A'') := by
  rcases h with ⟨rfl, rfl⟩ | ⟨b, rfl, rfl⟩
  · cases r with
    | own hq rs => exact ⟨_, hq, rs, fun h1 h2 => .own h1 h2⟩
  · cases r with
    | pin hq rs => exact ⟨_, hq, rs, fun h1 h2 => .pin h1 h2⟩
theorem tyV_own {K : KW} {F0 H0 F H : Hp} {σ : L2.St} {env : Env} {pv : List V} {pd : List D} {i : Nat} {p : List Nat} {v : V} {e : D} {ds : List D} {mk : List D → D} (S : Sta K F0 H0 F H σ env pv pd) (h : subE env i p = some e) (ho : IsOwn e ds mk) (hv : valE σ H i p = some v) :
    ∃ a vs, v = .ref a ∧ H a = some (.lst vs) := by
  obtain ⟨v', A, e1, r⟩ := S.seen h
  rw [hv] at e1; cases e1
  rcases ho with ⟨rfl, rfl⟩ | ⟨b, rfl, rfl⟩
  · obtain ⟨a, vs, _, rfl, h1, _⟩ := rep_lst S.sub r
    exact ⟨a, vs, rfl, h1⟩
  · cases r with
    | pin hq rs => exact ⟨_, _, rfl, hq⟩
/-- x.append(e) -/
def wAppP (wp : WP) (w : WE) : WS := fun P px env => wp px env fun i p env0 => ownL (subE env0 i p) fun _ _ => w px env0 fun d b env1 => (b = false ∨ dirty d = false) ∧ ownL (subE env1 i p) fun ds mk => ds.length ≤ 100000 ∧ P.nx (setE env1 i p (mk (ds ++ [d])))
theorem simS_appP {K : KW} {E : EX} {wp : WP} {w : WE} {tp t : TE} (hp : SimP K E wp tp) (h : Sim K E w t) : SimS K E (wAppP wp w) (tDrop (tBM K "list" rAppend tp (tCons t tNil))) := by
  intro px F0 H0 F H σ env pv pd L S P D w0 k
  refine hp px F0 H0 F H σ env pv pd L S _ _ w0 fun i p env0 x F0' H0' w1 eF0 eH0 S0 hx => ?_
  obtain ⟨f0, ds0, mk0, e0, o0, w1⟩ := ownL_is w1
  obtain ⟨a0, vs0, rfl, ha⟩ := tyV_own S0 e0 o0 hx
  refine ⟨.inl ⟨rfl, vs0, .inl (.inl ha)⟩, ?_⟩
  refine h px F0 H0 F0' H0' σ env0 pv pd L S0 _ _ w1 fun d b env1 v F1 H1 w2 eF eH R => ?_
  obtain ⟨hb, w2⟩ := w2
  obtain ⟨f1, ds, mk1, e1, o1, hl, w3⟩ := ownL_is w2
  have S1 : Sta K F0 H0 F1 H1 σ env1 ([v] ++ pv) ([d] ++ pd) := R.owned hb
  obtain ⟨a, o, A', B, hv, hq, _, re, ry, nd, mk⟩ := S1.mutP (ys := [v]) (es := [d]) rfl e1 o1.mut
  rw [valE_mono eH hx] at hv
  cases hv
  obtain ⟨vs, hq2, rs, back9⟩ := o1.rep re
  rw [hq] at hq2; cases hq2
  focus
    have nd1 := List.nodup_cons.mp nd
    refine ⟨a0, vs, v, rfl, rfl, hq, by rw [rs.length]; exact lt_line hl, k.nx _ _ _ _ w3 (mk (.lst (vs ++ [v])) (mk1 (ds ++ [d])) (A' ++ B) (fun H' hT hN ha' => ?_) nd1.2 fun b hb => hb)⟩
    have r1 := rs.mono (Same.refl F1) hT fun b hb => hN b fun z => nd1.1 (by rw [← z]; exact List.mem_append_left _ hb)
    have r2 := ry.mono (Same.refl F1) hT fun b hb => hN b fun z => nd1.1 (by rw [← z]; exact List.mem_append_right _ hb)
    exact back9 ha' (r1.app r2)
/-- x.extend(e), clean new items -/
def wExtP (wp : WP) (w : WE) : WS := fun P px env => wp px env fun i p env0 => ownL (subE env0 i p) fun _ _ => w px env0 fun d _ env1 => ownL (subE env1 i p) fun ds mk => match d with
  | .lst _ es => dirtys es = false ∧ ds.length + es.length ≤ 100000 ∧ P.nx (setE env1 i p (mk (ds ++ es)))
  | _ => False
theorem simS_extP {K : KW} {E : EX} {wp : WP} {w : WE} {tp t : TE} (hp : SimP K E wp tp) (h : Sim K E w t) : SimS K E (wExtP wp w) (tDrop (tBM K "list" rExtend tp (tCons t tNil))) := by
  intro px F0 H0 F H σ env pv pd L S P D w0 k
  refine hp px F0 H0 F H σ env pv pd L S _ _ w0 fun i p env0 x F0' H0' w1 eF0 eH0 S0 hx => ?_
  obtain ⟨f0, ds0, mk0, e0, o0, w1⟩ := ownL_is w1
  obtain ⟨a0, vs0, rfl, ha⟩ := tyV_own S0 e0 o0 hx
  refine ⟨.inl ⟨rfl, vs0, .inl (.inl ha)⟩, ?_⟩
  refine h px F0 H0 F0' H0' σ env0 pv pd L S0 _ _ w1 fun d b env1 v F1 H1 w2 eF eH R => ?_
  obtain ⟨⟨A, r⟩, S1⟩ := R.forget
  obtain ⟨f1, ds, mk1, e1, o1, w3⟩ := ownL_is w2
  split at w3
  · rename_i o9 es
    obtain ⟨w5, w6, w7⟩ := w3
    obtain ⟨c, ws, C, rfl, hb, rb⟩ := rep_lst S1.sub r
    have c2 := rb.clean w5
    subst c2
    obtain ⟨a, o, A', B, hv, hq, _, re, ry, nd, mk⟩ := S1.mutP (ys := []) (es := []) rfl e1 o1.mut
    rw [valE_mono eH hx] at hv
    cases hv
    cases ry
    obtain ⟨vs, hq2, rs, back9⟩ := o1.rep re
    rw [hq] at hq2; cases hq2
    focus
      rw [List.append_nil] at nd
      have nd1 := List.nodup_cons.mp nd
      refine ⟨a0, c, vs, ws, rfl, rfl, hq, hb, by rw [rs.length, rb.length]; exact le_line w6, k.nx _ _ _ _ w7 (mk (.lst (vs ++ ws)) (mk1 (ds ++ es)) A' (fun H' hT hN ha' => ?_) nd1.2 fun b hb => by simpa using hb)⟩
      have r1 := rs.mono (Same.refl F1) hT fun b hb => hN b fun z => nd1.1 (by rw [← z]; exact hb)
      have r2 := rb.mono (Same.refl F1) hT fun b hb => absurd hb List.not_mem_nil
      have := r1.app r2
      rw [List.append_nil] at this
      exact back9 ha' this
  · exact w3.elim
/-- x.clear() -/
def wClearP (wp : WP) : WS := fun P px env => wp px env fun i p env0 => ownL (subE env0 i p) fun _ mk => P.nx (setE env0 i p (mk []))
theorem simS_clearP {K : KW} {E : EX} {wp : WP} {tp : TE} (hp : SimP K E wp tp) : SimS K E (wClearP wp) (tDrop (tBM0 K "list" rClear tp)) := by
  intro px F0 H0 F H σ env pv pd L S P D w0 k
  refine hp px F0 H0 F H σ env pv pd L S _ _ w0 fun i p env0 x F1 H1 w1 eF0 eH0 S1 hx => ?_
  obtain ⟨f1, ds, mk1, e1, o1, w3⟩ := ownL_is w1
  obtain ⟨a, o, A', B, hv, hq, _, re, ry, nd, mk⟩ := S1.mutP (ys := []) (es := []) rfl e1 o1.mut
  rw [hx] at hv
  cases hv
  obtain ⟨vs, hq2, rs, back9⟩ := o1.rep re
  rw [hq] at hq2; cases hq2
  focus
    refine ⟨.inl ⟨rfl, vs, .inl (.inl hq)⟩, a, vs, rfl, rfl, hq, k.nx _ _ _ _ w3 (mk (.lst []) (mk1 []) [] (fun H' hT hN ha' => back9 ha' .nil) List.nodup_nil fun b hb => absurd hb List.not_mem_nil)⟩
/-- x.insert(k, e), a clean item -/
theorem Reps.parts {K : KW} {F H : Hp} {vs : List V} {ds : List D} {A : List Addr} (r : Reps K F H vs ds A) (n : Nat) : ∃ A1 A2, A = A1 ++ A2 ∧ Reps K F H (vs.take n) (ds.take n) A1 ∧ Reps K F H (vs.drop n) (ds.drop n) A2 := by
  rw [← List.take_append_drop n vs] at r
  obtain ⟨d1, d2, A1, A2, e1, e2, r1, r2⟩ := r.split
  have hl := r1.length
  have : d1 = ds.take n ∧ d2 = ds.drop n := by
    have hlen : d1.length = (ds.take n).length := by
      rw [← hl, List.length_take, List.length_take]
      have h1 := r1.length
      have h2 := r2.length
      rw [List.length_drop] at h2
      rw [List.length_take] at h1
      have : ds.length = d1.length + d2.length := by rw [e1, List.length_append]
      omega
    exact List.append_inj (by rw [← e1, List.take_append_drop]) hlen
  obtain ⟨rfl, rfl⟩ := this
  exact ⟨A1, A2, e2, r1, r2⟩
def wInsP (wp : WP) (wk w : WE) : WS := fun P px env => wp px env fun i p env0 => ownL (subE env0 i p) fun _ _ => wk px env0 fun k _ env1 => w px env1 fun d _ env2 => ownL (subE env2 i p) fun ds mk => match k with
  | .int z => 0 ≤ z ∧ z < 2 ^ 63 ∧ dirty d = false ∧ ds.length ≤ 100000 ∧ P.nx (setE env2 i p (mk (ds.take z.toNat ++ [d] ++ ds.drop z.toNat)))
  | _ => False
theorem simS_insP {K : KW} {E : EX} {wp : WP} {w wk : WE} {tp t tk : TE} (hp : SimP K E wp tp) (h : Sim K E w t) (hk : Sim K E wk tk) : SimS K E (wInsP wp wk w) (tDrop (tBM K "list" rInsert tp (tCons tk (tCons t tNil)))) := by
  intro px F0 H0 F H σ env pv pd L S P D w0 k
  refine hp px F0 H0 F H σ env pv pd L S _ _ w0 fun i p env0 x F0' H0' w1 eF0 eH0 S0 hx => ?_
  obtain ⟨f0, ds0, mk0, e0, o0, w1⟩ := ownL_is w1
  obtain ⟨a0, vs0, rfl, ha⟩ := tyV_own S0 e0 o0 hx
  refine ⟨.inl ⟨rfl, vs0, .inl (.inl ha)⟩, ?_⟩
  refine hk px F0 H0 F0' H0' σ env0 pv pd L S0 _ _ w1 fun kk bk env1 kv F1 H1 w2 eF eH R => ?_
  obtain ⟨⟨A1, rk⟩, S1⟩ := R.forget
  refine h px F0 H0 F1 H1 σ env1 pv pd L S1 _ _ w2 fun d b env2 v F2 H2 w3 eF2 eH2 R2 => ?_
  obtain ⟨⟨A2, r⟩, S2⟩ := R2.forget
  obtain ⟨f1, ds, mk1, e1, o1, w3⟩ := ownL_is w3
  cases kk with
  | int z =>
    obtain ⟨z0, z1, w4, w6, w7⟩ := w3
    have c2 := r.clean w4
    subst c2
    obtain ⟨a, o, A', B, hv, hq, _, re, ry, nd, mk⟩ := S2.mutP (ys := []) (es := []) rfl e1 o1.mut
    rw [valE_mono eH2 (valE_mono eH hx)] at hv
    cases hv
    cases ry
    rw [rep_int rk]
    obtain ⟨vs, hq2, rs, back9⟩ := o1.rep re
    rw [hq] at hq2; cases hq2
    focus
      rw [List.append_nil] at nd
      have nd1 := List.nodup_cons.mp nd
      refine ⟨a0, vs, z, v, rfl, rfl, hq, by rw [rs.length]; exact lt_line w6, z0, z1, k.nx _ _ _ _ w7 (mk (.lst (vs.take z.toNat ++ [v] ++ vs.drop z.toNat)) _ A' (fun H' hT hN ha' => ?_) nd1.2 fun b hb => by simpa using hb)⟩
      have r1 := rs.mono (Same.refl F2) hT fun b hb => hN b fun z => nd1.1 (by rw [← z]; exact hb)
      have r2 := r.mono (Same.refl F2) hT fun b hb => absurd hb List.not_mem_nil
      obtain ⟨B1, B2, eB, t1, t2⟩ := r1.parts z.toNat
      have := (t1.app (.cons r2 .nil rfl)).app t2
      rw [List.append_nil, List.append_nil, ← eB] at this
      exact back9 ha' this
  | _ => exact w3.elim
/-- x[k] = e -/
def wSetP (wp : WP) (w wk : WE) : WS := fun P px env => w px env fun d b env1 => (b = false ∨ dirty d = false) ∧ wp px env1 fun i p env2 => ownL (subE env2 i p) fun _ _ => wk px env2 fun k _ env3 => ownL (subE env3 i p) fun ds mk => match k with
  | .int z => onJ (ixN ds.length z) fun j => P.nx (setE env3 i p (mk (ds.set j d)))
  | _ => False
theorem simS_setP {K : KW} {E : EX} {wp : WP} {w wk : WE} {tp t tk : TE} (h : Sim K E w t) (hp : SimP K E wp tp) (hk : Sim K E wk tk) : SimS K E (wSetP wp w wk) (tAsg t (L2.gSub tp tk rSetL)) := by
  intro px F0 H0 F H σ env pv pd L S P D w1 k
  refine h px F0 H0 F H σ env pv pd L S _ _ w1 fun d b env1 v F1 H1 w2 eF eH R => ?_
  obtain ⟨hb, w2⟩ := w2
  have S1 := R.owned hb
  have LL : LinkX K F0 H0 px E ([v] ++ pv) ([d] ++ pd) := L.push (qv := [v]) (qd := [d]) rfl
  refine hp px F0 H0 F1 H1 σ env1 ([v] ++ pv) ([d] ++ pd) LL S1 _ _ w2 fun i p env2 x F2 H2 w3 eF2 eH2 S2 hx => ?_
  obtain ⟨f0, ds0, mk0, e0, o0, w3⟩ := ownL_is w3
  obtain ⟨a0, vs0, rfl, ha⟩ := tyV_own S2 e0 o0 hx
  refine hk px F0 H0 F2 H2 σ env2 _ _ LL S2 _ _ w3 fun kk bk env3 kv F3 H3 w4 eF3 eH3 R3 => ?_
  obtain ⟨⟨A3, rk⟩, S3⟩ := R3.forget
  obtain ⟨f1, ds, mk1, e1, o1, w4⟩ := ownL_is w4
  cases kk with
  | int z =>
    obtain ⟨j, ej, w5⟩ := onJ_is w4
    obtain ⟨a, o, A', B, hv, hq, _, re, ry, nd, mk⟩ := S3.mutP (ys := [v]) (es := [d]) rfl e1 o1.mut
    rw [valE_mono eH3 hx] at hv
    cases hv
    rw [rep_int rk]
    obtain ⟨vs, hq2, rs, back9⟩ := o1.rep re
    rw [hq] at hq2; cases hq2
    focus
      have nd1 := List.nodup_cons.mp nd
      have hj : j < ds.length := by
        unfold ixN at ej
        split at ej
        · split at ej
          · cases ej; omega
          · cases ej
        · split at ej
          · cases ej; omega
          · cases ej
      obtain ⟨u, A1, Aj, A2, u1, u2, u3, back⟩ := rs.kidV (List.getElem?_eq_getElem hj)
      subst u2
      cases ry with
      | cons rv r0 eB =>
        cases r0
        rename_i C
        rw [List.append_nil] at eB
        subst eB
        have nd2 := List.nodup_append.mp nd1.2
        have nd3 := List.nodup_append.mp nd2.1
        have nd4 := List.nodup_append.mp nd3.1
        refine ⟨a0, vs, z, j, rfl, rfl, hq, by rw [rs.length]; exact ej, k.nx _ _ _ _ w5 (mk (.lst (vs.set j v)) (mk1 (ds.set j d)) (A1 ++ B ++ A2) (fun H' hT hN ha' => ?_) ?_ fun b hb => by simp at hb ⊢; rcases hb with hb | hb | hb <;> simp [hb])⟩
        · have r2 := rv.mono (Same.refl F3) hT fun b hb => hN b fun z => nd1.1 (by rw [← z]; exact List.mem_append_right _ hb)
          exact back9 ha' (back (Same.refl F3) hT (fun b hb => hN b fun z => nd1.1 (by rw [← z]; simp at hb ⊢; rcases hb with hb | hb <;> simp [hb])) r2)
        · refine List.nodup_append.mpr ⟨List.nodup_append.mpr ⟨nd4.1, nd2.2.1, fun x hx y hy => nd2.2.2 x (by simp [hx]) y hy⟩, nd3.2.1, fun x hx y hy => ?_⟩
          rcases List.mem_append.mp hx with hx | hx
          · exact nd3.2.2 x (by simp [hx]) y hy
          · exact fun z => nd2.2.2 y (by simp [hy]) x hx z.symm
  | _ => exact w4.elim

section
variable {X : Cx} {E : EX} {r e k : Expr} {wp : WP} {w wk : WE} {pos apos cpos npos : Pos}
theorem s_appP (hr : DP X E r wp) (h : DE X E e w)
    (hbase : attributeBase r "append" X.env (eval r X.env) = eval r X.env := by rfl)
    (hfew : ((backTo cpos (starEach [e] X.env)).all (fun x => !x.1) && (backToKw cpos (keywordEach [] X.env)).all (fun x => x.1.isSome) && decide ([e].length + ([] : List Keyword).length + (if ([] : List Keyword).isEmpty then 0 else 1) < 30)) = true := by rfl)
    (hline : (apos.endLine == cpos.line) = true := by rfl) (hs : starEach [e] X.env = (false, eval e X.env) :: starEach [] X.env := by rfl) (hplain : (backTo cpos (starEach [] X.env)).any (·.1) = false := by rfl) (hsw : swapsWith (.Call (.Attribute r "append" apos) [e] [] cpos) none pos.line X.env = pure false := by rfl) :
    DS X E (.Expr (.Call (.Attribute r "append" apos) [e] [] cpos) pos) (wAppP wp w) := by
  obtain ⟨tr, pr, sr⟩ := hr.ex
  obtain ⟨t, p, s⟩ := h.ex
  exact ⟨_, ps_expr (pe_bm PySem.F.plainAttrs_list PySem.F.slot_list_append PySem.F.type_list_append mt_append pr (pa_cons p pa_nil hs) hbase hfew hline hs hplain) hsw, simS_appP sr s⟩
theorem s_extP (hr : DP X E r wp) (h : DE X E e w)
    (hbase : attributeBase r "extend" X.env (eval r X.env) = eval r X.env := by rfl)
    (hfew : ((backTo cpos (starEach [e] X.env)).all (fun x => !x.1) && (backToKw cpos (keywordEach [] X.env)).all (fun x => x.1.isSome) && decide ([e].length + ([] : List Keyword).length + (if ([] : List Keyword).isEmpty then 0 else 1) < 30)) = true := by rfl)
    (hline : (apos.endLine == cpos.line) = true := by rfl) (hs : starEach [e] X.env = (false, eval e X.env) :: starEach [] X.env := by rfl) (hplain : (backTo cpos (starEach [] X.env)).any (·.1) = false := by rfl) (hsw : swapsWith (.Call (.Attribute r "extend" apos) [e] [] cpos) none pos.line X.env = pure false := by rfl) :
    DS X E (.Expr (.Call (.Attribute r "extend" apos) [e] [] cpos) pos) (wExtP wp w) := by
  obtain ⟨tr, pr, sr⟩ := hr.ex
  obtain ⟨t, p, s⟩ := h.ex
  exact ⟨_, ps_expr (pe_bm PySem.F.plainAttrs_list PySem.F.slot_list_extend PySem.F.type_list_extend mt_extend pr (pa_cons p pa_nil hs) hbase hfew hline hs hplain) hsw, simS_extP sr s⟩
theorem s_insP (hr : DP X E r wp) (hk : DE X E k wk) (h : DE X E e w)
    (hbase : attributeBase r "insert" X.env (eval r X.env) = eval r X.env := by rfl)
    (hfew : ((backTo cpos (starEach [k, e] X.env)).all (fun x => !x.1) && (backToKw cpos (keywordEach [] X.env)).all (fun x => x.1.isSome) && decide ([k, e].length + ([] : List Keyword).length + (if ([] : List Keyword).isEmpty then 0 else 1) < 30)) = true := by rfl)
    (hline : (apos.endLine == cpos.line) = true := by rfl) (hs : starEach [k, e] X.env = (false, eval k X.env) :: starEach [e] X.env := by rfl) (hs2 : starEach [e] X.env = (false, eval e X.env) :: starEach [] X.env := by rfl) (hplain : (backTo cpos (starEach [e] X.env)).any (·.1) = false := by rfl) (hsw : swapsWith (.Call (.Attribute r "insert" apos) [k, e] [] cpos) none pos.line X.env = pure false := by rfl) :
    DS X E (.Expr (.Call (.Attribute r "insert" apos) [k, e] [] cpos) pos) (wInsP wp wk w) := by
  obtain ⟨tr, pr, sr⟩ := hr.ex
  obtain ⟨t, p, s⟩ := h.ex
  obtain ⟨tk, pk, sk⟩ := hk.ex
  exact ⟨_, ps_expr (pe_bm PySem.F.plainAttrs_list PySem.F.slot_list_insert PySem.F.type_list_insert (r := rInsert) mt_insert pr (pa_cons pk (pa_cons p pa_nil hs2) hs) hbase hfew hline hs hplain) hsw, simS_insP sr s sk⟩
theorem s_clearP (hr : DP X E r wp)
    (hbase : attributeBase r "clear" X.env (eval r X.env) = eval r X.env := by rfl) (hline : (apos.endLine == cpos.line) = true := by rfl) (hsw : swapsWith (.Call (.Attribute r "clear" apos) [] [] cpos) none pos.line X.env = pure false := by rfl) :
    DS X E (.Expr (.Call (.Attribute r "clear" apos) [] [] cpos) pos) (wClearP wp) := by
  obtain ⟨tr, pr, sr⟩ := hr.ex
  exact ⟨_, ps_expr (pe_bm0 PySem.F.plainAttrs_list PySem.F.slot_list_clear PySem.F.type_list_clear mt_clear pr hbase hline) hsw, simS_clearP sr⟩
theorem s_setP {spos : Pos} (hr : DP X E r wp) (hk : DE X E k wk) (h : DE X E e w)
    (ha : ∀ v, assign (.Subscript r k spos) X.env v = (do
      let ov ← holding [v] (eval r X.env)
      let iv ← holding [v, ov] (eval k X.env)
      standAt spos
      holding [v, ov, iv] (setItem ov iv v)
      release [v, ov, iv] []) := by intro _; rfl)
    (hs : swapsWithSole [.Subscript r k spos] e pos.line X.env = pure false := by rfl) (hw : swappedStores [.Subscript r k spos] e X.env = pure none := by rfl)
    (h1 : (assignEach [.Subscript r k spos] X.env).map (·.2) = [assign (.Subscript r k spos) X.env] := by rfl) :
    DS X E (.Assign [.Subscript r k spos] e pos) (wSetP wp w wk) := by
  obtain ⟨tr, pr, sr⟩ := hr.ex
  obtain ⟨t, p, s⟩ := h.ex
  obtain ⟨tk, pk, sk⟩ := hk.ex
  exact ⟨_, ps_asg p (pg_sub pr pk set_list ha) hs hw h1, simS_setP s sr sk⟩
end

/-! ### list(range(..)) -/
def wLRg (wa wb : WE) : WE := fun px env Q => wa px env fun a _ env1 => wb px env1 fun b _ env2 => match a, b with
  | .int i, .int j => (-1000000 ≤ i ∧ i ≤ j ∧ j ≤ 1000000 ∧ j - i ≤ 100000) ∧ Q (.lst true (rngD i (j - i).toNat)) false env2
  | _, _ => False
end Tm

set_option Elab.async false
set_option linter.all false
set_option maxRecDepth 100000
set_option maxHeartbeats 1000000
/-! list(range), index, texts' methods, dict of pairs, two names at once -/
namespace Tm
open PySem PySem.Spec PyProof.Rows L2

/-! ### list(range(..)) -/
def rgK (a b : D) (Q : D → Prop) : Prop := match a, b with
  | .int i, .int j => (-1000000 ≤ i ∧ i ≤ 1000000 ∧ -1000000 ≤ j ∧ j ≤ 1000000 ∧ j - i ≤ 100000) ∧ Q (.lst true (rngD i (j - i).toNat))
  | _, _ => False
theorem rgK_int {i j : Int} {Q : D → Prop} : rgK (.int i) (.int j) Q = ((-1000000 ≤ i ∧ i ≤ 1000000 ∧ -1000000 ≤ j ∧ j ≤ 1000000 ∧ j - i ≤ 100000) ∧ Q (.lst true (rngD i (j - i).toNat))) := rfl
def wLR1 (wb : WE) : WE := fun px env Q => wb px env fun b _ env1 => rgK (.int 0) b fun d => Q d false env1
def wLR2 (wa wb : WE) : WE := fun px env Q => wa px env fun a _ env1 => wb px env1 fun b _ env2 => rgK a b fun d => Q d false env2
theorem rg_push {K : KW} {F0 H0 F H : Hp} {σ : L2.St} {env : Env} {pv : List V} {pd : List D} {i j : Int} (S : Sta K F0 H0 F H σ env pv pd) {q : Addr} (hq : H q = none) :
    Sta K F0 H0 F (upd H q (.lst (rgV i j))) σ env (.ref q :: pv) (.lst true (rngD i (j - i).toNat) :: pd) := by
  have e1 : rgV i j = ((List.range (j - i).toNat).map fun k : Nat => i + (k : Int)).map V.int := by unfold rgV; rw [List.map_map]; rfl
  have e2 : rngD i (j - i).toNat = ((List.range (j - i).toNat).map fun k : Nat => i + (k : Int)).map D.int := by unfold rngD; rw [List.map_map]; rfl
  rw [e1, e2]
  exact S.push (A := [q]) (Ex.new hq) (.own upd_same (Reps.of_ints _)) (by simp) fun a ha => by simp at ha; subst ha; exact hq
theorem sim_lr1 {K : KW} {E : EX} {wb : WE} {tb : TE} (hb : Sim K E wb tb) : Sim K E (wLR1 wb) (tLstRg (tRg1 tb)) := by
  intro px F0 H0 F H σ env pv pd L S Q' Q w k
  refine hb px F0 H0 F H σ env pv pd L S _ _ w fun b bb env1 y F1 H1 w1 eF eH R => ?_
  obtain ⟨⟨B, ry⟩, S1⟩ := R.forget
  cases b with
  | int j =>
    obtain ⟨⟨h1, h2, h3, h4, h5⟩, w2⟩ := w1
    rw [rep_int ry]
    refine ⟨j, rfl, ⟨by omega, by omega, by omega, by omega, by omega⟩, fun q hq => ?_⟩
    exact k _ false env1 (.ref q) F1 _ w2 eF (eH.trans (Ex.new hq)) (rg_push S1 hq)
  | _ => exact w1.elim
theorem sim_lr2 {K : KW} {E : EX} {wa wb : WE} {ta tb : TE} (ha : Sim K E wa ta) (hb : Sim K E wb tb) : Sim K E (wLR2 wa wb) (tLstRg (tRg2 ta tb)) := by
  intro px F0 H0 F H σ env pv pd L S Q' Q w k
  refine ha px F0 H0 F H σ env pv pd L S _ _ w fun a ba env1 x F1 H1 w1 eF eH R => ?_
  obtain ⟨⟨A, rx⟩, S1⟩ := R.forget
  refine hb px F0 H0 F1 H1 σ env1 pv pd L S1 _ _ w1 fun b bb env2 y F2 H2 w2 eF2 eH2 R2 => ?_
  obtain ⟨⟨B, ry⟩, S2⟩ := R2.forget
  cases a with
  | int i =>
    cases b with
    | int j =>
      obtain ⟨⟨h1, h2, h3, h4, h5⟩, w3⟩ := w2
      rw [rep_int rx, rep_int ry]
      refine ⟨i, j, rfl, rfl, ⟨by omega, by omega, by omega, by omega, by omega⟩, fun q hq => ?_⟩
      exact k _ false env2 (.ref q) F2 _ w3 (eF.trans eF2) ((eH.trans eH2).trans (Ex.new hq)) (rg_push S2 hq)
    | _ => exact w2.elim
  | _ => exact w2.elim
section
variable {X : Cx} {E : EX} {a b : Expr} {wa wb : WE} {p pos rp rpos : Pos}
theorem d_lr1 (hc : X.calm = true) (hg : Gl X "list") (hm : X.mg "list" = none) (hg2 : Gl X "range") (hm2 : X.mg "range" = none) (hb : DE X E b wb) (na : starEach [b] X.env = (false, eval b X.env) :: starEach [] X.env := by rfl)
    (nb : starEach [.Call (.Name "range" rp) [b] [] rpos] X.env = (false, eval (.Call (.Name "range" rp) [b] [] rpos) X.env) :: starEach [] X.env := by rfl) : DE X E (.Call (.Name "list" p) [.Call (.Name "range" rp) [b] [] rpos] [] pos) (wLR1 wb) := by
  obtain ⟨t, pb, s⟩ := hb.ex
  exact ⟨_, pe_listRg hc hg hm (prg_1 hg2 hm2 pb na) nb, sim_lr1 s⟩
theorem d_lr2 (hc : X.calm = true) (hg : Gl X "list") (hm : X.mg "list" = none) (hg2 : Gl X "range") (hm2 : X.mg "range" = none) (ha : DE X E a wa) (hb : DE X E b wb) (na : starEach [a, b] X.env = (false, eval a X.env) :: starEach [b] X.env := by rfl) (na2 : starEach [b] X.env = (false, eval b X.env) :: starEach [] X.env := by rfl) (np : (backTo rpos (starEach [b] X.env)).any (·.1) = false := by rfl)
    (nb : starEach [.Call (.Name "range" rp) [a, b] [] rpos] X.env = (false, eval (.Call (.Name "range" rp) [a, b] [] rpos) X.env) :: starEach [] X.env := by rfl) : DE X E (.Call (.Name "list" p) [.Call (.Name "range" rp) [a, b] [] rpos] [] pos) (wLR2 wa wb) := by
  obtain ⟨t, pa, s⟩ := ha.ex
  obtain ⟨t2, pb, s2⟩ := hb.ex
  exact ⟨_, pe_listRg hc hg hm (prg_2 hg2 hm2 pa pb na na2 np) nb, sim_lr2 s s2⟩
end

/-! ### xs.index(y) -/
def gIndex : G2 := fun a b Q => isLs a = true ∧ shD a = true ∧ shD b = true ∧ ∃ (j : Nat) (z : D), (lsOf a)[j]? = some z ∧ eqD z b = true ∧ (∀ (m : Nat) (z' : D), m < j → (lsOf a)[m]? = some z' → eqD z' b = false) ∧ Q (.int j)
def wMI (wa wb : WE) : WE := fun px env Q => wa px env fun a _ env1 => isLs a = true ∧ wb px env1 fun b _ env2 => gIndex a b fun d => Q d false env2
theorem pys_get : ∀ {ds : List D} {j : Nat}, (pys ds)[j]? = (ds[j]?).map py
  | [], j => by simp [pys]
  | d :: ds, 0 => by simp [pys]
  | d :: ds, j + 1 => by simpa [pys] using pys_get (ds := ds) (j := j)
theorem sim_mi {K : KW} {E : EX} {wa wb : WE} {ta tb : TE} (ha : Sim K E wa ta) (hb : Sim K E wb tb) : Sim K E (wMI wa wb) (tBM K "list" (rIndexD K) ta (tCons tb tNil)) := by
  intro px F0 H0 F H σ env pv pd L S Q' Q w k
  refine ha px F0 H0 F H σ env pv pd L S _ _ w fun a ba env1 x F1 H1 w1 eF eH R => ?_
  obtain ⟨⟨A, rx⟩, S1⟩ := R.forget
  obtain ⟨hl, w1⟩ := w1
  obtain ⟨p, vs, C, rfl, hq, rs⟩ := rep_ls S1.sub rx hl
  refine ⟨.inl ⟨rfl, vs, hq⟩, ?_⟩
  refine hb px F0 H0 F1 H1 σ env1 pv pd L S1 _ _ w1 fun b bb env2 y F2 H2 w2 eF2 eH2 R2 => ?_
  obtain ⟨⟨B, ry⟩, S2⟩ := R2.forget
  obtain ⟨_, h1, h2, j, z, hj, hz, hno, w3⟩ := w2
  have e := py_ls hl
  unfold shD at h1 h2
  rw [Bool.and_eq_true] at h1 h2
  have d1 := (rx.ex eF2 eH2).dp S2.sub h1.1
  rw [e] at d1
  refine ⟨p, y, py b, pys (lsOf a), j, py z, rfl, rfl, d1, ry.dp S2.sub h2.1, by rw [← e]; exact h1.2, h2.2, ?_, hz, fun m z' hm hz' => ?_, k _ false env2 _ F2 H2 w3 (eF.trans eF2) (eH.trans eH2) (S2.clean (.int _))⟩
  · rw [pys_get, hj]; rfl
  · rw [pys_get] at hz'
    cases e2 : (lsOf a)[m]? with
    | none => rw [e2] at hz'; cases hz'
    | some d => rw [e2] at hz'; cases hz'; exact hno m d hm e2
theorem d_index {X : Cx} {E : EX} {o e : Expr} {wo we : WE} {apos cpos : Pos} (hu : X.A.units + 65 < cLine) (ho : DE X E o wo) (he : DE X E e we)
    (hbase : attributeBase o "index" X.env (eval o X.env) = eval o X.env := by rfl)
    (hfew : ((backTo cpos (starEach [e] X.env)).all (fun x => !x.1) && (backToKw cpos (keywordEach [] X.env)).all (fun x => x.1.isSome) && decide ([e].length + ([] : List Keyword).length + (if ([] : List Keyword).isEmpty then 0 else 1) < 30)) = true := by rfl)
    (hline : (apos.endLine == cpos.line) = true := by rfl) (hs : starEach [e] X.env = (false, eval e X.env) :: starEach [] X.env := by rfl) (hplain : (backTo cpos (starEach [] X.env)).any (·.1) = false := by rfl) :
    DE X E (.Call (.Attribute o "index" apos) [e] [] cpos) (wMI wo we) := by
  obtain ⟨to, po, so⟩ := ho.ex
  obtain ⟨te, pe, se⟩ := he.ex
  exact ⟨_, pe_bm PySem.F.plainAttrs_list PySem.F.slot_list_index PySem.F.type_list_index (mt_indexD hu) po (pa_cons pe pa_nil hs) hbase hfew hline hs hplain, sim_mi so se⟩

/-! ### texts -/
def gStripC : G2
  | .str a, .str b, Q => a.length ≤ 100000 ∧ Q (.str (Txt.stripChars a b))
  | _, _, _ => False
def gLstripC : G2
  | .str a, .str b, Q => a.length ≤ 100000 ∧ Q (.str (Txt.lstripChars a b))
  | _, _, _ => False
def gPart : G2
  | .str a, .str b, Q => (b.length == 0) = false ∧ a.length ≤ 100000 ∧ Q (.tup [.str (Txt.partition a b).1, .str (Txt.partition a b).2.1, .str (Txt.partition a b).2.2])
  | _, _, _ => False
def gFind : G2
  | .str a, .str b, Q => Q (.int (Txt.find a b))
  | _, _, _ => False
def gRjust : G2
  | .str a, .int i, Q => PadOk i = true ∧ Q (.str (Txt.rjust a i))
  | _, _, _ => False
section
variable {a b : Str} {i : Int} {Q : D → Prop}
theorem gStripC_str : gStripC (.str a) (.str b) Q = (a.length ≤ 100000 ∧ Q (.str (Txt.stripChars a b))) := rfl
theorem gLstripC_str : gLstripC (.str a) (.str b) Q = (a.length ≤ 100000 ∧ Q (.str (Txt.lstripChars a b))) := rfl
theorem gPart_str : gPart (.str a) (.str b) Q = ((b.length == 0) = false ∧ a.length ≤ 100000 ∧ Q (.tup [.str (Txt.partition a b).1, .str (Txt.partition a b).2.1, .str (Txt.partition a b).2.2])) := rfl
theorem gFind_str : gFind (.str a) (.str b) Q = Q (.int (Txt.find a b)) := rfl
theorem gRjust_str : gRjust (.str a) (.int i) Q = (PadOk i = true ∧ Q (.str (Txt.rjust a i))) := rfl
end
section
variable {K : KW}
theorem m1d_strip : M1D K gStripC (fun x xs H Q => ∃ a b, x = .str a ∧ xs = [.str b] ∧ a.length ≤ sizeLine ∧ Q (.str (Txt.stripChars a b)) H) := by
  intro F H x y dx dy A B Q' Q hs rx ry w k
  unfold gStripC at w
  split at w
  · rw [rep_str rx, rep_str ry]
    exact ⟨_, _, rfl, rfl, le_line w.1, k.same w.2 (.str _)⟩
  · exact w.elim
theorem m1d_lstrip : M1D K gLstripC (fun x xs H Q => ∃ a b, x = .str a ∧ xs = [.str b] ∧ a.length ≤ sizeLine ∧ Q (.str (Txt.lstripChars a b)) H) := by
  intro F H x y dx dy A B Q' Q hs rx ry w k
  unfold gLstripC at w
  split at w
  · rw [rep_str rx, rep_str ry]
    exact ⟨_, _, rfl, rfl, le_line w.1, k.same w.2 (.str _)⟩
  · exact w.elim
theorem m1d_find : M1D K gFind (fun x xs H Q => ∃ a b, x = .str a ∧ xs = [.str b] ∧ Q (.int (Txt.find a b)) H) := by
  intro F H x y dx dy A B Q' Q hs rx ry w k
  unfold gFind at w
  split at w
  · rw [rep_str rx, rep_str ry]
    exact ⟨_, _, rfl, rfl, k.same w (.int _)⟩
  · exact w.elim
theorem m1d_part : M1D K gPart (fun x xs H Q => ∃ a b, x = .str a ∧ xs = [.str b] ∧ (b.length == 0) = false ∧ a.length ≤ sizeLine ∧
    ∀ p, H p = none → Q (.ref p) (upd H p (.tup [.str (Txt.partition a b).1, .str (Txt.partition a b).2.1, .str (Txt.partition a b).2.2]))) := by
  intro F H x y dx dy A B Q' Q hs rx ry w k
  unfold gPart at w
  split at w
  · rw [rep_str rx, rep_str ry]
    refine ⟨_, _, rfl, rfl, w.1, le_line w.2.1, fun p hp => ?_⟩
    exact k.tup w.2.2 (.cons (.str _) (.cons (.str _) (.cons (.str _) .nil rfl) rfl) rfl) p hp
  · exact w.elim
end
section
variable {X : Cx} {E : EX} {o e : Expr} {wo we : WE} {apos pos : Pos}
theorem d_strip (ho : DE X E o wo) (he : DE X E e we) (hs : starEach [e] X.env = [(false, eval e X.env)] := by rfl) (hbase : attributeBase o "strip" X.env (eval o X.env) = eval o X.env := by rfl) (hline : (apos.endLine == pos.line) = true := by rfl) :
    DE X E (.Call (.Attribute o "strip" apos) [e] [] pos) (wM1 gStripC wo we) := by
  obtain ⟨to, po, so⟩ := ho.ex
  obtain ⟨te, pe, se⟩ := he.ex
  exact ⟨_, pe_m1 PySem.F.slot_str_strip PySem.F.type_str_strip mt_stripChars po pe hs hbase hline, sim_m1 m1d_strip so se⟩
theorem d_lstrip (ho : DE X E o wo) (he : DE X E e we) (hs : starEach [e] X.env = [(false, eval e X.env)] := by rfl) (hbase : attributeBase o "lstrip" X.env (eval o X.env) = eval o X.env := by rfl) (hline : (apos.endLine == pos.line) = true := by rfl) :
    DE X E (.Call (.Attribute o "lstrip" apos) [e] [] pos) (wM1 gLstripC wo we) := by
  obtain ⟨to, po, so⟩ := ho.ex
  obtain ⟨te, pe, se⟩ := he.ex
  exact ⟨_, pe_m1 PySem.F.slot_str_lstrip PySem.F.type_str_lstrip mt_lstripChars po pe hs hbase hline, sim_m1 m1d_lstrip so se⟩
theorem d_find (ho : DE X E o wo) (he : DE X E e we) (hs : starEach [e] X.env = [(false, eval e X.env)] := by rfl) (hbase : attributeBase o "find" X.env (eval o X.env) = eval o X.env := by rfl) (hline : (apos.endLine == pos.line) = true := by rfl) :
    DE X E (.Call (.Attribute o "find" apos) [e] [] pos) (wM1 gFind wo we) := by
  obtain ⟨to, po, so⟩ := ho.ex
  obtain ⟨te, pe, se⟩ := he.ex
  exact ⟨_, pe_m1 PySem.F.slot_str_find PySem.F.type_str_find mt_find po pe hs hbase hline, sim_m1 m1d_find so se⟩
theorem d_part (ho : DE X E o wo) (he : DE X E e we) (hs : starEach [e] X.env = [(false, eval e X.env)] := by rfl) (hbase : attributeBase o "partition" X.env (eval o X.env) = eval o X.env := by rfl) (hline : (apos.endLine == pos.line) = true := by rfl) :
    DE X E (.Call (.Attribute o "partition" apos) [e] [] pos) (wM1 gPart wo we) := by
  obtain ⟨to, po, so⟩ := ho.ex
  obtain ⟨te, pe, se⟩ := he.ex
  exact ⟨_, pe_m1 PySem.F.slot_str_partition PySem.F.type_str_partition mt_partition po pe hs hbase hline, sim_m1 m1d_part so se⟩
end

/-! ### a, b = x, y -/
def wPar (i j : Nat) (w : WA) : WS := fun P px env => w px env fun ds env1 => match ds with
  | [d, e] => P.nx ((env1.set i (some d)).set j (some e))
  | _ => False
theorem simS_par {K : KW} {E : EX} {i j : Nat} {w : WA} {t : TA} (h : SimD K E w t) : SimS K E (wPar i j w) (tPar i j t) := by
  intro px F0 H0 F H σ env pv pd L S P D w1 k
  refine h px F0 H0 F H σ env pv pd L S _ _ w1 fun ds env1 vs F1 H1 w2 eF eH hl S1 => ?_
  split at w2
  · rename_i d e
    match vs, hl with
    | [v, u], _ => exact ⟨v, u, rfl, k.nx _ _ _ _ w2 (Sta.store (Sta.store S1))⟩
  · exact w2.elim
theorem s_par {X : Cx} {E : EX} {i j : Nat} {x y : Str} {a b : Expr} {w : WA} {px py pt pt2 pos : Pos} {kt k2} (hc : X.calm = true) (hN : X.N.Nodup) (hi : X.N[i]? = some x) (hj : X.N[j]? = some y) (hij : i ≠ j)
    (hx : X.env.scope.names.lookup x = some .local) (hy : X.env.scope.names.lookup y = some .local) (ha : DD X E [a, b] w)
    (hw : swappedStores [.Tuple [.Name x px, .Name y py] kt pt] (.Tuple [a, b] k2 pt2) X.env = pure (some [x, y]) := by rfl)
    (hs : swapsWithSole [.Tuple [.Name x px, .Name y py] kt pt] (.Tuple [a, b] k2 pt2) pos.line X.env = pure false := by rfl) :
    DS X E (.Assign [.Tuple [.Name x px, .Name y py] kt pt] (.Tuple [a, b] k2 pt2) pos) (wPar i j w) := by
  obtain ⟨t, p, s⟩ := ha.ex
  exact ⟨_, ps_par hc hN hi hj hij hx hy p hw hs, simS_par s⟩

/-! ### dict of a list of pairs -/
def kvD (p : L2.Key × D) : D := .tup [match p.1 with | .inl i => .int i | .inr x => .str x, p.2]
def mergeD (ps : List (L2.Key × D)) : List L2.Key × List D := ps.foldl (fun acc p => (putKs acc.1 p.1, putDs acc.1 acc.2 p.1 p.2)) ([], [])
def gDictP : GC
  | [d], Q => ∃ ps : List (L2.Key × D), asL d = some (ps.map kvD) ∧ dirtys (ps.map (·.2)) = false ∧ Q (.dct true (.k (mergeD ps).1) (mergeD ps).2)
  | _, _ => False
theorem merge_go {K : KW} {F H : Hp} : ∀ (ps : List (L2.Key × D)) (us : List V) (ks : List L2.Key) (vs : List V) (ds : List D), Reps K F H us (ps.map (·.2)) [] → ks.length = vs.length → Reps K F H vs ds [] →
    ∃ vs', mergeK (ks.zip vs) ((ps.map (·.1)).zip us) = (ps.foldl (fun acc p => (putKs acc.1 p.1, putDs acc.1 acc.2 p.1 p.2)) (ks, ds)).1.zip vs' ∧ (ps.foldl (fun acc p => (putKs acc.1 p.1, putDs acc.1 acc.2 p.1 p.2)) (ks, ds)).1.length = vs'.length ∧
      Reps K F H vs' (ps.foldl (fun acc p => (putKs acc.1 p.1, putDs acc.1 acc.2 p.1 p.2)) (ks, ds)).2 []
  | [], us, ks, vs, ds, _, hl, r => ⟨vs, by simp [mergeK], hl, r⟩
  | p :: ps, us, ks, vs, ds, ru, hl, r => by
    cases ru with
    | cons h1 h2 e =>
      rename_i v us A B
      have eA : A = [] := by cases A with | nil => rfl | cons _ _ => simp at e
      have eB : B = [] := by subst eA; simpa using e.symm
      subst eA eB
      obtain ⟨vs1, g1, g2, g3⟩ := reps_put (k := p.1) HO.dK hl r h1
      obtain ⟨vs', k1, k2, k3⟩ := merge_go ps us (putKs ks p.1) vs1 (putDs ks ds p.1 p.2) h2 g2 g3
      refine ⟨vs', ?_, k2, k3⟩
      rw [List.map_cons, List.zip_cons_cons]
      unfold mergeK at k1 ⊢
      rw [List.foldl_cons, g1]
      exact k1
theorem reps_kvs {K : KW} {F H : Hp} : ∀ {ps : List (L2.Key × D)} {vs : List V} {A : List Addr}, Reps K F H vs (ps.map kvD) A → dirtys (ps.map (·.2)) = false →
    ∃ (as : List Addr) (us : List V), vs = as.map V.ref ∧ Reps K F H us (ps.map (·.2)) [] ∧ Paired (fun p kv => SqT K H p [kV kv.1, kv.2]) as ((ps.map (·.1)).zip us)
  | [], _, _, .nil, _ => ⟨[], [], rfl, .nil, .nil⟩
  | p :: ps, _, _, .cons h r e, hd => by
    simp only [List.map_cons, dirtys, Bool.or_eq_false_iff] at hd
    obtain ⟨as, us, e1, r1, p1⟩ := reps_kvs r hd.2
    subst e1
    unfold kvD at h
    cases h with
    | tup hq rs =>
      rename_i a vs2
      cases rs with
      | cons ka rs2 e2 =>
        rename_i kv vs3 A1 A2
        cases rs2 with
        | cons va rs3 e3 =>
          cases rs3
          have cl := va.clean hd.1
          subst cl
          have ek : kv = kV p.1 := by
            cases hk : p.1 with
            | inl i => rw [hk] at ka; exact rep_int ka
            | inr x => rw [hk] at ka; exact rep_str ka
          subst ek
          exact ⟨a :: as, _ :: us, rfl, .cons va r1 rfl, .cons (SqT.of hq) p1⟩
theorem cd_dictP {K : KW} : CallD K gDictP (fun xs H Q => ∃ (a : Addr) (ps : List Addr) (kvs : List (Key × V)), xs = [.ref a] ∧ SqL K H a (ps.map V.ref) ∧ Paired (fun p kv => SqT K H p [kV kv.1, kv.2]) ps kvs ∧
    ∀ p, H p = none → Q (.ref p) (upd H p (.dK (mergeK [] kvs)))) := by
  intro F H xs ds A Q' Q hs r w k
  unfold gDictP at w
  split at w
  · obtain ⟨ps, e, hd, w⟩ := w
    obtain ⟨v, rfl, r1⟩ := reps1 r
    obtain ⟨a, vs, B, rfl, h1, r2⟩ := rep_asL1 hs r1 e
    obtain ⟨as, us, rfl, r3, pr⟩ := reps_kvs r2 hd
    refine ⟨a, as, _, rfl, h1, pr, fun p hp => ?_⟩
    obtain ⟨vs', g1, g2, g3⟩ := merge_go ps us [] [] [] r3 rfl .nil
    rw [show mergeK [] ((ps.map (·.1)).zip us) = mergeK (([] : List L2.Key).zip ([] : List V)) ((ps.map (·.1)).zip us) from rfl, g1]
    exact k (.dct true (.k (mergeD ps).1) (mergeD ps).2) (.ref p) _ [p] w (Ex.new hp) (.dO upd_same g2 (g3.ex (Same.refl _) (Ex.new hp))) (by simp) fun a ha => by simp at ha; subst ha; exact hp
  · exact w.elim
end Tm

set_option Elab.async false
set_option linter.all false
set_option maxRecDepth 100000
set_option maxHeartbeats 1000000
/-! defs that change the list that is handed in first -/
namespace Tm
open PySem PySem.Spec PyProof.Rows L2
/-- the list ahead, the other arguments, the list behind -/
abbrev SpecM := List D → List D → (List D → Prop) → Prop
def spM (K : KW) (spec : SpecM) : Sp := fun vs H Q E => ∃ (a : Addr) (ws : List V) (F : Hp) (xs ds : List D) (A : List Addr) (Qd : List D → Prop), vs = .ref a :: ws ∧ Ex F H ∧ Rep K F H (.ref a) (.pin a xs) (a :: A) ∧ (a :: A).Nodup ∧ (∀ b ∈ a :: A, F b = none) ∧
  Reps K F H ws ds [] ∧ spec xs ds Qd ∧ ∀ xs' F' H' A', Qd xs' → Ex F F' → (∀ b o, b ∉ a :: A → H b = some o → H' b = some o) → Ex F' H' → (∀ b, F' b ≠ none → F b ≠ none ∨ H b = none ∨ b ∈ a :: A) → Rep K F' H' (.ref a) (.pin a xs') (a :: A') → (a :: A').Nodup →
    (∀ b ∈ a :: A', F' b = none ∧ (H b = none ∨ b ∈ a :: A)) → Q .non H'
def PEnds.topM (a : Addr) (Q : List D → Prop) : PEnds := { nx := fun env => ∃ xs, env[0]? = some (some (.pin a xs)) ∧ Q xs, rt := fun _ => False }
theorem topM_nx {a : Addr} {Q : List D → Prop} {env : Env} : (PEnds.topM a Q).nx env = ∃ xs, env[0]? = some (some (.pin a xs)) ∧ Q xs := rfl
def startM (n : Nat) (a : Addr) (xs ds : List D) : Env := some (.pin a xs) :: (ds.map some ++ List.replicate (n - (ds.length + 1)) none)
/-- what is not owned by the list -/
def away (H : Hp) (A : List Addr) : Hp := fun b => if b ∈ A then none else H b
theorem away_ex {H : Hp} {A : List Addr} : Ex (away H A) H := fun b o q => by
  unfold away at q
  split at q
  · cases q
  · exact q
theorem away_none {H : Hp} {A : List Addr} {b : Addr} : away H A b = none ↔ b ∈ A ∨ H b = none := by
  unfold away
  split
  · simp [*]
  · simp [*]
theorem bodyM_ok {K : KW} {E : XK} {E' : EX} {spec : SpecM} {w : WS} {t : TS} {N : List Str} {vs : List V} {H : Hp} {Q : VK} (hs : SimS K E' w t) (h : spM K spec vs H Q E)
    (pure : ∀ a xs ds Qd, spec xs ds Qd → w (PEnds.topM a Qd) px0 (startM N.length a xs ds)) : t { nx := fun _ H' => Q .non H', rt := Q } (L2.start N vs) H := by
  obtain ⟨a, ws, F, xs, ds, A, Qd, rfl, hF, r, hn, hA, rs, sp, back⟩ := h
  have sl : Slots K F H (L2.start N (.ref a :: ws)) (startM N.length a xs ds) (a :: A) := by
    unfold L2.start startM
    rw [List.map_cons, List.cons_append, List.length_cons, rs.length]
    exact .cons r (slots_start rs) (by simp)
  have S : Sta K F (away H (a :: A)) F H (L2.start N (.ref a :: ws)) (startM N.length a xs ds) [] [] :=
    ⟨Same.refl _, away_ex, hF, fun b q => .inl q, a :: A, [], sl, .nil, by simpa using hn, fun b hb => by
      rw [List.append_nil] at hb
      exact ⟨hA b hb, away_none.mpr (.inl hb)⟩⟩
  refine hs px0 F _ F H _ _ [] [] link0 S _ _ (pure a xs ds Qd sp) ⟨fun σ' env' F' H' q S' => ?_, fun d v F' H' σ' env' pv' pd' q _ => q.elim, fun _ _ _ _ q _ => q, fun _ _ _ _ q _ => q⟩
  obtain ⟨xs', e, q⟩ := q
  obtain ⟨A0, B, h1, h2, h3, h4⟩ := S'.own
  obtain ⟨v, A1, Ai, A2, e2, e3, r', _, _⟩ := h1.at e
  subst e3
  cases r' with
  | pin hq rs' =>
    rename_i vs' A'
    refine back xs' F' H' A' q S'.exF (fun b o hb hbo => S'.exH b o ?_) S'.sub (fun b z => ?_) (.pin hq rs') ?_ fun b hb => ?_
    · unfold away; rw [if_neg hb]; exact hbo
    · rcases S'.new b z with y | y
      · exact .inl y
      · rcases away_none.mp y with y | y
        · exact .inr (.inr y)
        · exact .inr (.inl y)
    · refine List.Nodup.sublist ?_ h3
      rw [show A1 ++ a :: A' ++ A2 ++ B = A1 ++ (a :: A') ++ (A2 ++ B) by simp]
      exact (List.sublist_append_right A1 (a :: A')).trans (List.sublist_append_left _ _)
    · have := h4 b (by simp at hb ⊢; rcases hb with hb | hb <;> simp [hb])
      refine ⟨this.1, ?_⟩
      rcases away_none.mp this.2 with y | y
      · exact .inr y
      · exact .inl y
theorem spM_len {K : KW} {spec : SpecM} {n : Nat} (h : ∀ xs ds Q, spec xs ds Q → ds.length + 1 = n) : ∀ vs H Q E, spM K spec vs H Q E → vs.length = n := by
  rintro vs H Q E ⟨a, ws, F, xs, ds, A, Qd, rfl, _, _, _, _, rs, sp, _⟩
  rw [List.length_cons, rs.length]; exact h _ _ _ sp
theorem okM {P : Program} {K : KW} {mg : Str → Option Value} {base : Heap} {x qual : Str} {st : Stmt} {f : Addr} {fd : FuncData} {N ps : List Str} {k : Nat} {spec : SpecM} (F : Fun K x qual st f fd) (S : FnScope N ps (defScope st)) (len : ∀ xs ds Q, spec xs ds Q → ds.length + 1 = ps.length) {ws : WS}
    (body : ∀ (cdv : Value) (A : Around) (outer : List PySem.Env) (s : Shared) (H : Hp) (E : XK), Room k (A.deeper (envOfC qual (defScope st) s.heap.objs.size f cdv)) → DSs (cxOf CX0 P K.w K mg base N qual (defScope st) f cdv A outer s H E).nox (fun _ => E) (defBody st) ws)
    (pure : ∀ a xs ds Q, spec xs ds Q → ws (PEnds.topM a Q) px0 (startM N.length a xs ds)) : FnOk P K.w K mg base CX0 (k + 1) f fd ps (spM K spec) := by
  refine F.ok S (spM_len len) fun cdv A outer s H vs Q E hr h => ?_
  obtain ⟨t, p, sim⟩ := (body cdv A outer s H E hr).ex
  exact ⟨t, p, bodyM_ok sim h pure⟩
mutual
theorem Rep.noTup {K : KW} {F H : Hp} : ∀ {v : V} {d : D} {A : List Addr}, Rep K F H v d A → ∀ a ∈ A, ∀ xs, H a ≠ some (.tup xs)
  | _, _, _, .non, a, ha => absurd ha List.not_mem_nil
  | _, _, _, .bl b, a, ha => absurd ha List.not_mem_nil
  | _, _, _, .int i, a, ha => absurd ha List.not_mem_nil
  | _, _, _, .str x, a, ha => absurd ha List.not_mem_nil
  | _, _, _, .ref b, a, ha => absurd ha List.not_mem_nil
  | _, _, _, .ty n, a, ha => absurd ha List.not_mem_nil
  | _, _, _, .tup _ r, a, ha => Reps.noTup r a ha
  | _, _, _, .fz _ _, a, ha => absurd ha List.not_mem_nil
  | _, _, _, .own h r, a, ha => (List.mem_cons.mp ha).elim (fun e xs z => by rw [e, h] at z; cases z) (fun ha => Reps.noTup r a ha)
  | _, _, _, .seq _ _, a, ha => absurd ha List.not_mem_nil
  | _, _, _, .dF _ _ _, a, ha => absurd ha List.not_mem_nil
  | _, _, _, .dL _ _ _, a, ha => absurd ha List.not_mem_nil
  | _, _, _, .dO (kd := kd) h _ r, a, ha => (List.mem_cons.mp ha).elim (fun e xs z => by rw [e, h] at z; cases kd <;> cases z) (fun ha => Reps.noTup r a ha)
  | _, _, _, .pin h r, a, ha => (List.mem_cons.mp ha).elim (fun e xs z => by rw [e, h] at z; cases z) (fun ha => Reps.noTup r a ha)
  | _, _, _, .oF _ _ _ _, a, ha => absurd ha List.not_mem_nil
  | _, _, _, .oO h _ _ r, a, ha => (List.mem_cons.mp ha).elim (fun e xs z => by rw [e, h] at z; cases z) (fun ha => Reps.noTup r a ha)
  | _, _, _, .oP h _ _ r, a, ha => (List.mem_cons.mp ha).elim (fun e xs z => by rw [e, h] at z; cases z) (fun ha => Reps.noTup r a ha)
  | _, _, _, .xF _ _ _ _ _, a, ha => absurd ha List.not_mem_nil
  | _, _, _, .xO h _ _ _ _, a, ha => fun xs z => by rw [List.mem_singleton.mp ha, h] at z; cases z
theorem Reps.noTup {K : KW} {F H : Hp} : ∀ {vs : List V} {ds : List D} {A : List Addr}, Reps K F H vs ds A → ∀ a ∈ A, ∀ xs, H a ≠ some (.tup xs)
  | _, _, _, .nil, a, ha => absurd ha List.not_mem_nil
  | _, _, _, .cons h r e, a, ha => (List.mem_append.mp (by rw [← e]; exact ha)).elim (fun ha => Rep.noTup h a ha) (fun ha => Reps.noTup r a ha)
end
theorem ho_inj {kd : DKeys} {vs us : List V} (h1 : kd.len = vs.length) (h2 : kd.len = us.length) (e : kd.ho vs = kd.ho us) : vs = us := by
  have a := kids_dct h1
  have b := kids_dct h2
  rw [e, b] at a
  exact (Option.some.inj a).symm
theorem zip_inj {ns : List Str} {vs us : List V} (h1 : ns.length = vs.length) (h2 : ns.length = us.length) (e : ns.zip vs = ns.zip us) : vs = us := by
  rw [← zip_snd h1, ← zip_snd h2, e]
mutual
theorem Rep.uniq {K : KW} {F H : Hp} : ∀ {v : V} {d : D} {A : List Addr}, Rep K F H v d A → ∀ {B : List Addr}, Rep K F H v d B → A = B
  | _, _, _, .non, _, s => by cases s; rfl
  | _, _, _, .bl b, _, s => by cases s; rfl
  | _, _, _, .int i, _, s => by cases s; rfl
  | _, _, _, .str x, _, s => by cases s; rfl
  | _, _, _, .ref b, _, s => by cases s; rfl
  | _, _, _, .ty n, _, s => by cases s; rfl
  | _, _, _, .tup h r, _, s => by
    cases s with
    | tup h' r' => rw [h] at h'; cases h'; exact Reps.uniq r r'
  | _, _, _, .fz _ _, _, s => by cases s; rfl
  | _, _, _, .own h r, _, s => by
    cases s with
    | own h' r' => rw [h] at h'; cases h'; rw [Reps.uniq r r']
  | _, _, _, .seq _ _, _, s => by cases s; rfl
  | _, _, _, .dF _ _ _, _, s => by cases s <;> rfl
  | _, _, _, .dL _ _ _, _, s => by cases s <;> rfl
  | _, _, _, .dO h e r, _, s => by
    cases s with
    | dO h' e' r' => rw [h] at h'; cases ho_inj e e' (Option.some.inj h'); rw [Reps.uniq r r']
  | _, _, _, .pin h r, _, s => by
    cases s with
    | pin h' r' => rw [h] at h'; cases h'; rw [Reps.uniq r r']
  | _, _, _, .oF _ _ _ _, _, s => by cases s; rfl
  | _, _, _, .oO h _ e r, _, s => by
    cases s with
    | oO h' _ e' r' => rw [h] at h'; injection h' with h'; injection h' with _ _ h'; cases zip_inj e e' h'; rw [Reps.uniq r r']
  | _, _, _, .oP h _ e r, _, s => by
    cases s with
    | oP h' _ e' r' => rw [h] at h'; injection h' with h'; injection h' with _ _ h'; cases zip_inj e e' h'; rw [Reps.uniq r r']
  | _, _, _, .xF _ _ _ _ _, _, s => by cases s; rfl
  | _, _, _, .xO _ _ _ _ _, _, s => by cases s; rfl
theorem Reps.uniq {K : KW} {F H : Hp} : ∀ {vs : List V} {ds : List D} {A : List Addr}, Reps K F H vs ds A → ∀ {B : List Addr}, Reps K F H vs ds B → A = B
  | _, _, _, .nil, _, s => by cases s; rfl
  | _, _, _, .cons h r e, _, s => by
    cases s with
    | cons h' r' e' => rw [e, e', Rep.uniq h h', Reps.uniq r r']
end
/-- what an owner's part is put in the place of another one by a call -/
theorem Sta.swapIn {K : KW} {F0 H0 F H F' H' : Hp} {σ : L2.St} {env : Env} {pv : List V} {pd : List D} {i : Nat} {e e' : D} {a : Addr} {A' A'' : List Addr} (S : Sta K F0 H0 F H σ env pv pd) (hi : env[i]? = some (some e))
    (hr : ∀ {v : V} {A : List Addr}, Rep K F H v e A → σ[i]? = some (some v) → v = .ref a ∧ A = a :: A')
    (eF : Ex F F') (keep : ∀ b o, b ∉ a :: A' → H b = some o → H' b = some o) (sub : Ex F' H') (new : ∀ b, F' b ≠ none → F b ≠ none ∨ H b = none ∨ b ∈ a :: A') (r : Rep K F' H' (.ref a) e' (a :: A'')) (nd : (a :: A'').Nodup)
    (hA : ∀ b ∈ a :: A'', F' b = none ∧ (H b = none ∨ b ∈ a :: A')) : Sta K F0 H0 F' H' σ (env.set i (some e')) pv pd := by
  obtain ⟨A0, B, h1, h2, h3, h4⟩ := S.own
  obtain ⟨v, A1, Ai, A2, e2, e3, r0, _, back⟩ := h1.at hi
  obtain ⟨rfl, rfl⟩ := hr r0 e2
  subst e3
  have hsplit : ∀ b, b ∈ A1 ++ A2 ++ B → b ∉ a :: A' := fun b hb z => by
    rw [List.nodup_append] at h3
    have h5 := List.nodup_append.mp h3.1
    have h6 := List.nodup_append.mp h5.1
    simp only [List.mem_append] at hb
    rcases hb with (hb | hb) | hb
    · exact h6.2.2 b hb b z rfl
    · exact h5.2.2 b (by simp only [List.mem_append]; exact .inr z) b hb rfl
    · exact h3.2.2 b (by simp only [List.mem_append]; exact .inl (.inr z)) b hb rfl
  have hthere : ∀ b, b ∈ A1 ++ A2 ++ B → ∃ o, H b = some o := fun b hb => by
    simp only [List.mem_append] at hb
    rcases hb with (hb | hb) | hb
    · exact h1.there b (by simp [hb])
    · exact h1.there b (by simp [hb])
    · exact h2.there b hb
  have hsame : ∀ b, b ∈ A1 ++ A2 ++ B → H' b = H b := fun b hb => by
    obtain ⟨o, ho⟩ := hthere b hb
    rw [keep b o (hsplit b hb) ho, ho]
  have hT : ∀ b xs, H b = some (.tup xs) → H' b = some (.tup xs) := fun b xs hb => keep b _ (fun z => r0.noTup b z xs hb) hb
  have sl := back (F' := F') (H' := H') eF hT (fun b hb => hsame b (by simp at hb ⊢; rcases hb with hb | hb <;> simp [hb])) r
  have ev : (σ.set i (some (V.ref a))) = σ := by
    obtain ⟨hl, hv⟩ := List.getElem?_eq_some_iff.mp e2
    rw [← hv]; exact List.set_getElem_self hl
  rw [ev] at sl
  have h0 : ∀ b, b ∈ a :: A' → H0 b = none := fun b hb => (h4 b (by simp only [List.mem_append]; exact .inl (.inl (.inr hb)))).2
  refine ⟨S.exF.trans eF, fun b o q => keep b o (fun z => by rw [h0 b z] at q; cases q) (S.exH b o q), sub, fun b z => ?_, _, B, sl, h2.mono eF hT fun b hb => hsame b (by simp [hb]), ?_, fun b hb => ?_⟩
  · rcases new b z with y | y | y
    · exact S.new b y
    · exact .inr (S.exH.none y)
    · exact .inr (h0 b y)
  · have nA : ∀ x ∈ a :: A'', ∀ y ∈ A1 ++ A2 ++ B, x ≠ y := fun x hx y hy z => by
      subst z
      rcases (hA x hx).2 with q | q
      · obtain ⟨o, ho⟩ := hthere x hy
        rw [q] at ho; cases ho
      · exact hsplit x hy q
    have n3 : (A1 ++ A2 ++ B).Nodup := by
      refine List.Nodup.sublist ?_ h3
      exact List.Sublist.append (List.Sublist.append (List.sublist_append_left _ _) (List.Sublist.refl _)) (List.Sublist.refl _)
    refine ((List.Perm.nodup_iff ?_).mpr (List.nodup_append.mpr ⟨nd, n3, nA⟩))
    rw [show A1 ++ a :: A'' ++ A2 ++ B = A1 ++ ((a :: A'') ++ (A2 ++ B)) by simp]
    refine (List.perm_append_comm_assoc A1 (a :: A'') (A2 ++ B)).trans ?_
    rw [show A1 ++ (A2 ++ B) = A1 ++ A2 ++ B by simp]
  · have hb2 : b ∈ a :: A'' ∨ b ∈ A1 ++ A2 ++ B := by
      simp only [List.mem_append] at hb ⊢
      rcases hb with ((hb | hb) | hb) | hb
      · exact .inr (.inl (.inl hb))
      · exact .inl hb
      · exact .inr (.inl (.inr hb))
      · exact .inr (.inr hb)
    rcases hb2 with hb2 | hb2
    · refine ⟨(hA b hb2).1, ?_⟩
      rcases (hA b hb2).2 with q | q
      · exact S.exH.none q
      · exact h0 b q
    · have hold := h4 b (by
        simp only [List.mem_append] at hb2 ⊢
        rcases hb2 with (hb2 | hb2) | hb2
        · exact .inl (.inl (.inl hb2))
        · exact .inl (.inr hb2)
        · exact .inr hb2)
      refine ⟨?_, hold.2⟩
      cases z : F' b with
      | none => rfl
      | some o =>
        rcases new b (by rw [z]; simp) with y | y | y
        · exact absurd hold.1 y
        · obtain ⟨o', ho⟩ := hthere b hb2
          rw [y] at ho; cases ho
        · exact absurd y (hsplit b hb2)
/-! ### such a def called -/
def wCallM (spec : SpecM) (i : Nat) (w : WA) : WS := fun P px env => onP (subE env i []) fun _ => w px env fun ds env1 => dirtys ds = false ∧ ownL (subE env1 i []) fun xs mk => spec xs ds fun xs' => P.nx (setE env1 i [] (mk xs'))
theorem subE_nil {env : Env} {i : Nat} {e : D} (h : subE env i [] = some e) : env[i]? = some (some e) := by
  unfold subE at h
  split at h
  · rename_i d hd
    rw [subP_nil] at h; cases h; exact hd
  · cases h
theorem setE_nil {env : Env} {i : Nat} {e e' : D} (h : env[i]? = some (some e)) : setE env i [] e' = env.set i (some e') := by
  unfold setE
  rw [h]
  simp only [setP_nil]
theorem simS_callM {K : KW} {E : EX} {E' : XK} {spec : SpecM} {i : Nat} {w : WA} {t : TA} (h : SimA K E w t) : SimS K E (wCallM spec i w) (tDrop (tCall (spM K spec) [] E' (tCons (tVar i) t))) := by
  intro px F0 H0 F H σ env pv pd L S P D w1 k
  obtain ⟨e0, he0, w1⟩ := onP_is w1
  obtain ⟨v, A, hv, _⟩ := S.slot (subE_nil he0)
  refine ⟨v, hv, h px F0 H0 F H σ env pv pd L S _ _ w1 fun ds env1 ws F1 H1 A1 w2 eF eH rs S1 => ?_⟩
  obtain ⟨hd, w2⟩ := w2
  have := rs.clean hd
  subst this
  obtain ⟨e, xs, mk, he, ho, w3⟩ := ownL_is w2
  have hi := subE_nil he
  obtain ⟨A0, B, h1, h2, h3, h4⟩ := S1.own
  obtain ⟨v', B1, Bi, B2, e2, e3, r0, _, _⟩ := h1.at hi
  rw [hv] at e2; cases e2
  subst e3
  have key : ∃ a A', v = .ref a ∧ Bi = a :: A' ∧ Rep K F1 H1 (.ref a) (.pin a xs) (a :: A') ∧ (∀ {F' H' : Hp} {xs' : List Tm.D} {A'' : List Addr}, Rep K F' H' (.ref a) (.pin a xs') (a :: A'') → Rep K F' H' (.ref a) (mk xs') (a :: A'')) ∧
      ∀ {v : V} {A : List Addr}, Rep K F1 H1 v e A → σ[i]? = some (some v) → v = .ref a ∧ A = a :: A' := by
    rcases ho with ⟨rfl, rfl⟩ | ⟨b, rfl, rfl⟩
    · cases r0 with
      | own hq r1 =>
        refine ⟨_, _, rfl, rfl, .pin hq r1, fun r => by cases r with | pin h1 h2 => exact .own h1 h2, fun {v A} r hs => ?_⟩
        rw [hv] at hs; cases hs
        exact ⟨rfl, r.uniq (.own hq r1)⟩
    · cases r0 with
      | pin hq r1 =>
        refine ⟨_, _, rfl, rfl, .pin hq r1, fun r => r, fun {v A} r hs => ?_⟩
        rw [hv] at hs; cases hs
        exact ⟨rfl, r.uniq (.pin hq r1)⟩
  obtain ⟨a, A', rfl, rfl, rp, back, uq⟩ := key
  rw [List.append_nil]
  have hin : ∀ b ∈ a :: A', F1 b = none ∧ H0 b = none := fun b hb => h4 b (by simp only [List.mem_append]; exact .inl (.inl (.inr hb)))
  have hn : (a :: A').Nodup := by
    have h5 := List.nodup_append.mp (List.nodup_append.mp h3).1
    exact (List.nodup_append.mp h5.1).2.1
  refine ⟨a, ws, F1, xs, ds, A', _, rfl, S1.sub, rp, hn, fun b hb => (hin b hb).1, rs, w3, fun xs' F' H' A'' q eF' keep sub' new' r' nd' hA' => ?_⟩
  refine k.nx _ _ F' H' q ?_
  rw [setE_nil hi]
  exact S1.swapIn hi uq eF' keep sub' new' (back r') nd' hA'
section
variable {X : Cx} {E : EX} {k : Nat} {f : Addr} {fd : FuncData} {ps : List Str} {spec : SpecM} {ds : List Value} {x y : Str} {p q cpos pos : Pos} {es : List Expr} {w : WA} {i : Nat}
theorem s_callM (G : FnOk X.prog X.w X.K X.mg X.base CX0 k f fd ps (spM X.kw spec)) (hr : Room k X.A) (hg : Gl X x) (hm : X.mg x = some (.ref f)) (hk : PySem.W.keepIn X.K (.ref f) = true) (hb : Binds X.K fd ps ds) (hd : Vals [] ds)
    (hN : X.N[i]? = some y := by rfl) (hv : Vis X.env.scope y := by first | exact Or.inl rfl | exact Or.inr (Or.inl rfl) | exact Or.inr (Or.inr rfl)) (ha : DA X E es w) (hdy : (y == ("__debug__" : Str)) = false := by decide) (hcd : (y == ("__classdict__" : Str)) = false := by decide)
    (hdb : (x == ("__debug__" : Str)) = false := by decide) (he : starEach (.Name y q :: es) X.env = (false, eval (.Name y q) X.env) :: starEach es X.env := by rfl) (hpl : (backTo cpos (starEach es X.env)).any (·.1) = false := by rfl)
    (hsw : swapsWith (.Call (.Name x p) (.Name y q :: es) [] cpos) none pos.line X.env = pure false := by rfl) :
    DS X E (.Expr (.Call (.Name x p) (.Name y q :: es) [] cpos) pos) (wCallM spec i w) := by
  obtain ⟨t, pa, sa⟩ := ha.ex
  exact ⟨_, ps_expr (pe_call G hr hg hm hk hb hd pass0 (pa_cons (pe_var hN hv hdy hcd) pa he) hdb he hpl) hsw, simS_callM sa⟩
end
end Tm

set_option Elab.async false
set_option linter.all false
set_option maxRecDepth 100000
set_option maxHeartbeats 1000000
/-! a loop over a list at a place of what a name owns; the place gets it back behind the loop -/
namespace Tm
open PySem PySem.Spec PyProof.Rows L2
def forV (o : Option (List D)) (Q : List D → Prop) : Prop := match o with
  | some ds => Q ds
  | none => False
theorem forV_some {ds : List D} {Q : List D → Prop} : forV (some ds) Q = Q ds := rfl
theorem forV_is {o : Option (List D)} {Q : List D → Prop} (h : forV o Q) : ∃ ds, o = some ds ∧ Q ds := by
  cases o with
  | some d => exact ⟨d, rfl, h⟩
  | none => exact h.elim
def backP (i : Nat) (p : List Nat) (e : D) (a : Addr) (P : PEnds) : PEnds := { P with nx := fun env2 => subE env2 i p = some (.ref a) ∧ P.nx (setE env2 i p e) }
theorem backP_nx {i : Nat} {p : List Nat} {e : D} {a : Addr} {P : PEnds} {env : Env} : (backP i p e a P).nx env = (subE env i p = some (.ref a) ∧ P.nx (setE env i p e)) := rfl
theorem backP_rt {i : Nat} {p : List Nat} {e : D} {a : Addr} {P : PEnds} : (backP i p e a P).rt = P.rt := rfl
theorem backP_bk {i : Nat} {p : List Nat} {e : D} {a : Addr} {P : PEnds} : (backP i p e a P).bk = P.bk := rfl
theorem backP_ct {i : Nat} {p : List Nat} {e : D} {a : Addr} {P : PEnds} : (backP i p e a P).ct = P.ct := rfl
def wForP (wp : WP) (g : WG) (b : WS) : WS := fun P px env => wp px env fun i p env1 => onP (subE env1 i p) fun e => forV (asL e) fun ds => dirtys ds = false ∧ ∀ a, ForW g b (backP i p e a P) px ds (setE env1 i p (.ref a))
section
variable {K : KW} {F0 H0 F H : Hp} {σ : L2.St} {env : Env} {pv : List V} {pd : List D}
theorem Sta.takeP {i : Nat} {p : List Nat} {e : D} {a : Addr} (S : Sta K F0 H0 F H σ env pv pd) (h : subE env i p = some e) (hv : valE σ H i p = some (.ref a)) : Sta K F0 H0 F H σ (setE env i p (.ref a)) ([.ref a] ++ pv) ([e] ++ pd) := by
  unfold subE at h
  unfold setE
  split at h
  rotate_left
  · cases h
  rename_i d hd
  obtain ⟨A0, B, h1, h2, h3, h4⟩ := S.own
  obtain ⟨v, S1, Si, S2, g1, g2, r, s, back⟩ := h1.at hd
  subst g2
  obtain ⟨v', P1, Pe, P2, q1, q2, re, back2⟩ := r.path h
  subst q2
  unfold valE at hv
  rw [g1] at hv
  simp only at hv
  rw [hv] at q1; cases q1
  have rv := back2 (Same.refl F) (fun _ _ z => z) (fun _ _ => rfl) (.ref a)
  have sl := back (Same.refl F) (fun _ _ z => z) (fun _ _ => rfl) rv
  have ev : (σ.set i (some v)) = σ := by
    obtain ⟨hl, hv⟩ := List.getElem?_eq_some_iff.mp g1
    rw [← hv]; exact List.set_getElem_self hl
  rw [ev] at sl
  have hp : (S1 ++ (P1 ++ [] ++ P2) ++ S2 ++ (Pe ++ B)).Perm (S1 ++ (P1 ++ Pe ++ P2) ++ S2 ++ B) := List.perm_iff_count.mpr fun x => by
    simp only [List.count_append, List.count_nil]; omega
  exact ⟨S.exF, S.exH, S.sub, S.new, _, _, sl, .cons re h2 rfl, hp.nodup_iff.mpr h3, fun b hb => h4 b (hp.mem_iff.mp hb)⟩
theorem Sta.putP {i : Nat} {p : List Nat} {e : D} {a : Addr} (S : Sta K F0 H0 F H σ env ([.ref a] ++ pv) ([e] ++ pd)) (h : subE env i p = some (.ref a)) : Sta K F0 H0 F H σ (setE env i p e) pv pd := by
  unfold subE at h
  unfold setE
  split at h
  rotate_left
  · cases h
  rename_i d hd
  obtain ⟨A0, B, h1, h2, h3, h4⟩ := S.own
  obtain ⟨v, S1, Si, S2, g1, g2, r, s, back⟩ := h1.at hd
  subst g2
  obtain ⟨v', P1, Pe, P2, q1, q2, re, back2⟩ := r.path h
  subst q2
  cases re
  cases h2 with
  | cons ra rb eB =>
    subst eB
    rename_i Ad Bd
    have rv := back2 (Same.refl F) (fun _ _ z => z) (fun _ _ => rfl) ra
    have sl := back (Same.refl F) (fun _ _ z => z) (fun _ _ => rfl) rv
    have ev : (σ.set i (some v)) = σ := by
      obtain ⟨hl, hv⟩ := List.getElem?_eq_some_iff.mp g1
      rw [← hv]; exact List.set_getElem_self hl
    rw [ev] at sl
    have hp : (S1 ++ (P1 ++ Ad ++ P2) ++ S2 ++ Bd).Perm (S1 ++ (P1 ++ [] ++ P2) ++ S2 ++ (Ad ++ Bd)) := List.perm_iff_count.mpr fun x => by
      simp only [List.count_append, List.count_nil]; omega
    exact ⟨S.exF, S.exH, S.sub, S.new, _, _, sl, rb, hp.nodup_iff.mpr h3, fun b hb => h4 b (hp.mem_iff.mp hb)⟩
end
theorem simS_forP {K : KW} {E : EX} {wp : WP} {g : WG} {b : WS} {tp : TE} {tg : TG} {tb : TS} (hp : SimP K E wp tp) (hg : SimG K g tg) (hb : SimS K E b tb) : SimS K E (wForP wp g b) (tFor (iList K tp) tg tb) := by
  intro px F0 H0 F H σ env pv pd L S P D w k
  refine hp px F0 H0 F H σ env pv pd L S _ _ w fun i p env1 x F1 H1 w1 eF eH S0 hx => ?_
  obtain ⟨e, he, w1⟩ := onP_is w1
  obtain ⟨ds, hd, w1, w2⟩ := forV_is w1
  obtain ⟨v, A, e1, r⟩ := S0.seen he
  rw [hx] at e1; cases e1
  obtain ⟨a, vs, B, rfl, hq, rs, _⟩ := rep_asL S0.sub r hd
  have S1 := S0.takeP he hx
  have J1 : ItD K (Itl K a) [.ref a] [e] ds := ⟨rfl, fun F H A i e hs rr he => by
    cases rr with
    | cons r1 _ _ =>
      obtain ⟨a', vs', B', e1, hq', rs', _⟩ := rep_asL hs r1 hd
      cases e1
      obtain ⟨x, C, hx, rx, _⟩ := rs'.get he
      refine ⟨⟨vs', x, hq', hx⟩, fun x' H' y => ?_⟩
      obtain ⟨e2, y⟩ := y
      subst e2
      have := y vs' hq'
      rw [hx] at this; cases this
      have cl := rx.clean (dirtys_false.mp w1 e (List.mem_of_getElem? he))
      subst cl
      exact ⟨Same.refl _, rx⟩, fun F H A hs rr => by
    cases rr with
    | cons r1 _ _ =>
      obtain ⟨a', vs', B', e1, hq', rs', _⟩ := rep_asL hs r1 hd
      cases e1
      exact ⟨vs', hq', Nat.le_of_eq rs'.length⟩⟩
  refine ⟨a, rfl, ⟨vs, hq⟩, ?_⟩
  obtain ⟨I, i0, turn, done⟩ := w2 a
  refine ⟨fun n m σ' H' => m = ds.length - n ∧ n ≤ ds.length ∧ ∃ env' F', I n env' ∧ Sta K F0 H0 F' H' σ' env' ([.ref a] ++ pv) ([e] ++ pd), ⟨ds.length, by simp, Nat.zero_le _, _, _, i0, S1⟩, ?_⟩
  rintro n m σ2 H2 ⟨rfl, hle, env2, F2, i2, S2⟩
  obtain ⟨A, rs⟩ := S2.told J1.len
  by_cases hlt : n < ds.length
  · obtain ⟨go, yl⟩ := J1.go F2 H2 A n ds[n] S2.sub rs (List.getElem?_eq_getElem hlt)
    refine .inr ⟨go, fun σ' H' => ∃ env' F', I (n + 1) env' ∧ Sta K F0 H0 F' H' σ' env' ([.ref a] ++ pv) ([e] ++ pd), fun σ' H' q => ⟨ds.length - (n + 1), by omega, rfl, hlt, q⟩, fun x H' y => ?_⟩
    obtain ⟨e3, rx⟩ := yl x H' y
    have S3 := (S2.grow e3).clean rx
    refine hg F0 H0 F2 H' σ2 env2 _ _ x _ S3 _ _ (turn n _ env2 (List.getElem?_eq_getElem hlt) i2) fun env3 σ3 w3 S4 => ?_
    exact hb px F0 H0 F2 H' σ3 env3 _ _ (L.push J1.len) S4 _ _ w3 ⟨fun σ' env' F' H' q S' => ⟨env', F', q, S'⟩, fun d v F' H' σ' env' pv' pd' q S' => k.rt d v F' H' σ' env' pv' pd' q S', fun σ' env' F' H' q S' => k.nx _ _ _ _ q.2 (S'.putP q.1), fun σ' env' F' H' q S' => ⟨env', F', q, S'⟩⟩
  · have en : n = ds.length := by omega
    subst en
    have q := done env2 i2
    exact .inl ⟨J1.stop F2 H2 A S2.sub rs, k.nx _ _ _ _ q.2 (S2.putP q.1)⟩
section
variable {X : Cx} {E : EX} {tg : Expr} {pos : Pos}
theorem s_forP {iter : Expr} {body : List Stmt} {wp : WP} {g : WG} {b : WS} (hp : PassesOwn (model X.prog X.w) X.A X.env X.xe) (hc : X.calm = true) (hi : DP X E iter wp) (hg : DG X tg g) (hb : DSs X E body b) (hs : ∀ x, foldedSetIterable iter X.env x = pure x := by intro _; rfl) :
    DS X E (.For tg iter body [] pos) (wForP wp g b) := by
  obtain ⟨t1, p1, s1⟩ := hi.ex
  obtain ⟨t2, p2, s2⟩ := hg.ex
  obtain ⟨t3, p3, s3⟩ := hb.ex
  exact ⟨_, ps_for hp hc (pi_list p1) p2 p3 hs, simS_forP s1 s2 s3⟩
end
end Tm

set_option Elab.async false
set_option linter.all false
set_option maxRecDepth 100000
set_option maxHeartbeats 1000000
/-! xs[k] += e, whole numbers -/
namespace Tm
open PySem PySem.Spec PyProof.Rows L2
theorem getL {X : Cx} : PGet X (rIxL X.K) := by
  intro pn sh st hp ov iv vo vi QQ IV r1 r2 hh
  obtain ⟨ad, vs, n, y, rfl, rfl, sq, at1, qq⟩ := hh
  cases r1
  obtain ⟨tk, rfl⟩ := r2
  obtain ⟨es, rs, pl, _⟩ := IV.list sq
  obtain ⟨jj, g1, g2, _, g4, g5⟩ := L2.atI_get at1
  obtain ⟨u, eu, ru⟩ := rs.get g2
  have ln := rs.length
  have l63 := line63
  have done : EP X pn st QQ u sh := ⟨y, hp, IV, ru, qq⟩
  by_cases c : 0 ≤ n
  · have ej : n.toNat = jj := by
      rw [seqIndex_of c g5] at g1
      exact Option.some.inj g1
    exact wpAny_getItem_list pl.isList c (by omega) (by rw [ej]; simpa using eu) done
  · have ej : (n + (es.toArray.size : Int)).toNat = jj := by
      rw [seqIndex_neg (by omega) g4] at g1
      rw [List.size_toArray, ← ln]
      exact Option.some.inj g1
    exact wpAny_getItem_list_neg pl.isList (by omega) (by rw [List.size_toArray] <;> omega) (by omega) (by rw [ej]; simpa using eu) done
/-- an item that is a whole number -/
def itI (o : Option D) (Q : Int → Prop) : Prop := match o with
  | some (.int z) => Q z
  | _ => False
theorem itI_some {z : Int} {Q : Int → Prop} : itI (some (.int z)) Q = Q z := rfl
theorem itI_of {o : Option D} {z : Int} {Q : Int → Prop} (e : o = some (.int z)) (h : Q z) : itI o Q := by rw [e]; exact h
theorem itI_is {o : Option D} {Q : Int → Prop} (h : itI o Q) : ∃ z, o = some (.int z) ∧ Q z := by
  unfold itI at h
  split at h
  · exact ⟨_, rfl, h⟩
  · exact h.elim
def wAugL (i : Nat) (wk w : WE) : WS := fun P px env => atLst i env fun _ => wk px env fun k _ env1 => match k with
  | .int z => atLst i env1 fun ds => itI (atI ds z) fun a => w px env1 fun d _ env2 => match d with
    | .int b => atLst i env2 fun ds2 => match ixN ds2.length z with
      | some j => dirtys ds2 = false ∧ P.nx (env2.set i (some (.lst true (ds2.set j (.int (a + b))))))
      | none => False
    | _ => False
  | _ => False
theorem simS_augL {K : KW} {E : EX} {i : Nat} {w wk : WE} {t tk : TE} (h : Sim K E w t) (hk : Sim K E wk tk) : SimS K E (wAugL i wk w) (tAugS (tVar i) tk t (rIxL K) (ipI fun a b => a + b) rSetL) := by
  intro px F0 H0 F H σ env pv pd L S P D w1 k
  obtain ⟨ds0, e0, w1⟩ := atLst_is w1
  obtain ⟨a0, vs0, ea, ha⟩ := S.lstAt e0
  refine ⟨.ref a0, ea, ?_⟩
  refine hk px F0 H0 F H σ env pv pd L S _ _ w1 fun kk bk env1 kv F1 H1 w2 eF eH R => ?_
  obtain ⟨⟨A2, rk⟩, S1⟩ := R.forget
  cases kk with
  | int z =>
    obtain ⟨ds, e1, w3⟩ := atLst_is w2
    obtain ⟨a, ez, w4⟩ := itI_is w3
    rw [rep_int rk]
    obtain ⟨v, A1, ev, r⟩ := S1.slot e1
    rw [ea] at ev; cases ev
    obtain ⟨a1, vs, C, hv, hq, rs⟩ := rep_lst S1.sub r
    cases hv
    obtain ⟨y, B, ey, ry⟩ := reps_atI rs ez
    refine ⟨_, vs, z, y, rfl, rfl, .inl (.inl hq), ey, ?_⟩
    rw [rep_int ry]
    refine h px F0 H0 F1 H1 σ env1 pv pd L S1 _ _ w4 fun d b env2 dv F2 H2 w5 eF2 eH2 R2 => ?_
    obtain ⟨⟨A3, rd⟩, S2⟩ := R2.forget
    cases d with
    | int c =>
      obtain ⟨ds2, e2, w6⟩ := atLst_is w5
      rw [rep_int rd]
      refine ⟨a, c, rfl, rfl, ?_⟩
      split at w6
      · rename_i j ej
        obtain ⟨w7, w8⟩ := w6
        obtain ⟨a2, us, A', es', hq2, ra, back⟩ := S2.mutC e2
        rw [ea] at es'; cases es'
        have c1 := ra.clean w7
        subst c1
        exact ⟨_, us, z, j, rfl, rfl, hq2, by rw [ra.length]; exact ej, k.nx _ _ _ _ w8 (back _ _ (reps_set ra (.int (a + c))))⟩
      · exact w6.elim
    | _ => exact w5.elim
  | _ => exact w2.elim
section
variable {X : Cx} {E : EX} {i : Nat} {x : Str} {k e : Expr} {wk w : WE} {npos spos pos : Pos}
theorem s_augL (hN : X.N[i]? = some x := by rfl) (hv : Vis X.env.scope x := by first | exact Or.inl rfl | exact Or.inr (Or.inl rfl) | exact Or.inr (Or.inr rfl)) (hd : (x == ("__debug__" : Str)) = false := by decide)
    (hcd : (x == ("__classdict__" : Str)) = false := by decide) (hk : DE X E k wk) (h : DE X E e w) (hs : ∀ ov iv new, augStore k ov iv new = (do holding [new, ov, iv] (setItem ov iv new); release [new, ov, iv] []; pure .next) := by intros; rfl) :
    DS X E (.AugAssign (.Subscript (.Name x npos) k spos) .Add e pos) (wAugL i wk w) := by
  obtain ⟨t, p, s⟩ := h.ex
  obtain ⟨tk, pk, sk⟩ := hk.ex
  exact ⟨_, ps_augS (pe_var hN hv hd hcd) pk getL p ip_add set_list hs, simS_augL s sk⟩
end
end Tm

set_option Elab.async false
set_option linter.all false
set_option maxRecDepth 100000
set_option maxHeartbeats 1000000
/-! a walk over a frozen dict's items: the dict is locked meanwhile -/
namespace Tm
open PySem PySem.Spec PyProof.Rows L2
def DX (O X : HO) : Prop := (∃ kd vs, O = DKeys.ho kd vs) ∧ (X = O ∨ ∃ od, X = .frz od O)
theorem DX.tup {O X : HO} (h : DX O X) {vs : List V} : HO.tup vs ≠ X := fun z => by
  subst z
  obtain ⟨⟨kd, vs', rfl⟩, h⟩ := h
  cases kd <;> rcases h with h | ⟨o, h⟩ <;> cases h
theorem DX.lst {O X : HO} (h : DX O X) {vs : List V} : HO.lst vs ≠ X := fun z => by
  subst z
  obtain ⟨⟨kd, vs', rfl⟩, h⟩ := h
  cases kd <;> rcases h with h | ⟨o, h⟩ <;> cases h
theorem DX.flst {O X : HO} (h : DX O X) {vs : List V} {od : Obj} : HO.frz od (.lst vs) ≠ X := fun z => by
  subst z
  obtain ⟨⟨kd, vs', rfl⟩, h⟩ := h
  cases kd <;> rcases h with h | ⟨o, h⟩ <;> cases h
theorem DX.ins {O X : HO} (h : DX O X) {C dx : Addr} {fs : List (Str × V)} : HO.ins C dx fs ≠ X := fun z => by
  subst z
  obtain ⟨⟨kd, vs', rfl⟩, h⟩ := h
  cases kd <;> rcases h with h | ⟨o, h⟩ <;> cases h
theorem DX.ext {O X : HO} (h : DX O X) {φ : Heap → Prop} : HO.ext φ ≠ X := fun z => by
  subst z
  obtain ⟨⟨kd, vs', rfl⟩, h⟩ := h
  cases kd <;> rcases h with h | ⟨o, h⟩ <;> cases h
section
variable {K : KW} {F H : Hp} {a : Addr} {X Y O : HO}
theorem ne_at {G : Hp} (hG : G a = some X) {b : Addr} {o : HO} (h : G b = some o) (n : o ≠ X) : b ≠ a := fun z => by
  subst z
  rw [hG] at h
  cases h
  exact n rfl
theorem sqL_sw (hX : DX O X) (hF : F a = some X) {b : Addr} {vs : List V} (h : SqL K F b vs) : SqL K (upd F a Y) b vs := by
  rcases h with (h | ⟨o, h⟩) | h
  · exact .inl (.inl (by rw [upd_ne (ne_at hF h hX.lst)]; exact h))
  · exact .inl (.inr ⟨o, by rw [upd_ne (ne_at hF h hX.flst)]; exact h⟩)
  · exact .inr h
/-- a frozen dict at a, as X or as Y -/
theorem dct_sw (hX : DX O X) (hY : DX O Y) (hF : F a = some X) {F' H' : Hp} (e : F' = upd F a Y) {b : Addr} {vs : List V} {kd : DKeys} {ds : List D} (h : F b = some (kd.ho vs) ∨ ∃ od, F b = some (.frz od (kd.ho vs))) (hl : kd.len = vs.length) (r : Reps K F' H' vs ds []) : Rep K F' H' (.ref b) (.dct false kd ds) [] := by
  by_cases z : b = a
  · subst z
    obtain ⟨⟨kd0, vs0, eO⟩, hX⟩ := hX
    have nf : ∀ (kd : DKeys) (vs : List V) (od : Obj) (o : HO), kd.ho vs ≠ .frz od o := fun kd vs od o q => by cases kd <;> cases q
    have ek : kd.ho vs = O := by
      rcases h with h | ⟨od, h⟩
      · rw [hF] at h
        injection h with h
        rcases hX with rfl | ⟨o, rfl⟩
        · exact h.symm
        · exact absurd h.symm (nf _ _ _ _)
      · rw [hF] at h
        injection h with h
        rcases hX with rfl | ⟨o, rfl⟩
        · rw [eO] at h; exact absurd h (nf _ _ _ _)
        · injection h with _ h; exact h.symm
    have at1 : F' b = some Y := by rw [e]; exact upd_same
    obtain ⟨_, hY⟩ := hY
    rcases hY with rfl | ⟨o, rfl⟩
    · exact .dF (by rw [at1, ek]) hl r
    · exact .dL (by rw [at1, ek]) hl r
  · have at2 : F' b = F b := by rw [e]; exact upd_ne z
    rcases h with h | ⟨od, h⟩
    · exact .dF (by rw [at2]; exact h) hl r
    · exact .dL (by rw [at2]; exact h) hl r
mutual
theorem Rep.sw (hX : DX O X) (hY : DX O Y) (hF : F a = some X) (hH : H a = some X) : ∀ {v : V} {d : D} {A : List Addr}, Rep K F H v d A → a ∉ A → Rep K (upd F a Y) (upd H a Y) v d A
  | _, _, _, .non, _ => .non
  | _, _, _, .bl b, _ => .bl b
  | _, _, _, .int i, _ => .int i
  | _, _, _, .str x, _ => .str x
  | _, _, _, .ref b, _ => .ref b
  | _, _, _, .ty n, _ => .ty n
  | _, _, _, .tup h r, hA => .tup (by rw [upd_ne (ne_at hH h hX.tup)]; exact h) (Reps.sw hX hY hF hH r hA)
  | _, _, _, .fz h r, hA => .fz (by rw [upd_ne (ne_at hF h hX.lst)]; exact h) (Reps.sw hX hY hF hH r hA)
  | _, _, _, .own h r, hA => .own (by rw [upd_ne (ne_at hH h hX.lst)]; exact h) (Reps.sw hX hY hF hH r fun z => hA (List.mem_cons_of_mem _ z))
  | _, _, _, .seq h r, hA => .seq (sqL_sw hX hF h) (Reps.sw hX hY hF hH r hA)
  | _, _, _, .dF h e r, hA => dct_sw hX hY hF rfl (.inl h) e (Reps.sw hX hY hF hH r hA)
  | _, _, _, .dL h e r, hA => dct_sw hX hY hF rfl (.inr ⟨_, h⟩) e (Reps.sw hX hY hF hH r hA)
  | _, _, _, .dO h e r, hA => .dO (by rw [upd_ne fun z => hA (by rw [z]; exact List.mem_cons_self)]; exact h) e (Reps.sw hX hY hF hH r fun z => hA (List.mem_cons_of_mem _ z))
  | _, _, _, .pin h r, hA => .pin (by rw [upd_ne (ne_at hH h hX.lst)]; exact h) (Reps.sw hX hY hF hH r fun z => hA (List.mem_cons_of_mem _ z))
  | _, _, _, .oF h n e r, hA => .oF (by rw [upd_ne (ne_at hF h hX.ins)]; exact h) n e (Reps.sw hX hY hF hH r hA)
  | _, _, _, .oO h n e r, hA => .oO (by rw [upd_ne (ne_at hH h hX.ins)]; exact h) n e (Reps.sw hX hY hF hH r fun z => hA (List.mem_cons_of_mem _ z))
  | _, _, _, .oP h n e r, hA => .oP (by rw [upd_ne (ne_at hH h hX.ins)]; exact h) n e (Reps.sw hX hY hF hH r fun z => hA (List.mem_cons_of_mem _ z))
  | _, _, _, .xF h e g r1 r2, hA => .xF (by rw [upd_ne (ne_at hF h hX.ext)]; exact h) e g (Reps.sw hX hY hF hH r1 hA) (Reps.sw hX hY hF hH r2 hA)
  | _, _, _, .xO h e g r1 r2, hA => .xO (by rw [upd_ne (ne_at hH h hX.ext)]; exact h) e g (Reps.sw hX hY hF hH r1 List.not_mem_nil) (Reps.sw hX hY hF hH r2 List.not_mem_nil)
theorem Reps.sw (hX : DX O X) (hY : DX O Y) (hF : F a = some X) (hH : H a = some X) : ∀ {vs : List V} {ds : List D} {A : List Addr}, Reps K F H vs ds A → a ∉ A → Reps K (upd F a Y) (upd H a Y) vs ds A
  | _, _, _, .nil, _ => .nil
  | _, _, _, .cons h r e, hA => .cons (Rep.sw hX hY hF hH h fun z => hA (by rw [e]; exact List.mem_append_left _ z)) (Reps.sw hX hY hF hH r fun z => hA (by rw [e]; exact List.mem_append_right _ z)) e
end
theorem Slots.sw (hX : DX O X) (hY : DX O Y) (hF : F a = some X) (hH : H a = some X) : ∀ {σ : L2.St} {env : Env} {A : List Addr}, Slots K F H σ env A → a ∉ A → Slots K (upd F a Y) (upd H a Y) σ env A
  | _, _, _, .nil, _ => .nil
  | _, _, _, .skip r, hA => .skip (Slots.sw hX hY hF hH r hA)
  | _, _, _, .cons h r e, hA => .cons (h.sw hX hY hF hH fun z => hA (by rw [e]; exact List.mem_append_left _ z)) (Slots.sw hX hY hF hH r fun z => hA (by rw [e]; exact List.mem_append_right _ z)) e
theorem ex_upd {G G' : Hp} (e : Ex G G') : Ex (upd G a Y) (upd G' a Y) := fun b o h => by
  by_cases z : b = a
  · subst z
    rw [upd_same] at h ⊢
    exact h
  · rw [upd_ne z] at h ⊢
    exact e b o h
/-- locked -/
theorem Sta.lk {F0 H0 : Hp} {σ : L2.St} {env : Env} {pv : List V} {pd : List D} (S : Sta K F0 H0 F H σ env pv pd) (hX : DX O X) (hY : DX O Y) (hF : F a = some X) : Sta K (upd F0 a Y) (upd H0 a Y) (upd F a Y) (upd H a Y) σ env pv pd := by
  have hH := S.sub a X hF
  obtain ⟨A, B, h1, h2, h3, h4⟩ := S.own
  have na : ∀ b ∈ A ++ B, b ≠ a := fun b hb z => by
    have := (h4 b hb).1
    rw [z, hF] at this; cases this
  refine ⟨ex_upd S.exF, ex_upd S.exH, ex_upd S.sub, fun b hb => ?_, A, B, h1.sw hX hY hF hH fun z => na a (List.mem_append_left _ z) rfl, h2.sw hX hY hF hH fun z => na a (List.mem_append_right _ z) rfl, h3, fun b hb => ?_⟩
  · by_cases z : b = a
    · left; rw [z, upd_same]; simp
    · rw [upd_ne z] at hb ⊢
      rw [upd_ne z]
      exact S.new b hb
  · rw [upd_ne (na b hb), upd_ne (na b hb)]
    exact h4 b hb
/-- .. and free again -/
theorem Sta.ul {F0 H0 F' H' : Hp} {σ σ' : L2.St} {env env' : Env} {pv pv' : List V} {pd pd' : List D} (S : Sta K F0 H0 F H σ env pv pd) (hX : DX O X) (hY : DX O Y) (hF : F a = some X) (S' : Sta K (upd F0 a Y) (upd H0 a Y) F' H' σ' env' pv' pd') : H' a = some Y ∧ Sta K F0 H0 (upd F' a X) (upd H' a X) σ' env' pv' pd' := by
  have fY : F' a = some Y := S'.exF a Y upd_same
  have hYY : H' a = some Y := S'.exH a Y upd_same
  refine ⟨hYY, ?_⟩
  have hH := S.sub a X hF
  obtain ⟨A, B, h1, h2, h3, h4⟩ := S'.own
  have na : ∀ b ∈ A ++ B, b ≠ a := fun b hb z => by
    have := (h4 b hb).1
    rw [z, fY] at this; cases this
  refine ⟨fun b o h => ?_, fun b o h => ?_, ex_upd S'.sub, fun b hb => ?_, A, B, h1.sw hY hX fY hYY fun z => na a (List.mem_append_left _ z) rfl, h2.sw hY hX fY hYY fun z => na a (List.mem_append_right _ z) rfl, h3, fun b hb => ?_⟩
  · by_cases z : b = a
    · subst z
      rw [upd_same, ← hF]
      exact S.exF b o h
    · rw [upd_ne z]
      exact S'.exF b o (by rw [upd_ne z]; exact h)
  · by_cases z : b = a
    · subst z
      rw [upd_same, ← hH]
      exact S.exH b o h
    · rw [upd_ne z]
      exact S'.exH b o (by rw [upd_ne z]; exact h)
  · by_cases z : b = a
    · subst z
      exact S.new b (by rw [hF]; simp)
    · rw [upd_ne z] at hb
      have := S'.new b hb
      rw [upd_ne z, upd_ne z] at this
      exact this
  · have := h4 b hb
    rw [upd_ne (na b hb)] at this ⊢
    exact this
end
def kvsD (ks : List Key) (ds : List D) : List D := (ks.zip ds).map kvD
def wForI (i : Nat) (g : WG) (b : WS) : WS := fun P px env => match env[i]? with
  | some (some (.dct false (.k ks) ds)) => dirtys ds = false ∧ ForW g b P px0 (kvsD ks ds) env
  | _ => False
theorem rep_kv {K : KW} {F H : Hp} {T : Addr} {k : Key} {v : V} {d : D} (hT : H T = some (.tup [kV k, v])) (r : Rep K F H v d []) : Rep K F H (.ref T) (kvD (k, d)) [] := by
  refine .tup hT (.cons (A := []) (B := []) ?_ (.cons (A := []) (B := []) r .nil rfl) rfl)
  cases k with
  | inl z => exact .int z
  | inr x => exact .str x
/-- the loop itself, the dict locked -/
theorem walkI {K : KW} {E : EX} {i : Nat} {g : WG} {b : WS} {tg : TG} {tb : TS} (hg : SimG K g tg) (hb : SimS K E b tb) {F0 H0 F H : Hp} {σ : L2.St} {env : Env} {pv : List V} {pd : List D} {a : Addr} {od : Obj} {ks : List Key} {vs : List V} {ds : List D} {P : PEnds} {D' : Ends}
    (hl : ks.length = vs.length) (hd : vs.length = ds.length) (hc : dirtys ds = false) (hZ : F0 a = some (.frz od (.dK (ks.zip vs)))) (hσ : σ[i]? = some (some (.ref a))) (S : Sta K F0 H0 F H σ env (vs ++ pv) (ds ++ pd)) (w : ForW g b P px0 (kvsD ks ds) env) (k : LinkD K F0 H0 pv pd P D') :
    tFor (iItems (tVar i)) tg tb D' σ H := by
  have atZ : ∀ {F2 H2 : Hp} {σ2 : L2.St} {env2 : Env}, Sta K F0 H0 F2 H2 σ2 env2 (vs ++ pv) (ds ++ pd) → H2 a = some (.frz od (.dK (ks.zip vs))) := fun S2 => S2.sub a _ (S2.exF a _ hZ)
  refine ⟨.ref a, hσ, a, od, ks.zip vs, rfl, atZ S, ?_⟩
  obtain ⟨I, i0, turn, done⟩ := w
  have nl : (kvsD ks ds).length = ds.length := by unfold kvsD; rw [List.length_map, List.length_zip]; omega
  have zl : (ks.zip vs).length = ds.length := by rw [List.length_zip]; omega
  refine ⟨fun n m σ' H' => m = ds.length - n ∧ n ≤ ds.length ∧ ∃ env' F', I n env' ∧ Sta K F0 H0 F' H' σ' env' (vs ++ pv) (ds ++ pd), ⟨ds.length, by simp, Nat.zero_le _, _, _, i0, S⟩, ?_⟩
  rintro n m σ2 H2 ⟨rfl, hle, env2, F2, i2, S2⟩
  obtain ⟨A, rs⟩ := S2.told hd
  by_cases hlt : n < ds.length
  · refine .inr ⟨⟨atZ S2, by rw [zl]; exact hlt⟩, fun σ' H' => ∃ env' F', I (n + 1) env' ∧ Sta K F0 H0 F' H' σ' env' (vs ++ pv) (ds ++ pd), fun σ' H' q => ⟨ds.length - (n + 1), by omega, rfl, hlt, q⟩, fun x H' y => ?_⟩
    obtain ⟨T, key, v, hkv, rfl, hT, rfl⟩ := y
    obtain ⟨hk1, hk2⟩ := List.getElem?_zip_eq_some.mp hkv
    obtain ⟨d, hdn⟩ : ∃ d, ds[n]? = some d := ⟨_, List.getElem?_eq_getElem hlt⟩
    obtain ⟨v', C, hv', rx, _⟩ := rs.get hdn
    simp only at hk2
    rw [hk2] at hv'; cases hv'
    have cl := rx.clean (dirtys_false.mp hc d (List.mem_of_getElem? hdn))
    subst cl
    have en := Ex.new (o := .tup [kV key, v]) hT
    have S3 := (S2.grow en).clean (rep_kv upd_same (rx.ex (Same.refl _) en))
    have item : (kvsD ks ds)[n]? = some (kvD (key, d)) := by
      unfold kvsD
      have hz : (ks.zip ds)[n]? = some (key, d) := List.getElem?_zip_eq_some.mpr ⟨hk1, hdn⟩
      rw [List.getElem?_map, hz]; rfl
    refine hg F0 H0 F2 _ σ2 env2 _ _ _ _ S3 _ _ (turn n _ env2 item i2) fun env3 σ3 w3 S4 => ?_
    exact hb px0 F0 H0 F2 _ σ3 env3 _ _ link0 S4 _ _ w3 ⟨fun σ' env' F' H' q S' => ⟨env', F', q, S'⟩, fun d v F' H' σ' env' pv' pd' q S' => k.rt d v F' H' σ' env' pv' pd' q S', fun σ' env' F' H' q S' => k.nx _ _ _ _ q (Sta.drops hd S'), fun σ' env' F' H' q S' => ⟨env', F', q, S'⟩⟩
  · have en : n = ds.length := by omega
    subst en
    have q := done env2 (by rw [nl]; exact i2)
    exact .inl ⟨⟨atZ S2, by rw [zl]; exact Nat.le_refl _⟩, k.nx _ _ _ _ q (Sta.drops hd S2)⟩
theorem Sta.tell {K : KW} {F0 H0 F H : Hp} {σ : L2.St} {env : Env} {pv : List V} {pd : List D} : ∀ {vs : List V} {ds : List D}, Reps K F H vs ds [] → Sta K F0 H0 F H σ env pv pd → Sta K F0 H0 F H σ env (vs ++ pv) (ds ++ pd)
  | _, _, .nil, S => S
  | _, _, .cons (A := A) (B := B) h r e, S => by
    have e2 : A = [] ∧ B = [] := by
      cases A with
      | nil => exact ⟨rfl, by simpa using e.symm⟩
      | cons x y => cases e
    obtain ⟨rfl, rfl⟩ := e2
    exact (Sta.tell r S).clean h
theorem mut_d (kvs : List (Key × V)) : Mut (some (.dK kvs)) := by
  first
    | trivial
    | rfl
    | (unfold Mut; trivial)
    | (unfold Mut; simp)
    | constructor
theorem simS_forI {K : KW} {E : EX} {i : Nat} {g : WG} {b : WS} {tg : TG} {tb : TS} (hg : SimG K g tg) (hb : SimS K E b tb) : SimS K E (wForI i g b) (fun D σ H => tFor (iItems (tVar i)) tg tb D σ H ∨ tLock (tFor (iItems (tVar i)) tg tb) D σ H) := by
  intro px F0 H0 F H σ env pv pd L S P D w k
  unfold wForI at w
  split at w
  · rename_i ks ds e
    obtain ⟨hc, w⟩ := w
    obtain ⟨v, A, e1, r⟩ := S.slot e
    cases r with
    | dF h1 h2 h3 =>
      rename_i a vs
      have hX : DX (.dK (ks.zip vs)) (.dK (ks.zip vs)) := ⟨⟨.k ks, vs, rfl⟩, .inl rfl⟩
      refine .inr ⟨a, .dK (ks.zip vs), S.sub _ _ h1, mut_d _, fun od => ?_⟩
      have hY : DX (.dK (ks.zip vs)) (.frz od (.dK (ks.zip vs))) := ⟨⟨.k ks, vs, rfl⟩, .inr ⟨od, rfl⟩⟩
      have SL := (Sta.tell h3 S).lk hX hY h1
      refine walkI hg hb h2 h3.length hc upd_same e1 SL w ⟨fun σ' env' F' H' q S' => ?_, fun d v F' H' σ' env' pv' pd' q S' => ?_, fun σ' env' F' H' q S' => ?_, fun σ' env' F' H' q S' => ?_⟩
      · obtain ⟨z1, z2⟩ := S.ul hX hY h1 S'
        exact ⟨z1, k.nx _ _ _ _ q z2⟩
      · obtain ⟨z1, z2⟩ := S.ul hX hY h1 S'
        exact ⟨z1, k.rt _ _ _ _ _ _ _ _ q z2⟩
      · obtain ⟨z1, z2⟩ := S.ul hX hY h1 S'
        exact ⟨z1, k.bk _ _ _ _ q z2⟩
      · obtain ⟨z1, z2⟩ := S.ul hX hY h1 S'
        exact ⟨z1, k.ct _ _ _ _ q z2⟩
    | dL h1 h2 h3 =>
      rename_i a od vs
      have hX : DX (.dK (ks.zip vs)) (.frz od (.dK (ks.zip vs))) := ⟨⟨.k ks, vs, rfl⟩, .inr ⟨od, rfl⟩⟩
      have idF : ∀ {G : Hp}, G a = some (.frz od (.dK (ks.zip vs))) → upd G a (.frz od (.dK (ks.zip vs))) = G := fun {G} hG => by
        funext x
        by_cases z : x = a
        · subst z; rw [upd_same, hG]
        · rw [upd_ne z]
      have SL := (Sta.tell h3 S).lk hX hX h1
      rw [idF h1, idF (S.sub _ _ h1)] at SL
      refine .inl (walkI hg hb h2 h3.length hc upd_same e1 SL w ⟨fun σ' env' F' H' q S' => ?_, fun d v F' H' σ' env' pv' pd' q S' => ?_, fun σ' env' F' H' q S' => ?_, fun σ' env' F' H' q S' => ?_⟩)
      · obtain ⟨z1, z2⟩ := S.ul hX hX h1 S'
        rw [idF z1, idF (S'.exF a _ upd_same)] at z2
        exact k.nx _ _ _ _ q z2
      · obtain ⟨z1, z2⟩ := S.ul hX hX h1 S'
        rw [idF z1, idF (S'.exF a _ upd_same)] at z2
        exact k.rt _ _ _ _ _ _ _ _ q z2
      · obtain ⟨z1, z2⟩ := S.ul hX hX h1 S'
        rw [idF z1, idF (S'.exF a _ upd_same)] at z2
        exact k.bk _ _ _ _ q z2
      · obtain ⟨z1, z2⟩ := S.ul hX hX h1 S'
        rw [idF z1, idF (S'.exF a _ upd_same)] at z2
        exact k.ct _ _ _ _ q z2
  · exact w.elim
section
variable {X : Cx} {E : EX} {i : Nat} {x : Str}
theorem ps_or {st : Stmt} {t t' : TS} (h : PS X st t) (h' : PS X st t') : PS X st (fun D σ H => t D σ H ∨ t' D σ H) :=
  ⟨fun pins s σ H D I q => q.elim (h.run pins s σ H D I) (h'.run pins s σ H D I)⟩
theorem s_forI {elts : List Expr} {kk : Nat} {tpos npos apos cpos pos : Pos} {body : List Stmt} {g : WG} {b : WS} (hp : PassesOwn (model X.prog X.w) X.A X.env X.xe) (hc : X.calm = true) (hg : DG X (.Tuple elts kk tpos) g) (hb : DSs X E body b)
    (hN : X.N[i]? = some x := by rfl) (hv : Vis X.env.scope x := by first | exact Or.inl rfl | exact Or.inr (Or.inl rfl) | exact Or.inr (Or.inr rfl)) (hd : (x == ("__debug__" : Str)) = false := by decide) (hcd : (x == ("__classdict__" : Str)) = false := by decide)
    (hbase : attributeBase (.Name x npos) "items" X.env (eval (.Name x npos) X.env) = eval (.Name x npos) X.env := by rfl) (hline : (apos.endLine == cpos.line) = true := by rfl) (hs : ∀ y, foldedSetIterable (.Call (.Attribute (.Name x npos) "items" apos) [] [] cpos) X.env y = pure y := by intro _; rfl) :
    DS X E (.For (.Tuple elts kk tpos) (.Call (.Attribute (.Name x npos) "items" apos) [] [] cpos) body [] pos) (wForI i g b) := by
  obtain ⟨t2, p2, s2⟩ := hg.ex
  obtain ⟨t3, p3, s3⟩ := hb.ex
  have p : PS X (.For (.Tuple elts kk tpos) (.Call (.Attribute (.Name x npos) "items" apos) [] [] cpos) body [] pos) (tFor (iItems (tVar i)) t2 t3) := ps_for hp hc (pi_items (pe_var hN hv hd hcd) hbase hline) p2 p3 hs
  exact ⟨_, ps_or p (ps_lock p), simS_forI s2 s3⟩
end
end Tm

set_option Elab.async false
set_option linter.all false
set_option maxRecDepth 100000
set_option maxHeartbeats 1000000
/-! d.setdefault(k, []): what stands under a key -/
namespace Tm
open PySem PySem.Spec PyProof.Rows L2
theorem val_found : ∀ {ks : List Key} {vs : List V} {k : Key} {v : V}, valV (ks.zip vs) k = some v → ∃ j : Nat, ks[j]? = some k ∧ vs[j]? = some v ∧ ∀ m : Nat, m < j → ks[m]? ≠ some k
  | [], _, k, v, h => by simp [valV] at h
  | _ :: _, [], k, v, h => by simp [valV] at h
  | q :: ks, u :: vs, k, v, h => by
    rw [List.zip_cons_cons] at h
    by_cases c : q = k
    · rw [valV_pos c] at h
      cases h
      exact ⟨0, by rw [c]; rfl, rfl, fun m hm => by omega⟩
    · rw [valV_neg c] at h
      obtain ⟨j, h1, h2, h3⟩ := val_found h
      refine ⟨j + 1, by simpa using h1, by simpa using h2, fun m hm => ?_⟩
      cases m with
      | zero => simpa using c
      | succ m => have := h3 m (by omega); simpa using this
theorem val_none : ∀ {ks : List Key} {vs : List V} {k : Key}, ks.length = vs.length → valV (ks.zip vs) k = none → k ∉ ks ∧ ∀ z, putK (ks.zip vs) k z = (ks ++ [k]).zip (vs ++ [z])
  | [], [], k, _, _ => ⟨by simp, fun z => rfl⟩
  | q :: ks, u :: vs, k, hl, h => by
    rw [List.zip_cons_cons] at h
    by_cases c : q = k
    · rw [valV_pos c] at h; cases h
    · rw [valV_neg c] at h
      obtain ⟨h1, h2⟩ := val_none (by simpa using hl) h
      refine ⟨fun z => (List.mem_cons.mp z).elim (fun e => c e.symm) h1, fun z => ?_⟩
      have := h2 z
      unfold putK at this ⊢
      have na : ((ks.zip vs).any fun kv => decide (kv.1 = k)) = false := by
        rw [Bool.eq_false_iff]
        intro t
        obtain ⟨p, hp, e⟩ := List.any_eq_true.mp t
        exact h1 (by rw [← of_decide_eq_true e]; exact (List.of_mem_zip hp).1)
      rw [List.zip_cons_cons, List.any_cons, na, decide_eq_false c]
      simp only [Bool.or_self, Bool.false_eq_true, if_false, List.cons_append, List.zip_cons_cons]
      rw [na] at this
      simp only [Bool.false_eq_true, if_false] at this
      rw [this]
def atDk (i : Nat) (env : Env) (Q : List Key → List D → Prop) : Prop := match env[i]? with
  | some (some (.dct true (.k ks) ds)) => Q ks ds
  | _ => False
theorem atDk_is {i : Nat} {env : Env} {Q : List Key → List D → Prop} (h : atDk i env Q) : ∃ ks ds, env[i]? = some (some (.dct true (.k ks) ds)) ∧ Q ks ds := by
  unfold atDk at h
  split at h
  · exact ⟨_, _, by assumption, h⟩
  · exact h.elim
/-- the key is a whole number -/
def wpSetd (i : Nat) (wk : WE) : WP := fun px env Q => atDk i env fun _ _ => wk px env fun k _ env1 => match k with
  | .int z => atDk i env1 fun ks ds => ds.length ≤ 100000 ∧ (∀ j : Nat, ks[j]? = some (.inl z) → (∀ m : Nat, m < j → ks[m]? ≠ some (.inl z)) → Q i [j] env1) ∧
    (((.inl z : Key) ∉ ks) → Q i [ds.length] (env1.set i (some (.dct true (.k (ks ++ [.inl z])) (ds ++ [.lst true []])))))
  | _ => False
/-- a place told by an expression that may change the heap -/
def SimPM (K : KW) (E : EX) (w : WP) (t : TE) : Prop := ∀ (px : PX) (F0 H0 F H : Hp) (σ : L2.St) (env : Env) (pv : List V) (pd : List D), LinkX K F0 H0 px E pv pd → Sta K F0 H0 F H σ env pv pd →
  ∀ (Q' : Nat → List Nat → Env → Prop) (Q : VK), w px env Q' → (∀ i p env' v F' H', Q' i p env' → Sta K F0 H0 F' H' σ env' pv pd → valE σ H' i p = some v → Q v H') → t σ H Q
theorem simP_setd {K : KW} {E : EX} {i : Nat} {wk : WE} {tk : TE} (hk : Sim K E wk tk) : SimPM K E (wpSetd i wk) (tDSetd (tVar i) tk (tLst tNil)) := by
  intro px F0 H0 F H σ env pv pd L S Q' Q w k
  obtain ⟨ks0, ds0, e0, w⟩ := atDk_is w
  obtain ⟨v0, A0, ev0, r0⟩ := S.slot e0
  cases r0 with
  | dO hq0 hl0 rs0 =>
    rename_i a vs0 A00
    refine ⟨.ref a, ev0, a, rfl, .inl ⟨_, .inl hq0⟩, ?_⟩
    refine hk px F0 H0 F H σ env pv pd L S _ _ w fun kk bk env1 y F1 H1 w1 eF1 eH1 R1 => ?_
    obtain ⟨⟨B1, ry⟩, S1⟩ := R1.forget
    cases kk with
    | int z =>
      obtain ⟨ks, ds, e1, hlen, wf, wn⟩ := atDk_is w1
      rw [rep_int ry]
      refine ⟨by rw [show ([] : List V).length = 0 from rfl]; exact Nat.zero_le _, fun p hp => ?_⟩
      obtain ⟨v1, A1, ev1, r1⟩ := S1.slot e1
      rw [ev0] at ev1; cases ev1
      cases r1 with
      | dO hq hl rs =>
        rename_i vs A2
        have hl : ks.length = vs.length := hl
        have en := Ex.new (o := .lst []) hp
        have hq3 := en _ _ hq
        refine ⟨ks.zip vs, .inl z, hq3, rfl, ?_, fun v hv => ?_, fun hn => ?_⟩
        · have h2 := rs.length
          rw [List.length_zip]
          exact lt_line (by omega)
        · obtain ⟨j, h1, h2, h3⟩ := val_found hv
          refine k i [j] env1 v F1 _ (wf j h1 h3) (S1.grow en) ?_
          unfold valE
          rw [ev0]
          simp only
          rw [valP_dct (kd := .k ks) hq3 hl h2]
          rfl
        · obtain ⟨h1, h2⟩ := val_none hl hn
          obtain ⟨AA, rA, nA, put⟩ := Sta.gather (vs := []) (ds := []) rfl S1
          cases rA
          have S3 := put (.lst []) p (.lst true []) [p] hp en (.own upd_same .nil) (.inr rfl)
          have sub : subE env1 i [] = some (.dct true (.k ks) ds) := by
            unfold subE
            rw [e1]
            exact subP_nil
          obtain ⟨a', o, A', B, hv, hq', _, re, ryy, nd, mk⟩ := Sta.mutP (ys := [.ref p]) (es := [.lst true []]) rfl (show Sta K F0 H0 F1 _ σ env1 ([.ref p] ++ pv) ([.lst true []] ++ pd) from S3) sub (.inr (.inl ⟨_, _, rfl⟩))
          unfold valE at hv
          rw [ev0] at hv
          cases hv
          have nd1 := List.nodup_cons.mp nd
          cases re with
          | dO hq4 hl4 rs4 =>
            rename_i us
            have eu : us = vs := ho_inj hl4 (show (DKeys.k ks).len = vs.length from hl) (Option.some.inj (hq4.symm.trans hq3))
            subst eu
            have dl : us.length = ds.length := rs4.length
            have S5 := mk (.dK ((ks ++ [Sum.inl z]).zip (us ++ [V.ref p]))) (.dct true (.k (ks ++ [.inl z])) (ds ++ [.lst true []])) (A' ++ B) (fun H' hT hN ha' => by
              have r1 := rs4.mono (Same.refl F1) hT fun b hb => hN b fun z => nd1.1 (by rw [← z]; exact List.mem_append_left _ hb)
              have r2 := ryy.mono (Same.refl F1) hT fun b hb => hN b fun z => nd1.1 (by rw [← z]; exact List.mem_append_right _ hb)
              exact .dO (kd := .k (ks ++ [.inl z])) ha' (by show (ks ++ [Sum.inl z]).length = _; rw [List.length_append, List.length_append, hl]; rfl) (r1.app r2)) nd1.2 fun b hb => hb
            have es : setE env1 i [] (.dct true (.k (ks ++ [.inl z])) (ds ++ [.lst true []])) = env1.set i (some (.dct true (.k (ks ++ [.inl z])) (ds ++ [.lst true []]))) := by
              unfold setE
              rw [e1]
              simp only [setP_nil]
            rw [es] at S5
            rw [h2]
            refine k i [ds.length] _ (.ref p) F1 _ (wn h1) S5 ?_
            unfold valE
            rw [ev0]
            simp only
            have at1 : (upd (upd H1 p (.lst [])) a (.dK ((ks ++ [Sum.inl z]).zip (us ++ [V.ref p])))) a = some ((DKeys.k (ks ++ [Sum.inl z])).ho (us ++ [V.ref p])) := upd_same
            have ll : (DKeys.k (ks ++ [Sum.inl z])).len = (us ++ [V.ref p]).length := by
              show (ks ++ [Sum.inl z]).length = _
              rw [List.length_append, List.length_append, hl]; rfl
            have jj : (us ++ [V.ref p])[ds.length]? = some (V.ref p) := by rw [← dl]; simp
            exact (valP_dct (p := []) at1 ll jj).trans rfl
    | _ => exact w1.elim
theorem simS_appPM {K : KW} {E : EX} {wp : WP} {w : WE} {tp t : TE} (hp : SimPM K E wp tp) (h : Sim K E w t) : SimS K E (wAppP wp w) (tDrop (tBM K "list" rAppend tp (tCons t tNil))) := by
  intro px F0 H0 F H σ env pv pd L S P D w0 k
  refine hp px F0 H0 F H σ env pv pd L S _ _ w0 fun i p env0 x F0' H0' w1 S0 hx => ?_
  obtain ⟨f0, ds0, mk0, e0, o0, w1⟩ := ownL_is w1
  obtain ⟨a0, vs0, rfl, ha⟩ := tyV_own S0 e0 o0 hx
  refine ⟨.inl ⟨rfl, vs0, .inl (.inl ha)⟩, ?_⟩
  refine h px F0 H0 F0' H0' σ env0 pv pd L S0 _ _ w1 fun d b env1 v F1 H1 w2 eF eH R => ?_
  obtain ⟨hb, w2⟩ := w2
  obtain ⟨f1, ds, mk1, e1, o1, hl, w3⟩ := ownL_is w2
  have S1 : Sta K F0 H0 F1 H1 σ env1 ([v] ++ pv) ([d] ++ pd) := R.owned hb
  obtain ⟨a, o, A', B, hv, hq, _, re, ry, nd, mk⟩ := S1.mutP (ys := [v]) (es := [d]) rfl e1 o1.mut
  rw [valE_mono eH hx] at hv
  cases hv
  obtain ⟨vs, hq2, rs, back9⟩ := o1.rep re
  rw [hq] at hq2; cases hq2
  focus
    have nd1 := List.nodup_cons.mp nd
    refine ⟨a0, vs, v, rfl, rfl, hq, by rw [rs.length]; exact lt_line hl, k.nx _ _ _ _ w3 (mk (.lst (vs ++ [v])) (mk1 (ds ++ [d])) (A' ++ B) (fun H' hT hN ha' => ?_) nd1.2 fun b hb => hb)⟩
    have r1 := rs.mono (Same.refl F1) hT fun b hb => hN b fun z => nd1.1 (by rw [← z]; exact List.mem_append_left _ hb)
    have r2 := ry.mono (Same.refl F1) hT fun b hb => hN b fun z => nd1.1 (by rw [← z]; exact List.mem_append_right _ hb)
    exact back9 ha' (r1.app r2)
section
variable {X : Cx} {E : EX} {i : Nat} {x : Str} {kx e : Expr} {wk w : WE} {npos lpos ap1 cp1 apos cpos pos : Pos}
theorem s_setdApp (hk : DE X E kx wk) (h : DE X E e w)
    (hN : X.N[i]? = some x := by rfl) (hv : Vis X.env.scope x := by first | exact Or.inl rfl | exact Or.inr (Or.inl rfl) | exact Or.inr (Or.inr rfl)) (hd : (x == ("__debug__" : Str)) = false := by decide) (hcd : (x == ("__classdict__" : Str)) = false := by decide)
    (m : M2 X (.Name x npos) "setdefault" ap1 kx (.List [] lpos) cp1 := by exact ⟨rfl, rfl, rfl, rfl⟩)
    (hbase : attributeBase (.Call (.Attribute (.Name x npos) "setdefault" ap1) [kx, .List [] lpos] [] cp1) "append" X.env (eval (.Call (.Attribute (.Name x npos) "setdefault" ap1) [kx, .List [] lpos] [] cp1) X.env) = eval (.Call (.Attribute (.Name x npos) "setdefault" ap1) [kx, .List [] lpos] [] cp1) X.env := by rfl)
    (hfew : ((backTo cpos (starEach [e] X.env)).all (fun x => !x.1) && (backToKw cpos (keywordEach [] X.env)).all (fun x => x.1.isSome) && decide ([e].length + ([] : List Keyword).length + (if ([] : List Keyword).isEmpty then 0 else 1) < 30)) = true := by rfl)
    (hline : (apos.endLine == cpos.line) = true := by rfl) (hs : starEach [e] X.env = (false, eval e X.env) :: starEach [] X.env := by rfl) (hplain : (backTo cpos (starEach [] X.env)).any (·.1) = false := by rfl)
    (hsw : swapsWith (.Call (.Attribute (.Call (.Attribute (.Name x npos) "setdefault" ap1) [kx, .List [] lpos] [] cp1) "append" apos) [e] [] cpos) none pos.line X.env = pure false := by rfl) :
    DS X E (.Expr (.Call (.Attribute (.Call (.Attribute (.Name x npos) "setdefault" ap1) [kx, .List [] lpos] [] cp1) "append" apos) [e] [] cpos) pos) (wAppP (wpSetd i wk) w) := by
  obtain ⟨tk, pk, sk⟩ := hk.ex
  obtain ⟨t, p, s⟩ := h.ex
  exact ⟨_, ps_expr (pe_bm PySem.F.plainAttrs_list PySem.F.slot_list_append PySem.F.type_list_append mt_append (pe_dsetd (pe_var hN hv hd hcd) pk (pe_lst pa_nil) m) (pa_cons p pa_nil hs) hbase hfew hline hs hplain) hsw, simS_appPM (simP_setd sk) s⟩
end
end Tm

set_option Elab.async false
set_option linter.all false
set_option maxRecDepth 100000
set_option maxHeartbeats 1000000
/-! d.get(k, []) of a dict that a name owns: the item borrowed, or a new list -/
namespace Tm
open PySem PySem.Spec PyProof.Rows L2
def wDGetB (i : Nat) (wk : WE) : WE := fun px env Q => atDk i env fun _ _ => wk px env fun k _ env1 => match k with
  | .int z => atDk i env1 fun ks ds => (∀ (j : Nat) d, ks[j]? = some (.inl z) → (∀ m : Nat, m < j → ks[m]? ≠ some (.inl z)) → ds[j]? = some d → Q d (dirty d) env1) ∧ ((.inl z : Key) ∉ ks → Q (.lst true []) false env1)
  | _ => False
theorem sim_getB {K : KW} {E : EX} {i : Nat} {wk : WE} {tk : TE} (hk : Sim K E wk tk) : Sim K E (wDGetB i wk) (tDGet2 (tVar i) tk (tLst tNil)) := by
  intro px F0 H0 F H σ env pv pd L S Q' Q w k
  obtain ⟨ks0, ds0, e0, w⟩ := atDk_is w
  obtain ⟨v0, A0, ev0, r0⟩ := S.slot e0
  cases r0 with
  | dO hq0 hl0 rs0 =>
    rename_i a vs0 A00
    refine ⟨.ref a, ev0, a, rfl, .inl ⟨_, .inl hq0⟩, ?_⟩
    refine hk px F0 H0 F H σ env pv pd L S _ _ w fun kk bk env1 y F1 H1 w1 eF1 eH1 R1 => ?_
    obtain ⟨⟨B1, ry⟩, S1⟩ := R1.forget
    cases kk with
    | int z =>
      obtain ⟨ks, ds, e1, wf, wn⟩ := atDk_is w1
      rw [rep_int ry]
      refine ⟨by rw [show ([] : List V).length = 0 from rfl]; exact Nat.zero_le _, fun p hp => ?_⟩
      obtain ⟨v1, A1, ev1, r1⟩ := S1.slot e1
      rw [ev0] at ev1; cases ev1
      cases r1 with
      | dO hq hl rs =>
        rename_i vs A2
        have hl : ks.length = vs.length := hl
        have en := Ex.new (o := .lst []) hp
        have hq3 := en _ _ hq
        refine ⟨valV (ks.zip vs) (.inl z), DGetK (k := .inl z) (.inl hq3), ?_⟩
        cases hv : valV (ks.zip vs) (.inl z) with
        | some v =>
          obtain ⟨j, h1, h2, h3⟩ := val_found hv
          obtain ⟨d, hd⟩ : ∃ d, ds[j]? = some d := ⟨_, List.getElem?_eq_getElem (by rw [← rs.length]; exact (List.getElem?_eq_some_iff.mp h2).1)⟩
          obtain ⟨v', C, hv', rx, _⟩ := rs.get hd
          rw [h2] at hv'; cases hv'
          exact k d (dirty d) env1 v F1 _ (wf j d h1 h3 hd) eF1 (eH1.trans en) (Res.borrow (S1.grow en) (rx.ex (Same.refl _) en))
        | none =>
          obtain ⟨h1, h2⟩ := val_none hl hv
          obtain ⟨AA, rA, nA, put⟩ := Sta.gather (vs := []) (ds := []) rfl S1
          cases rA
          exact k (.lst true []) false env1 (.ref p) F1 _ (wn h1) eF1 (eH1.trans en) (put (.lst []) p (.lst true []) [p] hp en (.own upd_same .nil) (.inr rfl))
    | _ => exact w1.elim
section
variable {X : Cx} {E : EX} {i : Nat} {x : Str} {kx : Expr} {wk : WE} {npos lpos apos cpos : Pos}
theorem d_getB (hu : X.A.units + 64 < cLine) (hk : DE X E kx wk)
    (hN : X.N[i]? = some x := by rfl) (hv : Vis X.env.scope x := by first | exact Or.inl rfl | exact Or.inr (Or.inl rfl) | exact Or.inr (Or.inr rfl)) (hd : (x == ("__debug__" : Str)) = false := by decide) (hcd : (x == ("__classdict__" : Str)) = false := by decide)
    (m : M2 X (.Name x npos) "get" apos kx (.List [] lpos) cpos := by exact ⟨rfl, rfl, rfl, rfl⟩) : DE X E (.Call (.Attribute (.Name x npos) "get" apos) [kx, .List [] lpos] [] cpos) (wDGetB i wk) := by
  obtain ⟨tk, pk, sk⟩ := hk.ex
  exact ⟨_, pe_dget2 (by omega) (pe_var hN hv hd hcd) pk (pe_lst pa_nil) m, sim_getB sk⟩
end
end Tm

set_option Elab.async false
set_option linter.all false
set_option maxRecDepth 100000
set_option maxHeartbeats 1000000
/-! dicts whose keys are nested tuples of whole numbers and None, or whole numbers and None -/
namespace Tm
open PySem PySem.Spec PyProof.Rows L2

mutual
inductive NKV (H : Hp) : NestedKey → V → Prop
  | none : NKV H .none .non
  | num (i : Int) : NKV H (.num i) (.int i)
  | text (x : Str) : NKV H (.text x) (.str x)
  | tup {a : Addr} {vs : List V} {ks : List NestedKey} : H a = some (.tup vs) → NKVs H ks vs → NKV H (.tup ks) (.ref a)
inductive NKVs (H : Hp) : List NestedKey → List V → Prop
  | nil : NKVs H [] []
  | cons {k : NestedKey} {v : V} {ks : List NestedKey} {vs : List V} : NKV H k v → NKVs H ks vs → NKVs H (k :: ks) (v :: vs)
end
mutual
theorem Rep.nk {K : KW} {F H : Hp} : ∀ {k : NestedKey} {v : V} {A : List Addr}, Rep K F H v (kD k) A → NKV H k v
  | .none, _, _, r => by rw [kD] at r; cases r; exact .none
  | .num i, _, _, r => by rw [kD] at r; cases r; exact .num i
  | .text x, _, _, r => by rw [kD] at r; cases r; exact .text x
  | .tup ks, _, _, r => by
    rw [kD] at r
    cases r with
    | tup h1 r1 => exact .tup h1 (Reps.nk r1)
theorem Reps.nk {K : KW} {F H : Hp} : ∀ {ks : List NestedKey} {vs : List V} {A : List Addr}, Reps K F H vs (kDs ks) A → NKVs H ks vs
  | [], _, _, r => by rw [kDs] at r; cases r; exact .nil
  | k :: ks, _, _, r => by
    rw [kDs] at r
    cases r with
    | cons h1 r1 e => exact .cons (Rep.nk h1) (Reps.nk r1)
end
section
variable {P : Program} {w : World} {H : Hp} {h : Heap}
mutual
theorem nk_is (ok : HOk P w H h) : ∀ {k : NestedKey} {v : V} {u : Value}, NKV H k v → RelV v u → NestedIs h k u
  | _, _, u, .none, r => by
    obtain rfl : u = .none := r
    exact .none
  | _, _, u, .num i, r => by
    obtain ⟨tk, rfl⟩ := (show ∃ t, u = Value.int i t from r)
    exact .int i tk
  | _, _, u, .text x, r => by
    obtain ⟨tk, rfl⟩ := (show ∃ t, u = Value.str x t from r)
    exact .text x tk
  | _, _, u, .tup (a := a) (vs := vs) h1 r1, r => by
    obtain rfl : u = Value.ref a := r
    obtain ⟨_, its, rv, o, h2, h3, n, h4⟩ := (show ObjOk P w H h a (.tup vs) from ok a _ h1)
    exact .tup h2 h3 h4 (by simpa using nks_is ok r1 rv)
theorem nks_is (ok : HOk P w H h) : ∀ {ks : List NestedKey} {vs : List V} {us : List Value}, NKVs H ks vs → Vals vs us → NestedAll h ks us
  | _, _, _, .nil, .nil => .nil
  | _, _, _, .cons h1 r1, .cons a b => .cons (nk_is ok h1 a) (nks_is ok r1 b)
end
end
/-- keys that are whole numbers or None -/
def vkIs : NestedKey → Value → Bool
  | .none, .none => true
  | .num i, .int j _ => decide (i = j)
  | _, _ => false
theorem vkIs_shape {k : NestedKey} {v : Value} (h : vkIs k v = true) : (k = .none ∧ v = .none) ∨ ∃ i t, k = .num i ∧ v = .int i t := by
  unfold vkIs at h
  split at h
  · exact .inl ⟨rfl, rfl⟩
  · rename_i i j t
    obtain rfl := of_decide_eq_true h
    exact .inr ⟨_, _, rfl, rfl⟩
  · cases h
def vkKind (prog : Program) (w : World) : PySem.KeyKind prog w NestedKey where
  is := vkIs
  hash := fun k => k.hash w
  inj := fun v a b ha hb => by
    rcases vkIs_shape ha with ⟨rfl, rfl⟩ | ⟨i, t, rfl, rfl⟩
    · rcases vkIs_shape hb with ⟨rfl, _⟩ | ⟨j, u, rfl, e⟩
      · rfl
      · cases e
    · rcases vkIs_shape hb with ⟨rfl, e⟩ | ⟨j, u, rfl, e⟩
      · cases e
      · cases e; rfl
  byValue := fun k v h => by
    rcases vkIs_shape h with ⟨rfl, rfl⟩ | ⟨i, t, rfl, rfl⟩ <;> rfl
  pyHash := fun hv h => by
    rcases vkIs_shape hv with ⟨rfl, rfl⟩ | ⟨i, t, rfl, rfl⟩
    · exact pyHash_leaf (k := .none) rfl h
    · exact wpAny_pyHash_int h
  eqBool := fun hu hv h => by
    rcases vkIs_shape hu with ⟨rfl, rfl⟩ | ⟨i, t, rfl, rfl⟩
    · rcases vkIs_shape hv with ⟨rfl, rfl⟩ | ⟨j, u, rfl, rfl⟩
      · exact SeqAt.EqAt.same _ _ _ _ _ (by simpa using h)
      · exact SeqAt.EqAt.none_int _ _ _ _ _ _ (by simpa using h)
    · rcases vkIs_shape hv with ⟨rfl, rfl⟩ | ⟨j, u, rfl, rfl⟩
      · exact SeqAt.EqAt.int_none _ _ _ _ _ _ (by simpa using h)
      · refine wpAny_eqBool_int ?_
        have e : decide (NestedKey.num i = NestedKey.num j) = (i == j) := by
          by_cases c : i = j
          · rw [c, decide_eq_true rfl]; simp
          · rw [decide_eq_false fun z => c (by injection z)]; simp [c]
        rw [← e]; exact h
  «strs» := fun k x t v h => by
    rcases vkIs_shape h with ⟨rfl, e⟩ | ⟨i, u, rfl, e⟩ <;> cases e
/-! the table -/
abbrev XR : XT → List (NestedKey × Addr × Value) → Prop := Paired fun t x => t.1 = x.1 ∧ t.2.1 = .ref x.2.1 ∧ RelV t.2.2 x.2.2
abbrev XV : XT → List (NestedKey × Value) → Prop := Paired fun t x => t.1 = x.1 ∧ RelV t.2.2 x.2
def KeyG (H : Hp) (t : Bool) (ts : XT) : Prop := ∀ x ∈ ts, okK t x.1 = true ∧ NKV H x.1 x.2.1
def lookX : XT → NestedKey → Option V
  | [], _ => none
  | t :: ts, k => if t.1 = k then some t.2.2 else lookX ts k
def putX (ts : XT) (k : NestedKey) (y v : V) : XT := if (lookX ts k).isSome then ts.map (fun t => if t.1 = k then (t.1, t.2.1, v) else t) else ts ++ [(k, y, v)]
theorem paired_find {α β : Type} {R : α → β → Prop} {p : α → Bool} {q : β → Bool} (h : ∀ a b, R a b → p a = q b) : ∀ {l : List α} {m : List β}, Paired R l m → (l.find? p = none ∧ m.find? q = none) ∨ ∃ a b, l.find? p = some a ∧ m.find? q = some b ∧ R a b
  | _, _, .nil => .inl ⟨rfl, rfl⟩
  | a :: l, b :: m, .cons r t => by
    rw [List.find?_cons, List.find?_cons, h a b r]
    cases q b with
    | true => exact .inr ⟨a, b, rfl, rfl, r⟩
    | false => exact paired_find h t
theorem paired_map {α β γ δ : Type} {R : α → β → Prop} {S : γ → δ → Prop} {f : α → γ} {g : β → δ} (h : ∀ a b, R a b → S (f a) (g b)) : ∀ {l : List α} {m : List β}, Paired R l m → Paired S (l.map f) (m.map g)
  | _, _, .nil => .nil
  | _, _, .cons r t => .cons (h _ _ r) (paired_map h t)
theorem lookX_find : ∀ (ts : XT) (k : NestedKey), lookX ts k = (ts.find? fun t => decide (t.1 = k)).map (·.2.2)
  | [], _ => rfl
  | t :: ts, k => by
    rw [lookX, List.find?_cons]
    by_cases c : t.1 = k
    · rw [if_pos c, decide_eq_true c]; rfl
    · rw [if_neg c, decide_eq_false c]; exact lookX_find ts k
theorem XR.look {ts : XT} {xs : List (NestedKey × Addr × Value)} (r : XR ts xs) (k : NestedKey) : RelO (lookX ts k) ((atKey xs k).map (·.2)) := by
  rw [lookX_find]
  unfold atKey
  rcases paired_find (p := fun t => decide (t.1 = k)) (q := fun x => decide (x.1 = k)) (fun a b h => by rw [h.1]) r with ⟨z1, z2⟩ | ⟨a, b, z1, z2, z3⟩
  · rw [z1, z2]; exact True.intro
  · rw [z1, z2]; exact z3.2.2
theorem XV.look {ts : XT} {xs : List (NestedKey × Value)} (r : XV ts xs) (k : NestedKey) : RelO (lookX ts k) (valueAt xs k) := by
  rw [lookX_find]
  unfold valueAt
  rcases paired_find (p := fun t => decide (t.1 = k)) (q := fun x => decide (x.1 = k)) (fun a b h => by rw [h.1]) r with ⟨z1, z2⟩ | ⟨a, b, z1, z2, z3⟩
  · rw [z1, z2]; exact True.intro
  · rw [z1, z2]; exact z3.2
theorem XR.put {ts : XT} {xs : List (NestedKey × Addr × Value)} (r : XR ts xs) (k : NestedKey) {b : Addr} {v : V} {uv : Value} (rv : RelV v uv) : XR (putX ts k (.ref b) v) (storedH xs k b uv) := by
  have hk := (r.look k).isSome_eq
  rw [Option.isSome_map] at hk
  unfold putX storedH
  rw [hk]
  by_cases c : (atKey xs k).isSome
  · simp only [c, if_true]
    refine paired_map (fun x y h => ?_) r
    unfold putAt
    by_cases e : x.1 = k
    · rw [if_pos e, if_pos (by rw [← h.1]; exact e)]; exact ⟨h.1, h.2.1, rv⟩
    · rw [if_neg e, if_neg (by rw [← h.1]; exact e)]; exact h
  · simp only [c, if_false]
    exact Paired.snoc r ⟨rfl, rfl, rv⟩
theorem any_at {K : Type} [DecidableEq K] (xs : List (K × Value)) (k : K) : (xs.any fun kv => decide (kv.1 = k)) = (valueAt xs k).isSome := by
  induction xs with
  | nil => rfl
  | cons x xs ih =>
    by_cases c : x.1 = k
    · simp [valueAt, c]
    · simpa [valueAt, c] using ih
theorem XV.put {ts : XT} {xs : List (NestedKey × Value)} (r : XV ts xs) (k : NestedKey) {y v : V} {uv : Value} (rv : RelV v uv) : XV (putX ts k y v) (stored xs k uv) := by
  have hk := (r.look k).isSome_eq
  unfold putX stored
  rw [hk, any_at]
  by_cases c : (valueAt xs k).isSome
  · simp only [c, if_true]
    refine paired_map (fun x z h => ?_) r
    by_cases e : x.1 = k
    · rw [if_pos e, if_pos (by rw [← h.1]; exact e)]; exact ⟨h.1, rv⟩
    · rw [if_neg e, if_neg (by rw [← h.1]; exact e)]; exact h
  · simp only [c, if_false]
    exact Paired.snoc r ⟨rfl, rv⟩
theorem putX_len (ts : XT) (k : NestedKey) (y v : V) : (putX ts k y v).length ≤ ts.length + 1 := by
  unfold putX
  split
  · rw [List.length_map]; omega
  · rw [List.length_append]; simp
theorem KeyG.put {H : Hp} {t : Bool} {ts : XT} {k : NestedKey} {y v : V} (g : KeyG H t ts) (h1 : okK t k = true) (h2 : NKV H k y) : KeyG H t (putX ts k y v) := by
  unfold putX
  intro x hx
  split at hx
  · obtain ⟨z, hz, rfl⟩ := List.mem_map.mp hx
    split
    · exact g z hz
    · exact g z hz
  · rcases List.mem_append.mp hx with hx | hx
    · exact g x hx
    · rw [List.mem_singleton.mp hx]; exact ⟨h1, h2⟩
theorem okK_is {t : Bool} {k : NestedKey} (h : okK t k = true) : (t = false → noTx k = true) ∧ k.depth ≤ 8 ∧ isTp k = t := by
  unfold okK at h
  simp only [Bool.and_eq_true, decide_eq_true_eq, beq_iff_eq] at h
  exact ⟨fun e => by have := h.1.1; rw [e, Bool.or_false] at this; exact this, h.1.2, h.2⟩
section
variable {P : Program} {w : World} {H : Hp} {h : Heap} {a : Addr}
theorem xr_of (ok : HOk P w H h) : ∀ {ts : XT} {es : List DictEntry}, Paired (XE w) ts es → KeyG H true ts → ∃ xs, XR ts xs ∧ es = xs.map (entryOfKey (nestedKind P w)) ∧ ∀ x ∈ xs, (nestedKind P w).is h x.1 x.2.1
  | _, _, .nil, _ => ⟨[], .nil, rfl, fun x hx => absurd hx List.not_mem_nil⟩
  | t :: ts, e :: es, .cons h1 r, g => by
    obtain ⟨xs, a1, a2, a3⟩ := xr_of ok r fun x hx => g x (List.mem_cons_of_mem _ hx)
    obtain ⟨g1, g2⟩ := g t List.mem_cons_self
    obtain ⟨t1, t2, t3⟩ := okK_is g1
    obtain ⟨k, y, v⟩ := t
    obtain ⟨e1, e2, e3⟩ := h1
    have ni := nk_is ok g2 e1
    cases g2 with
    | none => cases t3
    | num i => cases t3
    | text x => cases t3
    | tup hb hk =>
      rename_i b vs ks
      have ek : e.key = Value.ref b := e1
      rw [ek] at ni
      refine ⟨(.tup ks, b, e.val) :: xs, .cons ⟨rfl, rfl, e3⟩ a1, ?_, fun x hx => ?_⟩
      · rw [List.map_cons, ← a2]
        have : e = entryOfKey (nestedKind P w) (.tup ks, b, e.val) := by
          obtain ⟨eh, ek', ev⟩ := e
          simp only at ek e2
          subst ek e2
          unfold entryOfKey
          show DictEntry.mk _ _ _ = DictEntry.mk (NestedKey.hash w (.tup ks)) _ _
          rfl
        rw [← this]
      · rcases List.mem_cons.mp hx with rfl | hx
        · exact ⟨ni, t2⟩
        · exact a3 x hx
theorem xe_of (P : Program) (w : World) : ∀ {ts : XT} {xs : List (NestedKey × Addr × Value)}, XR ts xs → Paired (XE w) ts (xs.map (entryOfKey (nestedKind P w)))
  | _, _, .nil => .nil
  | t :: ts, x :: xs, .cons h1 r => by
    rw [List.map_cons]
    obtain ⟨k, y, v⟩ := t
    obtain ⟨k', b, u⟩ := x
    obtain ⟨e1, e2, e3⟩ := h1
    simp only at e1 e2 e3
    subst e1 e2
    exact .cons ⟨rfl, rfl, e3⟩ (xe_of P w r)
theorem vk_of {k : NestedKey} {y : V} {u : Value} (g : NKV H k y) (ht : isTp k = false) (hx : noTx k = true) (r : RelV y u) : vkIs k u = true := by
  cases g with
  | text x => cases hx
  | none => rw [show u = Value.none from r]; rfl
  | num i =>
    obtain ⟨t, e⟩ := (show ∃ t, u = Value.int i t from r)
    rw [e]
    exact decide_eq_true rfl
  | tup _ _ => cases ht
theorem vk_rel {k : NestedKey} {y : V} {u : Value} (g : NKV H k y) (r : vkIs k u = true) : RelV y u := by
  rcases vkIs_shape r with ⟨rfl, rfl⟩ | ⟨i, t, rfl, rfl⟩
  · cases g; rfl
  · cases g; exact ⟨t, rfl⟩
theorem vr_of (P : Program) (w : World) : ∀ {ts : XT} {es : List DictEntry}, Paired (XE w) ts es → KeyG H false ts → ∃ xs, XV ts xs ∧ (∀ e ∈ es, ∃ k, (vkKind P w).is k e.key = true ∧ e.hash = (vkKind P w).hash k) ∧ Pairs (vkKind P w) es xs
  | _, _, .nil, _ => ⟨[], .nil, fun x hx => absurd hx List.not_mem_nil, .nil⟩
  | t :: ts, e :: es, .cons h1 r, g => by
    obtain ⟨xs, a1, a2, a3⟩ := vr_of P w r fun x hx => g x (List.mem_cons_of_mem _ hx)
    obtain ⟨g1, g2⟩ := g t List.mem_cons_self
    obtain ⟨t1, t2, t3⟩ := okK_is g1
    obtain ⟨e1, e2, e3⟩ := h1
    have vi : (vkKind P w).is t.1 e.key = true := vk_of g2 t3 (t1 rfl) e1
    refine ⟨(t.1, e.val) :: xs, .cons ⟨rfl, e3⟩ a1, fun x hx => ?_, .cons vi rfl a3⟩
    rcases List.mem_cons.mp hx with rfl | hx
    · exact ⟨t.1, vi, e2⟩
    · exact a2 x hx
theorem ve_of {P : Program} {w : World} : ∀ {ts : XT} {xs : List (NestedKey × Value)} {es : List DictEntry}, XV ts xs → Pairs (vkKind P w) es xs → (∀ e ∈ es, ∃ k, (vkKind P w).is k e.key = true ∧ e.hash = (vkKind P w).hash k) → KeyG H false ts → Paired (XE w) ts es
  | _, _, _, .nil, .nil, _, _ => .nil
  | t :: ts, x :: xs, e :: es, .cons h1 r, .cons p1 p2 q, hk, g => by
    obtain ⟨e1, e2⟩ := h1
    obtain ⟨g1, g2⟩ := g t List.mem_cons_self
    obtain ⟨k, k1, k2⟩ := hk e List.mem_cons_self
    have ek : k = t.1 := (vkKind P w).inj _ _ _ k1 (by rw [e1]; exact p1)
    refine .cons ⟨vk_rel g2 (by rw [e1]; exact p1), by rw [k2, ek]; rfl, by rw [p2]; exact e2⟩ (ve_of r q (fun e he => hk e (List.mem_cons_of_mem _ he)) fun t ht => g t (List.mem_cons_of_mem _ ht))
theorem xkeys {ts : XT} {xs : List (NestedKey × Addr × Value)} (r : XR ts xs) : xs.map (·.1) = ts.map (·.1) := by
  induction r with
  | nil => rfl
  | cons h t ih => rw [List.map_cons, ih, List.map_cons, h.1]
theorem vkeys {ts : XT} {xs : List (NestedKey × Value)} (r : XV ts xs) : xs.map (·.1) = ts.map (·.1) := by
  induction r with
  | nil => rfl
  | cons h t ih => rw [List.map_cons, ih, List.map_cons, h.1]
theorem xo_rd {ts : XT} (ok : HOk P w H h) (e : H a = some (XO w a ts)) : ts.length ≤ sizeLine ∧ (a == sysModules) = false ∧ ∃ o es ep, h.get? a = some o ∧ o.ExactDict ∧ o.data = .dict es ep ∧ Paired (XE w) ts es.toList ∧ (ts.map (·.1)).Nodup :=
  (show ObjOk P w H h a (XO w a ts) from ok a _ e).1
theorem xo_t {ts : XT} (ok : HOk P w H h) (e : H a = some (XO w a ts)) (g : KeyG H true ts) : ts.length ≤ sizeLine ∧ (a == sysModules) = false ∧ ∃ xs, XR ts xs ∧ h.DictOfH (nestedKind P w) a xs := by
  obtain ⟨z, hs, o, es, ep, h1, h2, h3, h4, h5⟩ := xo_rd ok e
  obtain ⟨xs, a1, a2, a3⟩ := xr_of ok h4 g
  exact ⟨z, hs, xs, a1, o, es, ep, h1, h2, h3, a2, a3, by rw [xkeys a1]; exact h5⟩
theorem xo_f {ts : XT} (ok : HOk P w H h) (e : H a = some (XO w a ts)) (g : KeyG H false ts) : ts.length ≤ sizeLine ∧ (a == sysModules) = false ∧ ∃ xs, XV ts xs ∧ h.DictOf (vkKind P w) a xs := by
  obtain ⟨z, hs, o, es, ep, h1, h2, h3, h4, h5⟩ := xo_rd ok e
  obtain ⟨xs, a1, a2, a3⟩ := vr_of P w h4 g
  exact ⟨z, hs, xs, a1, o, es, ep, h1, h2, h3, fun e he => a2 e (by simpa using he), a3, by rw [vkeys a1]; exact h5⟩
theorem xo_new {H' : Hp} {h' : Heap} {ts : XT} (z : ts.length ≤ sizeLine) (hs : (a == sysModules) = false) (x : ∃ o es ep, h'.get? a = some o ∧ o.ExactDict ∧ o.data = .dict es ep ∧ Paired (XE w) ts es.toList ∧ (ts.map (·.1)).Nodup) : ObjOk P w H' h' a (XO w a ts) := by
  refine ⟨⟨z, hs, x⟩, ?_, ?_⟩
  · obtain ⟨o, _, _, h1, _⟩ := x; exact ⟨o, h1⟩
  · rintro h1 h2 ⟨z, hs, o, es, ep, e1, e2⟩ k
    exact ⟨z, hs, o, es, ep, k o e1, e2⟩
end
section
variable {X : Cx} {pins : List (Addr × Obj)} {σ : L2.St} {H : Hp} {s : Shared} {a : Addr} {y v : V} {uk uv : Value} {A : Around} {E : Value → Shared → Prop} {ts : XT} {k : NestedKey} {t : Bool}
theorem nk_key (I : Inv X pins σ H s) (g : NKV H k y) (o : okK true k = true) (ry : RelV y uk) : ∃ b, uk = .ref b ∧ y = .ref b ∧ (nestedKind X.prog X.w).is s.heap k b := by
  obtain ⟨t1, t2, t3⟩ := okK_is o
  have ni := nk_is I.hok g ry
  cases g with
  | none => cases t3
  | num i => cases t3
  | text x => cases t3
  | tup hb hk =>
    rename_i b vs ks
    obtain rfl : uk = Value.ref b := ry
    exact ⟨b, rfl, rfl, ni, t2⟩
theorem nk_room (hu : A.units + 64 < cLine) : (nestedKind X.prog X.w).room A.in1 := by
  show A.in1.units + 8 < cLine
  simp only [Around.in1_units]; omega
theorem x_in {Q : Value → Shared → Prop} (hu : A.units + 64 < cLine) (I : Inv X pins σ H s) (e : H a = some (XO X.w a ts)) (g : KeyG H t ts) (ky : NKV H k y) (ok : okK t k = true) (ry : RelV y uk) (h : ∀ s', Inv X pins σ H s' → Q (.bool (lookX ts k).isSome) s') :
    wpAny (model X.prog X.w) A (compareOp .In uk (.ref a)) Q E s := by
  cases t with
  | true =>
    obtain ⟨z, hd, xs, rel, dd⟩ := xo_t I.hok e g
    obtain ⟨b, rfl, rfl, ki⟩ := nk_key I ky ok ry
    refine wpAny_in_heap (nk_room hu) ki hd dd ?_
    have q := (rel.look k).isSome_eq
    rw [Option.isSome_map] at q
    rw [← q]
    exact h _ (I.tok _)
  | false =>
    obtain ⟨z, hd, xs, rel, dd⟩ := xo_f I.hok e g
    refine wpAny_in_of (knd := vkKind X.prog X.w) (vk_of ky (okK_is ok).2.2 ((okK_is ok).1 rfl) ry) hd dd.mapOf ?_
    rw [← (rel.look k).isSome_eq]
    exact h _ (I.tok _)
theorem x_notIn {Q : Value → Shared → Prop} (hu : A.units + 64 < cLine) (I : Inv X pins σ H s) (e : H a = some (XO X.w a ts)) (g : KeyG H t ts) (ky : NKV H k y) (ok : okK t k = true) (ry : RelV y uk) (h : ∀ s', Inv X pins σ H s' → Q (.bool (!(lookX ts k).isSome)) s') :
    wpAny (model X.prog X.w) A (compareOp .NotIn uk (.ref a)) Q E s := by
  cases t with
  | true =>
    obtain ⟨z, hd, xs, rel, dd⟩ := xo_t I.hok e g
    obtain ⟨b, rfl, rfl, ki⟩ := nk_key I ky ok ry
    refine wpAny_notIn_heap (nk_room hu) ki hd dd ?_
    have q := (rel.look k).isSome_eq
    rw [Option.isSome_map] at q
    rw [← q]
    exact h _ (I.tok _)
  | false =>
    obtain ⟨z, hd, xs, rel, dd⟩ := xo_f I.hok e g
    refine wpAny_notIn_of (knd := vkKind X.prog X.w) (vk_of ky (okK_is ok).2.2 ((okK_is ok).1 rfl) ry) hd dd.mapOf ?_
    rw [← (rel.look k).isSome_eq]
    exact h _ (I.tok _)
theorem x_getItem {Q : Value → Shared → Prop} (hu : A.units + 64 < cLine) (I : Inv X pins σ H s) (e : H a = some (XO X.w a ts)) (g : KeyG H t ts) (ky : NKV H k y) (ok : okK t k = true) (ry : RelV y uk) (hv : lookX ts k = some v) (h : ∀ w' s', Inv X pins σ H s' → RelV v w' → Q w' s') :
    wpAny (model X.prog X.w) A (getItem (.ref a) uk) Q E s := by
  cases t with
  | true =>
    obtain ⟨z, hd, xs, rel, dd⟩ := xo_t I.hok e g
    obtain ⟨b, rfl, rfl, ki⟩ := nk_key I ky ok ry
    obtain ⟨w', hw, rw'⟩ := RelO.some_of (v := v) (o := (atKey xs k).map (·.2)) (by rw [← hv]; exact rel.look k)
    obtain ⟨p, hp, hq2⟩ := Option.map_eq_some_iff.mp hw
    refine wpAny_getItem_heap (nk_room hu) ki dd hp ?_
    rw [hq2]
    exact h w' _ (I.tok _) rw'
  | false =>
    obtain ⟨z, hd, xs, rel, dd⟩ := xo_f I.hok e g
    obtain ⟨w', hw, rw'⟩ := RelO.some_of (v := v) (o := valueAt xs k) (by rw [← hv]; exact rel.look k)
    exact wpAny_getItem_of (knd := vkKind X.prog X.w) (vk_of ky (okK_is ok).2.2 ((okK_is ok).1 rfl) ry) dd.mapOf hw (h w' _ (I.tok _) rw')
theorem x_get1 {Q : Value → Shared → Prop} (hu : A.units + 64 < cLine) (I : Inv X pins σ H s) (e : H a = some (XO X.w a ts)) (g : KeyG H t ts) (ky : NKV H k y) (ok : okK t k = true) (ry : RelV y uk) (h : ∀ w' s', Inv X pins σ H s' → RelV ((lookX ts k).getD .non) w' → Q w' s') :
    wpAny (model X.prog X.w) A (call (.builtin "dict.get") [.ref a, uk]) Q E s := by
  cases t with
  | true =>
    obtain ⟨z, hd, xs, rel, dd⟩ := xo_t I.hok e g
    obtain ⟨b, rfl, rfl, ki⟩ := nk_key I ky ok ry
    exact call_meetsIn PySem.F.slot_dict_get dd.typeIs PySem.F.entry_dict_get (PySem.F.args_dict_get_2 _ _) (meetsH_dict_get (nestedKind X.prog X.w) a b hd) ⟨nk_room hu, k, xs, ki, dd, h _ _ (I.tok _) ((rel.look k).getD rfl)⟩
  | false =>
    obtain ⟨z, hd, xs, rel, dd⟩ := xo_f I.hok e g
    exact call_meetsIn PySem.F.slot_dict_get dd.typeIs PySem.F.entry_dict_get (PySem.F.args_dict_get_2 _ _) (meets_dict_get (vkKind X.prog X.w) a (vk_of ky (okK_is ok).2.2 ((okK_is ok).1 rfl) ry) hd) ⟨_, dd.mapOf, h _ _ (I.tok _) ((rel.look k).getD rfl)⟩
theorem x_setItem {Q : Unit → Shared → Prop} (hu : A.units + 64 < cLine) (I : Inv X pins σ H s) (e : H a = some (XO X.w a ts)) (g : KeyG H t ts) (ky : NKV H k y) (ok : okK t k = true) (ry : RelV y uk) (rv : RelV v uv) (hl : ts.length < sizeLine) (h : ∀ s', Inv X pins σ (upd H a (XO X.w a (putX ts k y v))) s' → Q () s') :
    wpAny (model X.prog X.w) A (setItem (.ref a) uk uv) Q E s := by
  have mu : Mut (H a) := by rw [e]; exact True.intro
  have g2 := g.put (y := y) (v := v) ok ky
  have hl2 : (putX ts k y v).length ≤ sizeLine := by have := putX_len ts k y v; omega
  cases t with
  | true =>
    obtain ⟨z, hd, xs, rel, dd⟩ := xo_t I.hok e g
    obtain ⟨b, rfl, rfl, ki⟩ := nk_key I ky ok ry
    have hn : xs.length ≤ sizeLine := by rw [← Paired.length rel]; exact z
    refine wpAny_setItem_heap (hsz := hn) (nk_room hu) ki dd fun h' dd' hs => h _ ?_
    obtain ⟨q, ens, epo, hq, h2, h3, h4, _, h5⟩ := dd'
    have rel2 := rel.put k (b := b) rv
    refine d_write I mu hs ⟨q, hq⟩ (xo_new hl2 hd ⟨q, ens, epo, hq, h2, h3, ?_, ?_⟩)
    · rw [h4]; exact xe_of _ _ rel2
    · rw [← xkeys rel2]; exact h5
  | false =>
    obtain ⟨z, hd, xs, rel, dd⟩ := xo_f I.hok e g
    have hn : xs.length ≤ sizeLine := by rw [← Paired.length rel]; exact z
    refine wpAny_setItem_pairs (knd := vkKind X.prog X.w) (hsz := hn) (vk_of ky (okK_is ok).2.2 ((okK_is ok).1 rfl) ry) dd fun h' dd' hs => h _ ?_
    obtain ⟨q, ens, ep, hq, h2, h3, h4, h5, h6⟩ := dd'
    have rel2 := rel.put k (y := y) rv
    refine d_write I mu hs ⟨q, hq⟩ (xo_new hl2 hd ⟨q, ens, ep, hq, h2, h3, ve_of (H := H) rel2 h5 (fun e he => h4 e (by simpa using he)) g2, ?_⟩)
    rw [← vkeys rel2]; exact h6
end
/-! ### at the layer -/
theorem keyG_of {K : KW} {F H : Hp} {t : Bool} : ∀ {ts : XT} {ks : List NestedKey} {A : List Addr}, ks = ts.map (·.1) → (∀ k ∈ ks, okK t k = true) → Reps K F H (ts.map (·.2.1)) (kDs ks) A → KeyG H t ts
  | [], _, _, _, _, _ => fun x hx => absurd hx List.not_mem_nil
  | x :: ts, _, _, rfl, g, r => by
    rw [List.map_cons, List.map_cons, kDs] at r
    have hx := g x.1 (by simp)
    cases r with
    | cons h1 r1 e =>
      have ih := keyG_of (t := t) rfl (fun k hk => g k (by simp at hk ⊢; exact .inr hk)) r1
      intro y hy
      rcases List.mem_cons.mp hy with rfl | hy
      · exact ⟨hx, h1.nk⟩
      · exact ih y hy
theorem lookX_is : ∀ (ts : XT) (k : NestedKey), (lookX ts k).isSome = decide (k ∈ ts.map (·.1))
  | [], k => by simp [lookX]
  | t :: ts, k => by
    rw [lookX]
    by_cases c : t.1 = k
    · rw [if_pos c, decide_eq_true (by simp [c])]; rfl
    · rw [if_neg c, lookX_is ts k]
      have : ¬ k = t.1 := fun z => c z.symm
      simp [this]
theorem rep_xd {K : KW} {F H : Hp} {v : V} {o t : Bool} {ks : List NestedKey} {ds : List D} {A : List Addr} (hs : Ex F H) (r : Rep K F H v (.xd o t ks ds) A) : ∃ a ts, v = .ref a ∧ H a = some (XO K.w a ts) ∧ ks = ts.map (·.1) ∧ KeyG H t ts ∧ (∀ k ∈ ks, okK t k = true) ∧ Reps K F H (ts.map (·.2.1)) (kDs ks) [] ∧ Reps K F H (ts.map (·.2.2)) ds [] := by
  cases r with
  | xF h e g r1 r2 => exact ⟨_, _, rfl, hs _ _ h, e, keyG_of e g r1, g, r1, r2⟩
  | xO h e g r1 r2 => exact ⟨_, _, rfl, h, e, keyG_of e g r1, g, r1, r2⟩
theorem okK_nk {K : KW} {F H : Hp} {t : Bool} {k : NestedKey} {v : V} {A : List Addr} (r : Rep K F H v (kD k) A) (h : okK t k = true) : NKV H k v := r.nk
theorem lookX_d {K : KW} {F H : Hp} : ∀ {ts : XT} {ds : List D} {A : List Addr} {k : NestedKey}, Reps K F H (ts.map (·.2.2)) ds A → (lookX ts k = none ∧ lookD (ts.map (·.1)) ds k = none) ∨ ∃ v d B, lookX ts k = some v ∧ lookD (ts.map (·.1)) ds k = some d ∧ Rep K F H v d B
  | [], ds, _, k, r => by
    cases r
    exact .inl ⟨rfl, rfl⟩
  | t :: ts, _, _, k, r => by
    rw [List.map_cons] at r
    cases r with
    | cons h1 r1 e =>
      rw [lookX, List.map_cons, lookD]
      by_cases c : t.1 = k
      · rw [if_pos c, if_pos c]; exact .inr ⟨_, _, _, rfl, rfl, h1⟩
      · rw [if_neg c, if_neg c]; exact lookX_d r1
theorem putX_keys (ts : XT) (k : NestedKey) (y v : V) : (putX ts k y v).map (·.1) = putKs (ts.map (·.1)) k := by
  unfold putX putKs
  rw [lookX_is]
  by_cases c : k ∈ ts.map (·.1)
  · rw [if_pos (decide_eq_true c), if_pos c, List.map_map]
    refine List.map_congr_left fun t _ => ?_
    show (if t.1 = k then (t.1, t.2.1, v) else t).1 = t.1
    split <;> rfl
  · rw [if_neg (by simpa using c), if_neg c, List.map_append]; rfl
theorem putX_vals {K : KW} {F H : Hp} {ts : XT} {ds : List D} {k : NestedKey} {y v : V} {d : D} (r : Reps K F H (ts.map (·.2.2)) ds []) (h : Rep K F H v d []) : Reps K F H ((putX ts k y v).map (·.2.2)) (putDs (ts.map (·.1)) ds k d) [] := by
  unfold putX putDs
  rw [lookX_is]
  by_cases c : k ∈ ts.map (·.1)
  · rw [if_pos (decide_eq_true c), if_pos c]
    clear c
    induction ts generalizing ds with
    | nil => cases r; exact .nil
    | cons t ts ih =>
      rw [List.map_cons] at r
      cases r with
      | cons h1 r1 e =>
        have e2 := List.nil_eq_append_iff.mp e
        rw [e2.1] at h1
        rw [e2.2] at r1
        rw [List.map_cons, List.map_cons, List.map_cons, repDs]
        refine .cons (A := []) (B := []) ?_ (ih r1) rfl
        by_cases c : t.1 = k
        · rw [if_pos c, if_pos c]; exact h
        · rw [if_neg c, if_neg c]; exact h1
  · rw [if_neg (by simpa using c), if_neg c, List.map_append]
    exact r.app (.cons h .nil rfl)
theorem putX_kv {K : KW} {F H : Hp} {ts : XT} {k : NestedKey} {y v : V} (r : Reps K F H (ts.map (·.2.1)) (kDs (ts.map (·.1))) []) (h : Rep K F H y (kD k) []) : Reps K F H ((putX ts k y v).map (·.2.1)) (kDs (putKs (ts.map (·.1)) k)) [] := by
  unfold putX putKs
  rw [lookX_is]
  by_cases c : k ∈ ts.map (·.1)
  · rw [if_pos (decide_eq_true c), if_pos c]
    have e : (ts.map fun t => if t.1 = k then (t.1, t.2.1, v) else t).map (·.2.1) = ts.map (·.2.1) := by
      rw [List.map_map]
      refine List.map_congr_left fun t _ => ?_
      show (if t.1 = k then (t.1, t.2.1, v) else t).2.1 = t.2.1
      split <;> rfl
    rw [e]; exact r
  · rw [if_neg (by simpa using c), if_neg c, List.map_append, kDs_map, List.map_append]
    rw [kDs_map] at r
    exact r.app (.cons h .nil rfl)
/-- {} -/
def wXNew (t : Bool) : WE := fun _ env Q => Q (.xd true t [] []) false env
def tXNew (W : World) : TE := fun _ H Q => ∀ p, H p = none → Q (.ref p) (upd H p (XO W p []))
theorem pe_xnew {X : Cx} {pos : Pos} : PE X (.Dict [] [] pos) (tXNew X.w) := ⟨fun pins s σ H Q I h =>
  wpAny_Dict_empty ⟨.ref s.heap.objs.size, _, I.laid (a := s.heap.objs.size) (o := XO X.w s.heap.objs.size []) (t' := s.toks) (fun _ _ q => Heap.get?_push_of_some _ q) (Nat.le_refl _) (xo_new (Nat.zero_le _) (beq_eq_false_iff_ne.mpr (Ne.symm (Nat.ne_of_lt I.big))) ⟨_, #[], 0, Heap.get?_push_size _ rfl, ⟨rfl, rfl, rfl⟩, rfl, .nil, List.nodup_nil⟩), rfl, h _ (I.hok.fresh (Nat.le_refl _))⟩⟩
theorem sim_xnew {K : KW} {E : EX} {t : Bool} : Sim K E (wXNew t) (tXNew K.w) := by
  intro px F0 H0 F H σ env pv pd L S Q' Q w k p hp
  exact k _ false env _ F _ w (Same.refl _) (Ex.new hp) (S.push (Ex.new hp) (.xO (ts := []) upd_same rfl (fun k hk => absurd hk List.not_mem_nil) .nil .nil) (by simp) (by simpa using hp))
theorem d_xnew {X : Cx} {E : EX} {t : Bool} {pos : Pos} : DE X E (.Dict [] [] pos) (wXNew t) := ⟨_, pe_xnew, sim_xnew⟩
/-- k in d -/
def gXIn : G2
  | y, .xd _ t ks _, Q => ∃ k, y = kD k ∧ okK t k = true ∧ Q (.bl (decide (k ∈ ks)))
  | _, _, _ => False
def gXNotIn : G2
  | y, .xd _ t ks _, Q => ∃ k, y = kD k ∧ okK t k = true ∧ Q (.bl (!decide (k ∈ ks)))
  | _, _, _ => False
theorem gXIn_is {y : D} {o t : Bool} {ks : List NestedKey} {ds : List D} {Q : D → Prop} : gXIn y (.xd o t ks ds) Q = ∃ k, y = kD k ∧ okK t k = true ∧ Q (.bl (decide (k ∈ ks))) := by cases y <;> rfl
theorem gXNotIn_is {y : D} {o t : Bool} {ks : List NestedKey} {ds : List D} {Q : D → Prop} : gXNotIn y (.xd o t ks ds) Q = ∃ k, y = kD k ∧ okK t k = true ∧ Q (.bl (!decide (k ∈ ks))) := by cases y <;> rfl
def rXIn (W : World) : R2 := fun y x H Q => ∃ a t ts k, x = .ref a ∧ H a = some (XO W a ts) ∧ KeyG H t ts ∧ NKV H k y ∧ okK t k = true ∧ Q (.bl (lookX ts k).isSome) H
def rXNotIn (W : World) : R2 := fun y x H Q => ∃ a t ts k, x = .ref a ∧ H a = some (XO W a ts) ∧ KeyG H t ts ∧ NKV H k y ∧ okK t k = true ∧ Q (.bl (!(lookX ts k).isSome)) H
theorem op_xin {X : Cx} (hu : X.A.units + 64 < cLine) : OpR X (compareOp .In) (rXIn X.w) := by
  intro pins s σ H y x v ud Q I ry rx q
  obtain ⟨a, t, ts, k, ex, e, g, ky, ok, q2⟩ := q
  subst ex
  obtain rfl : ud = Value.ref a := rx
  exact x_in hu I e g ky ok ry fun s3 I3 => ⟨.bl (lookX ts k).isSome, H, I3, rfl, q2⟩
theorem op_xnotin {X : Cx} (hu : X.A.units + 64 < cLine) : OpR X (compareOp .NotIn) (rXNotIn X.w) := by
  intro pins s σ H y x v ud Q I ry rx q
  obtain ⟨a, t, ts, k, ex, e, g, ky, ok, q2⟩ := q
  subst ex
  obtain rfl : ud = Value.ref a := rx
  exact x_notIn hu I e g ky ok ry fun s3 I3 => ⟨.bl (!(lookX ts k).isSome), H, I3, rfl, q2⟩
theorem opd_xin {K : KW} : OpD K gXIn (rXIn K.w) := by
  intro F H x y dx dy A B Q' Q hs rx ry w k
  unfold gXIn at w
  split at w
  · obtain ⟨kk, rfl, ok, q⟩ := w
    obtain ⟨a, ts, rfl, h1, h2, h3, h4, h5, h6⟩ := rep_xd hs ry
    refine ⟨a, _, ts, kk, rfl, h1, h3, okK_nk rx ok, ok, ?_⟩
    rw [lookX_is, ← h2]
    exact k.same q (.bl _)
  · exact w.elim
theorem opd_xnotin {K : KW} : OpD K gXNotIn (rXNotIn K.w) := by
  intro F H x y dx dy A B Q' Q hs rx ry w k
  unfold gXNotIn at w
  split at w
  · obtain ⟨kk, rfl, ok, q⟩ := w
    obtain ⟨a, ts, rfl, h1, h2, h3, h4, h5, h6⟩ := rep_xd hs ry
    refine ⟨a, _, ts, kk, rfl, h1, h3, okK_nk rx ok, ok, ?_⟩
    rw [lookX_is, ← h2]
    exact k.same q (.bl _)
  · exact w.elim
/-- d[k] -/
def gXGet : G2
  | .xd _ t ks ds, y, Q => ∃ k, y = kD k ∧ okK t k = true ∧ atK (lookD ks ds k) Q
  | _, _, _ => False
theorem gXGet_is {y : D} {o t : Bool} {ks : List NestedKey} {ds : List D} {Q : D → Prop} : gXGet (.xd o t ks ds) y Q = ∃ k, y = kD k ∧ okK t k = true ∧ atK (lookD ks ds k) Q := rfl
def rXGet (W : World) : R2 := fun x y H Q => ∃ a t ts k v, x = .ref a ∧ H a = some (XO W a ts) ∧ KeyG H t ts ∧ NKV H k y ∧ okK t k = true ∧ lookX ts k = some v ∧ Q v H
theorem opd_xget {K : KW} : OpD K gXGet (rXGet K.w) := by
  intro F H x y dx dy A B Q' Q hs rx ry w k
  unfold gXGet at w
  split at w
  · obtain ⟨kk, rfl, ok, q⟩ := w
    obtain ⟨a, ts, rfl, h1, h2, h3, h4, h5, h6⟩ := rep_xd hs rx
    obtain ⟨d, e, hd, q⟩ := atK_is q
    rcases lookX_d (k := kk) h6 with ⟨_, z⟩ | ⟨v, d', C, e1, e2, r⟩
    · rw [h2, z] at e; cases e
    · rw [h2, e2] at e; cases e
      have := r.clean hd
      subst this
      exact ⟨a, _, ts, kk, v, rfl, h1, h3, okK_nk ry ok, ok, e1, k.same q r⟩
  · exact w.elim
def tXGet (W : World) (td ty : TE) : TE := fun σ H Q => td σ H fun x H1 => ty σ H1 fun y H2 => rXGet W x y H2 Q
theorem pe_xget {X : Cx} {o i : Expr} {td ty : TE} {pos : Pos} (hu : X.A.units + 64 < cLine) (ho : PE X o td) (hi : PE X i ty) (hs : NoSl i) : PE X (.Subscript o i pos) (tXGet X.w td ty) := by
  refine ⟨fun ps s σ H Q I h => ?_⟩
  refine subD_of PySem.F.slot_dict_getitem.lookup hs (thn (ho.run ps s σ H _ I h) fun ud s1 ⟨x, H1, I1, rx, q1⟩ => thn (hi.run ps s1 σ H1 _ I1 q1) fun iv s2 ⟨y, H2, I2, ry, a, t, ts, k, v, ex, e, g, ky, ok, hv, q2⟩ => ?_)
  subst ex
  obtain rfl : ud = Value.ref a := rx
  obtain ⟨_, _, ob, es, ep, e1, e2, _⟩ := xo_rd I2.hok e
  exact ⟨⟨ob, e1, e2.1⟩, x_getItem hu I2 e g ky ok ry hv fun w' s3 I3 rw' => ⟨v, H2, I3, rw', q2⟩⟩
theorem d_xget {X : Cx} {E : EX} {a b : Expr} {wa wb : WE} {pos : Pos} (hu : X.A.units + 64 < cLine) (ha : DE X E a wa) (hb : DE X E b wb) (hs : NoSl b := by exact fun _ _ => rfl) : DE X E (.Subscript a b pos) (wOp gXGet wa wb) := by
  obtain ⟨ta, pa, sa⟩ := ha.ex
  obtain ⟨tb, pb, sb⟩ := hb.ex
  exact ⟨_, pe_xget hu pa pb hs, sim_op (r := rXGet X.w) opd_xget sa sb⟩
/-- d.get(k) -/
def isXd : D → Bool
  | .xd _ _ _ _ => true
  | _ => false
def gXGetN : G2
  | .xd _ t ks ds, y, Q => ∃ k, y = kD k ∧ okK t k = true ∧ atK (some ((lookD ks ds k).getD .non)) Q
  | _, _, _ => False
theorem gXGetN_is {y : D} {o t : Bool} {ks : List NestedKey} {ds : List D} {Q : D → Prop} : gXGetN (.xd o t ks ds) y Q = ∃ k, y = kD k ∧ okK t k = true ∧ atK (some ((lookD ks ds k).getD .non)) Q := rfl
def wXGet1 (wa wb : WE) : WE := fun px env Q => wa px env fun a _ env1 => isXd a = true ∧ wb px env1 fun b _ env2 => gXGetN a b fun d => Q d false env2
def tXGet1 (W : World) (td ty : TE) : TE := fun σ H Q => td σ H fun x H1 => ∃ a ts, x = .ref a ∧ H1 a = some (XO W a ts) ∧ ty σ H1 fun y H2 => ∃ t ts k, H2 a = some (XO W a ts) ∧ KeyG H2 t ts ∧ NKV H2 k y ∧ okK t k = true ∧ Q ((lookX ts k).getD .non) H2
theorem pe_xget1 {X : Cx} {o e : Expr} {td ty : TE} {apos cpos : Pos} (hu : X.A.units + 64 < cLine) (ho : PE X o td) (he : PE X e ty) (m : M1 X o "get" apos e cpos) : PE X (.Call (.Attribute o "get" apos) [e] [] cpos) (tXGet1 X.w td ty) := by
  refine ⟨fun ps s σ H Q I h => ?_⟩
  refine wpAny_Call_method m.base m.few m.line PySem.F.plainAttrs_dict PySem.F.slot_dict_get PySem.F.type_dict_get (thn (ho.run ps s σ H _ I h) fun ud s1 ⟨x, H1, I1, rx, a, ts, ex, d, q1⟩ => ?_)
  subst ex
  obtain rfl : ud = Value.ref a := rx
  obtain ⟨_, _, ob, es, ep, e1, e2, _⟩ := xo_rd I1.hok d
  refine ⟨⟨ob, e1, e2.1⟩, fun b q => ?_, ?_⟩
  · cases q
    exact ⟨ob, e1, e2.2.1⟩
  rw [m.trees]
  refine Calls.callWith_builtin rfl (Calls.evalArgs_plain (Calls.spliced_cons (thn (he.run ps s1 σ H1 _ I1 q1) fun iv s2 ⟨y, H2, I2, ry, t, ts2, k, e, g, ky, ok, q2⟩ => Calls.spliced_nil ?_)))
  exact x_get1 hu I2 e g ky ok ry fun w' s3 I3 rw' => ⟨_, H2, I3, rw', q2⟩
theorem sim_xget1 {K : KW} {E : EX} {wa wb : WE} {ta tb : TE} (ha : Sim K E wa ta) (hb : Sim K E wb tb) : Sim K E (wXGet1 wa wb) (tXGet1 K.w ta tb) := by
  intro px F0 H0 F H σ env pv pd L S Q' Q w k
  refine ha px F0 H0 F H σ env pv pd L S _ _ w fun a ba env1 x F1 H1 w1 eF1 eH1 R1 => ?_
  obtain ⟨⟨A, rx⟩, S1⟩ := R1.forget
  obtain ⟨hi, w1⟩ := w1
  cases a with
  | xd o t ks ds =>
    obtain ⟨a, ts, rfl, h1, h2, h3, h4, h5, h6⟩ := rep_xd S1.sub rx
    refine ⟨a, ts, rfl, h1, hb px F0 H0 F1 H1 σ env1 pv pd L S1 _ _ w1 fun b bb env2 y F2 H2 w2 eF2 eH2 R2 => ?_⟩
    obtain ⟨⟨B, ry⟩, S2⟩ := R2.forget
    rw [gXGetN_is] at w2
    obtain ⟨kk, rfl, ok, q⟩ := w2
    obtain ⟨d, e, hd, q⟩ := atK_is q
    have h6' := h6.ex eF2 eH2
    refine ⟨t, ts, kk, eH2 _ _ h1, keyG_of h2 h4 (h5.ex eF2 eH2), okK_nk ry ok, ok, ?_⟩
    rcases lookX_d (k := kk) h6' with ⟨z1, z2⟩ | ⟨v, d', C, e1, e2, r⟩
    · rw [h2, z2] at e; cases e
      rw [z1]
      exact k _ false env2 _ F2 H2 q (eF1.trans eF2) (eH1.trans eH2) (S2.clean .non)
    · rw [h2, e2] at e; cases e
      have := r.clean hd
      subst this
      rw [e1]
      exact k _ false env2 _ F2 H2 q (eF1.trans eF2) (eH1.trans eH2) (S2.clean r)
  | _ => cases hi
theorem d_xget1 {X : Cx} {E : EX} {a b : Expr} {wa wb : WE} {apos cpos : Pos} (hu : X.A.units + 64 < cLine) (ha : DE X E a wa) (hb : DE X E b wb) (m : M1 X a "get" apos b cpos := by exact ⟨rfl, rfl, rfl, rfl⟩) : DE X E (.Call (.Attribute a "get" apos) [b] [] cpos) (wXGet1 wa wb) := by
  obtain ⟨ta, pa, sa⟩ := ha.ex
  obtain ⟨tb, pb, sb⟩ := hb.ex
  exact ⟨_, pe_xget1 hu pa pb m, sim_xget1 sa sb⟩
section
variable {K : KW} {F0 H0 F F' H H' : Hp} {σ : L2.St} {env : Env} {pv : List V} {pd : List D}
theorem Sta.mutX {i : Nat} {t : Bool} {ks : List NestedKey} {ds : List D} (S : Sta K F0 H0 F H σ env pv pd) (h : env[i]? = some (some (.xd true t ks ds))) : ∃ a ts, σ[i]? = some (some (.ref a)) ∧ H a = some (XO K.w a ts) ∧ ks = ts.map (·.1) ∧ KeyG H t ts ∧ (∀ k ∈ ks, okK t k = true) ∧ Reps K F H (ts.map (·.2.1)) (kDs ks) [] ∧ Reps K F H (ts.map (·.2.2)) ds [] ∧
    ∀ ts' ks' ds', ks' = ts'.map (·.1) → (∀ k ∈ ks', okK t k = true) → Reps K F H (ts'.map (·.2.1)) (kDs ks') [] → Reps K F H (ts'.map (·.2.2)) ds' [] → Sta K F0 H0 F (upd H a (XO K.w a ts')) σ (env.set i (some (.xd true t ks' ds'))) pv pd := by
  obtain ⟨A0, B, h1, h2, h3, h4⟩ := S.own
  obtain ⟨v, A1, Ai, A2, e2, e3, r, s, back⟩ := h1.at h
  subst e3
  cases r with
  | xO hq hk hg rk rs =>
    rename_i a ts
    refine ⟨a, ts, e2, hq, hk, keyG_of hk hg rk, hg, rk, rs, fun ts' ks' ds' hk' hg' rk' rs' => ?_⟩
    have na : ∀ b ∈ A1 ++ A2 ++ B, b ≠ a := fun b hb z => by
      subst z
      rw [List.nodup_append] at h3
      have h5 := List.nodup_append.mp h3.1
      have h6 := List.nodup_append.mp h5.1
      simp only [List.mem_append] at hb
      rcases hb with (hb | hb) | hb
      · exact h6.2.2 b hb b List.mem_cons_self rfl
      · exact h5.2.2 b (by simp) b hb rfl
      · exact h3.2.2 b (by simp) b hb rfl
    have ha := h4 a (by simp)
    have hT : ∀ b xs, H b = some (.tup xs) → upd H a (XO K.w a ts') b = some (.tup xs) := fun b xs q => by
      have ne : b ≠ a := fun z => by
        subst z
        rw [hq] at q
        cases q
      rw [upd_ne ne]; exact q
    have ex0 : ∀ {G : Hp}, G a = none → (∀ b o, G b = some o → H b = some o) → Ex G (upd H a (XO K.w a ts')) := fun {G} hn hg b o q => by
      rw [upd_ne (ne_of_none q hn)]; exact hg b o q
    have ev : (σ.set i (some (V.ref a))) = σ := by
      obtain ⟨hi, hv⟩ := List.getElem?_eq_some_iff.mp e2
      rw [← hv]; exact List.set_getElem_self hi
    have rnew : Rep K F (upd H a (XO K.w a ts')) (.ref a) (.xd true t ks' ds') [a] := .xO upd_same hk' hg' (rk'.mono (Same.refl _) hT fun b hb => absurd hb List.not_mem_nil) (rs'.mono (Same.refl _) hT fun b hb => absurd hb List.not_mem_nil)
    have sl := back (F' := F) (H' := upd H a (XO K.w a ts')) (Same.refl _) hT (fun b hb => upd_ne (na b (List.mem_append_left _ hb))) rnew
    rw [ev] at sl
    exact ⟨S.exF, ex0 ha.2 S.exH, ex0 ha.1 S.sub, S.new, A1 ++ [a] ++ A2, B, sl, h2.mono (Same.refl _) hT fun b hb => upd_ne (na b (List.mem_append_right _ hb)), h3, fun b hb => h4 b hb⟩
end
def atXd (i : Nat) (env : Env) (Q : Bool → List NestedKey → List D → Prop) : Prop := match env[i]? with
  | some (some (.xd true t ks ds)) => Q t ks ds
  | _ => False
theorem atXd_is {i : Nat} {env : Env} {Q : Bool → List NestedKey → List D → Prop} (h : atXd i env Q) : ∃ t ks ds, env[i]? = some (some (.xd true t ks ds)) ∧ Q t ks ds := by
  unfold atXd at h
  split at h
  · exact ⟨_, _, _, by assumption, h⟩
  · exact h.elim
def wXPut (i : Nat) (w wk : WE) : WS := fun P px env => w px env fun d _ env1 => atXd i env1 fun _ _ _ => wk px env1 fun y _ env2 => atXd i env2 fun t ks ds => dirty d = false ∧ ks.length ≤ 100000 ∧ ∃ k, y = kD k ∧ okK t k = true ∧ P.nx (env2.set i (some (.xd true t (putKs ks k) (putDs ks ds k d))))
def sXPut (W : World) (td ty tv : TE) : TS := fun D σ H => tv σ H fun v H1 => td σ H1 fun x H2 => ty σ H2 fun y H3 => ∃ a t ts k, x = .ref a ∧ H3 a = some (XO W a ts) ∧ KeyG H3 t ts ∧ NKV H3 k y ∧ okK t k = true ∧ ts.length < sizeLine ∧ D.nx σ (upd H3 a (XO W a (putX ts k y v)))
theorem ps_xput {X : Cx} {o i value : Expr} {td ty tv : TE} {pos pos' : Pos} (hu : X.A.units + 64 < cLine) (ho : PE X o td) (hi : PE X i ty) (hv : PE X value tv) (hs : swapsWith value (some (.Subscript o i pos')) pos.line X.env = pure false) :
    PS X (.Assign [.Subscript o i pos'] value pos) (sXPut X.w td ty tv) := by
  refine ⟨fun ps s σ H D I h => ?_⟩
  refine wpAny_Assign_Subscript (thn (hv.run ps s σ H _ I h) fun r s1 ⟨v, H1, I1, rv, q1⟩ => thn (ho.run ps s1 σ H1 _ I1 q1) fun ud s2 ⟨x, H2, I2, rx, q2⟩ => thn (hi.run ps s2 σ H2 _ I2 q2) fun iv s3 ⟨y, H3, I3, ry, a, t, ts, k, ex, e, g, ky, ok, hl, q3⟩ => ?_) hs
  subst ex
  obtain rfl : ud = Value.ref a := rx
  exact x_setItem hu I3 e g ky ok ry rv hl fun s4 I4 => ⟨σ, _, I4, q3⟩
theorem simS_xput {K : KW} {E : EX} {i : Nat} {w wk : WE} {t tk : TE} (h : Sim K E w t) (hk : Sim K E wk tk) : SimS K E (wXPut i w wk) (sXPut K.w (tVar i) tk t) := by
  intro px F0 H0 F H σ env pv pd L S P D w1 k
  refine h px F0 H0 F H σ env pv pd L S _ _ w1 fun d b env1 v F1 H1 w2 eF eH R => ?_
  obtain ⟨⟨A, r⟩, S1⟩ := R.forget
  obtain ⟨t0, ks0, ds0, e0, w2⟩ := atXd_is w2
  obtain ⟨a0, ts0, ea, ha, _⟩ := S1.mutX e0
  refine ⟨.ref a0, ea, ?_⟩
  refine hk px F0 H0 F1 H1 σ env1 pv pd L S1 _ _ w2 fun kk bk env2 kv F2 H2 w3 eF2 eH2 R2 => ?_
  obtain ⟨⟨A2, rk⟩, S2⟩ := R2.forget
  obtain ⟨t1, ks, ds, e1, w3⟩ := atXd_is w3
  obtain ⟨w4, w6, key, rfl, ok, w7⟩ := w3
  obtain ⟨a, ts, es', hq, hl, gk, hok, rks, rds, back⟩ := S2.mutX e1
  rw [ea] at es'; cases es'
  have c2 := r.clean w4
  subst c2
  have rv := r.ex eF2 eH2
  have ck := rk.clean (kD_dirty key)
  subst ck
  have lk : ks.length = ts.length := by rw [hl, List.length_map]
  subst hl
  refine ⟨a0, t1, ts, key, rfl, hq, gk, okK_nk rk ok, ok, lt_line (by omega), ?_⟩
  refine k.nx _ _ _ _ w7 (back _ _ _ (putX_keys ts key kv v).symm (fun k hk => ?_) (putX_kv rks rk) (putX_vals rds rv))
  unfold putKs at hk
  split at hk
  · exact hok k hk
  · rcases List.mem_append.mp hk with hk | hk
    · exact hok k hk
    · rw [List.mem_singleton.mp hk]; exact ok
section
variable {X : Cx} {E : EX} {e k : Expr} {w wk : WE} {pos apos cpos npos spos : Pos} {i : Nat} {x : Str}
theorem s_xput (hu : X.A.units + 64 < cLine) (hN : X.N[i]? = some x := by rfl) (hv : Vis X.env.scope x := by first | exact Or.inl rfl | exact Or.inr (Or.inl rfl) | exact Or.inr (Or.inr rfl)) (hk : DE X E k wk) (h : DE X E e w) (hd : (x == ("__debug__" : Str)) = false := by decide) (hcd : (x == ("__classdict__" : Str)) = false := by decide)
    (hs : swapsWith e (some (.Subscript (.Name x npos) k spos)) pos.line X.env = pure false := by rfl) :
    DS X E (.Assign [.Subscript (.Name x npos) k spos] e pos) (wXPut i w wk) := by
  obtain ⟨t, p, s⟩ := h.ex
  obtain ⟨tk, pk, sk⟩ := hk.ex
  exact ⟨_, ps_xput hu (pe_var hN hv hd hcd) pk p hs, simS_xput s sk⟩
end
end Tm

set_option Elab.async false
set_option linter.all false
set_option maxRecDepth 100000
set_option maxHeartbeats 1000000
/-! a walk over a frozen dict's keys: a for, a comprehension; the dict is locked meanwhile -/
namespace Tm
open PySem PySem.Spec PyProof.Rows L2
def keyD : Key → D
  | .inl i => .int i
  | .inr x => .str x
theorem rep_key {K : KW} {F H : Hp} (k : Key) : Rep K F H (kV k) (keyD k) [] := by
  cases k with
  | inl z => exact .int z
  | inr x => exact .str x
theorem idF {G : Hp} {a : Addr} {X : HO} (hG : G a = some X) : upd G a X = G := by
  funext x
  by_cases z : x = a
  · subst z; rw [upd_same, hG]
  · rw [upd_ne z]
def keysD : DKeys → List D
  | .k ks => ks.map keyD
  | .t ks => ks.map fun k => .tup (k.map keyD)
theorem keysD_k {ks : List Key} : keysD (.k ks) = ks.map keyD := rfl
theorem keysD_t {ks : List (List Key)} : keysD (.t ks) = ks.map fun k => .tup (k.map keyD) := rfl
theorem keysD_len : ∀ (kd : DKeys), (keysD kd).length = kd.len
  | .k _ => List.length_map ..
  | .t _ => List.length_map ..
theorem mut_h (kd : DKeys) (vs : List V) : Mut (some (kd.ho vs)) := by cases kd <;> exact True.intro
theorem rep_keyL {K : KW} {F H : Hp} : ∀ (k : List Key), Reps K F H (k.map kV) (k.map keyD) []
  | [] => .nil
  | x :: k => .cons (A := []) (B := []) (rep_key x) (rep_keyL k) rfl
/-- what the iterator over a locked dict's keys gives -/
structure KIt (J : It) (a : Addr) (od : Obj) (kd : DKeys) (vs : List V) : Prop where
  go : ∀ n H, H a = some (.frz od (kd.ho vs)) → n < kd.len → J.go n H
  stop : ∀ n H, H a = some (.frz od (kd.ho vs)) → kd.len ≤ n → J.stop n H
  yld : ∀ n H x H', J.yld n H x H' → H' = H ∧ ∃ d, (keysD kd)[n]? = some d ∧ ∀ (K : KW) (F : Hp), Rep K F H x d []
theorem keys_it {R : It → Hp → Prop} {H : Hp} {a : Addr} {od : Obj} {vs : List V} : ∀ {kd : DKeys}, kd.len = vs.length → H a = some (.frz od (kd.ho vs)) → (∀ J, KIt J a od kd vs → R J H) →
    (∃ kvs, H a = some (.frz od (.dK kvs)) ∧ R (Itk a od kvs) H) ∨ ∃ kvs, H a = some (.frz od (.dT kvs)) ∧ R (Itkt a od kvs) H
  | .k ks, hl, hZ, h => by
    have zl : (ks.zip vs).length = ks.length := by rw [List.length_zip]; have : ks.length = vs.length := hl; omega
    refine .inl ⟨_, hZ, h _ ⟨fun n H1 e hn => ⟨e, by rw [zl]; exact hn⟩, fun n H1 e hn => ⟨e, by rw [zl]; exact hn⟩, fun n H1 x H2 y => ?_⟩⟩
    obtain ⟨e, key, v, hkv, rfl⟩ := y
    obtain ⟨hk1, _⟩ := List.getElem?_zip_eq_some.mp hkv
    exact ⟨e, keyD key, by rw [keysD_k, List.getElem?_map, hk1]; rfl, fun K F => rep_key key⟩
  | .t ks, hl, hZ, h => by
    have zl : (ks.zip vs).length = ks.length := by rw [List.length_zip]; have : ks.length = vs.length := hl; omega
    refine .inr ⟨_, hZ, h _ ⟨fun n H1 e hn => ⟨e, by rw [zl]; exact hn⟩, fun n H1 e hn => ⟨e, by rw [zl]; exact hn⟩, fun n H1 x H2 y => ?_⟩⟩
    obtain ⟨e, key, v, q, hkv, rfl, hq⟩ := y
    obtain ⟨hk1, _⟩ := List.getElem?_zip_eq_some.mp hkv
    exact ⟨e, .tup (key.map keyD), by rw [keysD_t, List.getElem?_map, hk1]; rfl, fun K F => .tup hq (rep_keyL key)⟩
theorem keys_run {R : It → Hp → Prop} {H : Hp} {σ : L2.St} {i : Nat} {a : Addr} {od : Obj} {vs : List V} {kd : DKeys} (hσ : σ[i]? = some (some (.ref a))) (hl : kd.len = vs.length) (hZ : H a = some (.frz od (kd.ho vs))) (h : ∀ J, KIt J a od kd vs → R J H) : iKeys (tVar i) σ H R :=
  ⟨.ref a, hσ, a, od, rfl, keys_it (R := R) hl hZ h⟩
/-! the for -/
def wForK (i : Nat) (g : WG) (b : WS) : WS := fun P px env => match env[i]? with
  | some (some (.dct false kd ds)) => dirtys ds = false ∧ ForW g b P px0 (keysD kd) env
  | _ => False
theorem walkK {K : KW} {E : EX} {i : Nat} {g : WG} {b : WS} {tg : TG} {tb : TS} (hg : SimG K g tg) (hb : SimS K E b tb) {F0 H0 F H : Hp} {σ : L2.St} {env : Env} {pv : List V} {pd : List D} {a : Addr} {od : Obj} {kd : DKeys} {vs : List V} {P : PEnds} {D' : Ends}
    (hl : kd.len = vs.length) (hZ : F0 a = some (.frz od (kd.ho vs))) (hσ : σ[i]? = some (some (.ref a))) (S : Sta K F0 H0 F H σ env pv pd) (w : ForW g b P px0 (keysD kd) env) (k : LinkD K F0 H0 pv pd P D') :
    tFor (iKeys (tVar i)) tg tb D' σ H := by
  have atZ : ∀ {F2 H2 : Hp} {σ2 : L2.St} {env2 : Env}, Sta K F0 H0 F2 H2 σ2 env2 pv pd → H2 a = some (.frz od (kd.ho vs)) := fun S2 => S2.sub a _ (S2.exF a _ hZ)
  refine keys_run hσ hl (atZ S) fun J hJ => ?_
  obtain ⟨I, i0, turn, done⟩ := w
  have nl := keysD_len kd
  refine ⟨fun n m σ' H' => m = kd.len - n ∧ n ≤ kd.len ∧ ∃ env' F', I n env' ∧ Sta K F0 H0 F' H' σ' env' pv pd, ⟨kd.len, by simp, Nat.zero_le _, _, _, i0, S⟩, ?_⟩
  rintro n m σ2 H2 ⟨rfl, hle, env2, F2, i2, S2⟩
  by_cases hlt : n < kd.len
  · refine .inr ⟨hJ.go _ _ (atZ S2) hlt, fun σ' H' => ∃ env' F', I (n + 1) env' ∧ Sta K F0 H0 F' H' σ' env' pv pd, fun σ' H' q => ⟨kd.len - (n + 1), by omega, rfl, hlt, q⟩, fun x H' y => ?_⟩
    obtain ⟨rfl, d, item, rd⟩ := hJ.yld _ _ _ _ y
    have S3 := S2.clean (rd K F2)
    refine hg F0 H0 F2 _ σ2 env2 _ _ _ _ S3 _ _ (turn n _ env2 item i2) fun env3 σ3 w3 S4 => ?_
    exact hb px0 F0 H0 F2 _ σ3 env3 _ _ link0 S4 _ _ w3 ⟨fun σ' env' F' H' q S' => ⟨env', F', q, S'⟩, fun d v F' H' σ' env' pv' pd' q S' => k.rt d v F' H' σ' env' pv' pd' q S', fun σ' env' F' H' q S' => k.nx _ _ _ _ q S', fun σ' env' F' H' q S' => ⟨env', F', q, S'⟩⟩
  · have en : n = kd.len := by omega
    subst en
    have q := done env2 (by rw [nl]; exact i2)
    exact .inl ⟨hJ.stop _ _ (atZ S2) (Nat.le_refl _), k.nx _ _ _ _ q S2⟩
theorem simS_forK {K : KW} {E : EX} {i : Nat} {g : WG} {b : WS} {tg : TG} {tb : TS} (hg : SimG K g tg) (hb : SimS K E b tb) : SimS K E (wForK i g b) (fun D σ H => tFor (iKeys (tVar i)) tg tb D σ H ∨ tLock (tFor (iKeys (tVar i)) tg tb) D σ H) := by
  intro px F0 H0 F H σ env pv pd L S P D w k
  unfold wForK at w
  split at w
  · rename_i kd ds e
    obtain ⟨hc, w⟩ := w
    obtain ⟨v, A, e1, r⟩ := S.slot e
    cases r with
    | dF h1 h2 h3 =>
      rename_i a vs
      have hX : DX (kd.ho vs) (kd.ho vs) := ⟨⟨kd, vs, rfl⟩, .inl rfl⟩
      refine .inr ⟨a, kd.ho vs, S.sub _ _ h1, mut_h _ _, fun od => ?_⟩
      have hY : DX (kd.ho vs) (.frz od (kd.ho vs)) := ⟨⟨kd, vs, rfl⟩, .inr ⟨od, rfl⟩⟩
      have SL := S.lk hX hY h1
      refine walkK hg hb h2 upd_same e1 SL w ⟨fun σ' env' F' H' q S' => ?_, fun d v F' H' σ' env' pv' pd' q S' => ?_, fun σ' env' F' H' q S' => ?_, fun σ' env' F' H' q S' => ?_⟩
      · obtain ⟨z1, z2⟩ := S.ul hX hY h1 S'
        exact ⟨z1, k.nx _ _ _ _ q z2⟩
      · obtain ⟨z1, z2⟩ := S.ul hX hY h1 S'
        exact ⟨z1, k.rt _ _ _ _ _ _ _ _ q z2⟩
      · obtain ⟨z1, z2⟩ := S.ul hX hY h1 S'
        exact ⟨z1, k.bk _ _ _ _ q z2⟩
      · obtain ⟨z1, z2⟩ := S.ul hX hY h1 S'
        exact ⟨z1, k.ct _ _ _ _ q z2⟩
    | dL h1 h2 h3 =>
      rename_i a od vs
      have hX : DX (kd.ho vs) (.frz od (kd.ho vs)) := ⟨⟨kd, vs, rfl⟩, .inr ⟨od, rfl⟩⟩
      have SL := S.lk hX hX h1
      rw [idF h1, idF (S.sub _ _ h1)] at SL
      refine .inl (walkK hg hb h2 upd_same e1 SL w ⟨fun σ' env' F' H' q S' => ?_, fun d v F' H' σ' env' pv' pd' q S' => ?_, fun σ' env' F' H' q S' => ?_, fun σ' env' F' H' q S' => ?_⟩)
      · obtain ⟨z1, z2⟩ := S.ul hX hX h1 S'
        rw [idF z1, idF (S'.exF a _ upd_same)] at z2
        exact k.nx _ _ _ _ q z2
      · obtain ⟨z1, z2⟩ := S.ul hX hX h1 S'
        rw [idF z1, idF (S'.exF a _ upd_same)] at z2
        exact k.rt _ _ _ _ _ _ _ _ q z2
      · obtain ⟨z1, z2⟩ := S.ul hX hX h1 S'
        rw [idF z1, idF (S'.exF a _ upd_same)] at z2
        exact k.bk _ _ _ _ q z2
      · obtain ⟨z1, z2⟩ := S.ul hX hX h1 S'
        rw [idF z1, idF (S'.exF a _ upd_same)] at z2
        exact k.ct _ _ _ _ q z2
  · exact w.elim
section
variable {X : Cx} {E : EX} {i : Nat} {x : Str}
theorem s_forK {tgt : Expr} {npos pos : Pos} {body : List Stmt} {g : WG} {b : WS} (hp : PassesOwn (model X.prog X.w) X.A X.env X.xe) (hc : X.calm = true) (hg : DG X tgt g) (hb : DSs X E body b)
    (hN : X.N[i]? = some x := by rfl) (hv : Vis X.env.scope x := by first | exact Or.inl rfl | exact Or.inr (Or.inl rfl) | exact Or.inr (Or.inr rfl)) (hd : (x == ("__debug__" : Str)) = false := by decide) (hcd : (x == ("__classdict__" : Str)) = false := by decide)
    (hs : ∀ y, foldedSetIterable (.Name x npos) X.env y = pure y := by intro _; rfl) :
    DS X E (.For tgt (.Name x npos) body [] pos) (wForK i g b) := by
  obtain ⟨t2, p2, s2⟩ := hg.ex
  obtain ⟨t3, p3, s3⟩ := hb.ex
  have p : PS X (.For tgt (.Name x npos) body [] pos) (tFor (iKeys (tVar i)) t2 t3) := ps_for hp hc (pi_keys (pe_var hN hv hd hcd)) p2 p3 hs
  exact ⟨_, ps_or p (ps_lock p), simS_forK s2 s3⟩
end
/-! the comprehension -/
def wLcK (i : Nat) (g : WG) (tt : WT) (te : WE) (vs : List Nat) : WE := fun px env Q => match env[i]? with
  | some (some (.dct false kd ds)) => dirtys ds = false ∧ lcW g tt te (wipeE (envF env) vs) (cleanE env) (keysD kd) [] fun acc => Q (.lst true acc) false env
  | _ => False
theorem lcK {K : KW} {i : Nat} {g : WG} {tt : WT} {te : WE} {ix : List Nat} {tg : TG} {t1 : TT} {t2 : TE} (hg : SimG K g tg) (hk : Keep ix tg) (hm : MonoG tg) (ht : SimT K EN tt t1) (he : Sim K EN te t2) {F0 H0 F H : Hp} {σ : L2.St} {env : Env} {pv : List V} {pd : List D} {a : Addr} {od : Obj} {kd : DKeys} {vs : List V} {Q1 : List D → Prop} {Q : VK}
    (hl : kd.len = vs.length) (hZ : F a = some (.frz od (kd.ho vs))) (hσ : σ[i]? = some (some (.ref a))) (S : Sta K F0 H0 F H σ env pv pd) (w : lcW g tt te (wipeE (envF env) ix) (cleanE env) (keysD kd) [] Q1)
    (k : ∀ acc D F2 H2, Q1 acc → Ex F F2 → Ex H H2 → Sta K F0 H0 F2 H2 σ env (.ref D :: pv) (.lst true acc :: pd) → Q (.ref D) H2) : tLc (iKeys (tVar i)) tg t1 t2 ix σ H Q := by
  refine keys_run hσ hl (S.sub _ _ hZ) fun J hJ => fun D hD => ?_
  refine lc_run (pvx := []) (pdx := []) hg hk hm ht he S rfl (fun F1 H1 A n d eF hs rr hd => ?_) (fun F1 H1 A eF hs rr => ?_) w hD fun acc F2 H2 w2 eF2 _ eH2 S2 => k acc D F2 H2 w2 eF2 eH2 S2
  · have hZ1 := hs _ _ (eF _ _ hZ)
    have hn := (List.getElem?_eq_some_iff.mp hd).1
    rw [keysD_len] at hn
    refine ⟨hJ.go _ _ hZ1 hn, fun x H' y => ?_⟩
    obtain ⟨rfl, d', item, rd⟩ := hJ.yld _ _ _ _ y
    rw [hd] at item; cases item
    exact ⟨Same.refl _, rd K F1⟩
  · exact hJ.stop _ _ (hs _ _ (eF _ _ hZ)) (by rw [keysD_len]; exact Nat.le_refl _)
theorem sim_lcK {K : KW} {E : EX} {i : Nat} {g : WG} {tt : WT} {te : WE} {ix : List Nat} {tg : TG} {t1 : TT} {t2 : TE} (hg : SimG K g tg) (hk : Keep ix tg) (hm : MonoG tg) (ht : SimT K EN tt t1) (he : Sim K EN te t2) :
    Sim K E (wLcK i g tt te ix) (fun σ H Q => tLc (iKeys (tVar i)) tg t1 t2 ix σ H Q ∨ tLockE (tLc (iKeys (tVar i)) tg t1 t2 ix) σ H Q) := by
  intro px F0 H0 F H σ env pv pd L S Q' Q w k
  unfold wLcK at w
  split at w
  · rename_i kd ds e
    obtain ⟨hc, w⟩ := w
    obtain ⟨v, A, e1, r⟩ := S.slot e
    cases r with
    | dF h1 h2 h3 =>
      rename_i a vs
      have hX : DX (kd.ho vs) (kd.ho vs) := ⟨⟨kd, vs, rfl⟩, .inl rfl⟩
      refine .inr ⟨a, kd.ho vs, S.sub _ _ h1, mut_h _ _, fun od => ?_⟩
      have hY : DX (kd.ho vs) (.frz od (kd.ho vs)) := ⟨⟨kd, vs, rfl⟩, .inr ⟨od, rfl⟩⟩
      have SL := S.lk hX hY h1
      refine lcK hg hk hm ht he h2 upd_same e1 SL w fun acc D F2 H2 q eF2 eH2 S' => ?_
      obtain ⟨z1, z2⟩ := S.ul hX hY h1 S'
      refine ⟨z1, k _ false env _ _ _ q (fun b o hb => ?_) (fun b o hb => ?_) z2⟩
      · by_cases z : b = a
        · subst z; rw [upd_same]; rw [h1] at hb; exact hb
        · rw [upd_ne z]; exact eF2 b o (by rw [upd_ne z]; exact hb)
      · by_cases z : b = a
        · subst z; rw [upd_same]; rw [S.sub _ _ h1] at hb; exact hb
        · rw [upd_ne z]; exact eH2 b o (by rw [upd_ne z]; exact hb)
    | dL h1 h2 h3 =>
      rename_i a od vs
      exact .inl (lcK hg hk hm ht he h2 h1 e1 S w fun acc D F2 H2 q eF2 eH2 S' => k _ false env _ _ _ q eF2 eH2 S')
  · exact w.elim
section
variable {X : Cx} {E : EX} {i : Nat} {x : Str} {npos pos : Pos} {elt tg c : Expr} {scope : Scope} {own : List (Str × Nat)} {g : TG} {wg : WG} {wc : WT} {we : WE}
theorem pe_or {e : Expr} {t t' : TE} (h : PE X e t) (h' : PE X e t') : PE X e (fun σ H Q => t σ H Q ∨ t' σ H Q) :=
  ⟨fun pins s σ H Q I q => q.elim (h.run pins s σ H Q I) (h'.run pins s σ H Q I)⟩
theorem d_lcK (hc : X.calm = true) (hN : X.N.Nodup) (ok : BlkOk X.N X.env.scope scope own)
    (hg : ∀ (s : Shared) (H : Hp) (C : Addr) (cl : List (Str × Addr)) (fp : List Addr), DC (X.blk s H scope (compEnvC scope cl C X.env) fp) (own.map (·.2)) tg g wg)
    (he : ∀ (s : Shared) (H : Hp) (C : Addr) (cl : List (Str × Addr)) (fp : List Addr), DE (X.blk s H scope (compEnvC scope cl C X.env) fp) EN elt we)
    (hx : X.N[i]? = some x := by rfl) (hv : Vis X.env.scope x := by first | exact Or.inl rfl | exact Or.inr (Or.inl rfl) | exact Or.inr (Or.inr rfl)) (hd : (x == ("__debug__" : Str)) = false := by decide) (hcd : (x == ("__classdict__" : Str)) = false := by decide)
    (hs : ∀ y, foldedSetIterable (.Name x npos) X.env y = pure y := by intro _; rfl) :
    DE X E (.ListComp elt [⟨tg, .Name x npos, [], 0⟩] scope pos) (wLcK i wg wYes we (own.map (·.2))) := by
  have p := pe_lc (te := tW X.kw EN we) (pos := pos) hc hN (pi_keys (pe_var hx hv hd hcd)) ok (fun s H C cl fp => (hg s H C cl fp).p) (fun s H C cl fp => pts_nil) (fun s H C cl fp => (he s H C cl fp).canon) hs
  have d := hg X.s_0 X.H_0 0 [] []
  exact ⟨_, pe_or p (pe_lock p), sim_lcK d.s d.k d.m sim_yes sim_tW⟩
theorem d_lcKIf (hc : X.calm = true) (hN : X.N.Nodup) (ok : BlkOk X.N X.env.scope scope own)
    (hg : ∀ (s : Shared) (H : Hp) (C : Addr) (cl : List (Str × Addr)) (fp : List Addr), DC (X.blk s H scope (compEnvC scope cl C X.env) fp) (own.map (·.2)) tg g wg)
    (ht : ∀ (s : Shared) (H : Hp) (C : Addr) (cl : List (Str × Addr)) (fp : List Addr), DT (X.blk s H scope (compEnvC scope cl C X.env) fp) EN c wc)
    (he : ∀ (s : Shared) (H : Hp) (C : Addr) (cl : List (Str × Addr)) (fp : List Addr), DE (X.blk s H scope (compEnvC scope cl C X.env) fp) EN elt we)
    (hx : X.N[i]? = some x := by rfl) (hv : Vis X.env.scope x := by first | exact Or.inl rfl | exact Or.inr (Or.inl rfl) | exact Or.inr (Or.inr rfl)) (hd : (x == ("__debug__" : Str)) = false := by decide) (hcd : (x == ("__classdict__" : Str)) = false := by decide)
    (hs : ∀ y, foldedSetIterable (.Name x npos) X.env y = pure y := by intro _; rfl) :
    DE X E (.ListComp elt [⟨tg, .Name x npos, [c], 0⟩] scope pos) (wLcK i wg wc we (own.map (·.2))) := by
  have p := pe_lc (te := tW X.kw EN we) (tt := ttW X.kw EN wc) (pos := pos) hc hN (pi_keys (pe_var hx hv hd hcd)) ok (fun s H C cl fp => (hg s H C cl fp).p) (fun s H C cl fp => pts_one (ht s H C cl fp).canon) (fun s H C cl fp => (he s H C cl fp).canon) hs
  have d := hg X.s_0 X.H_0 0 [] []
  exact ⟨_, pe_or p (pe_lock p), sim_lcK d.s d.k d.m sim_ttW sim_tW⟩
/-- name = [..] on one line -/
theorem simS_setLcK {K : KW} {E : EX} {i j : Nat} {g : WG} {tt : WT} {te : WE} {ix : List Nat} {tg : TG} {t1 : TT} {t2 : TE} (hg : SimG K g tg) (hk : Keep ix tg) (hm : MonoG tg) (ht : SimT K EN tt t1) (he : Sim K EN te t2) :
    SimS K E (wAsg (wLcK i g tt te ix) (gtName j)) (fun D σ H => tAsg (tLc (iKeys (tVar i)) tg t1 t2 ix) (gName j) D σ H ∨ tLock (tAsg (tLc (iKeys (tVar i)) tg t1 t2 ix) (gName j)) D σ H) := by
  intro px F0 H0 F H σ env pv pd L S P D w k
  unfold wAsg wLcK at w
  split at w
  · rename_i kd ds e
    obtain ⟨hc, w⟩ := w
    obtain ⟨v, A, e1, r⟩ := S.slot e
    cases r with
    | dF h1 h2 h3 =>
      rename_i a vs
      have hX : DX (kd.ho vs) (kd.ho vs) := ⟨⟨kd, vs, rfl⟩, .inl rfl⟩
      refine .inr ⟨a, kd.ho vs, S.sub _ _ h1, mut_h _ _, fun od => ?_⟩
      have hY : DX (kd.ho vs) (.frz od (kd.ho vs)) := ⟨⟨kd, vs, rfl⟩, .inr ⟨od, rfl⟩⟩
      refine lcK hg hk hm ht he h2 upd_same e1 (S.lk hX hY h1) w fun acc D F2 H2 q eF2 eH2 S' => ?_
      refine simG_name _ _ _ _ _ _ _ _ _ _ S' _ _ q.2 fun env2 σ2 w3 S2 => ?_
      obtain ⟨z1, z2⟩ := S.ul hX hY h1 S2
      exact ⟨z1, k.nx _ _ _ _ w3 z2⟩
    | dL h1 h2 h3 =>
      rename_i a od vs
      exact .inl (lcK hg hk hm ht he h2 h1 e1 S w fun acc D F2 H2 q eF2 eH2 S' => simG_name _ _ _ _ _ _ _ _ _ _ S' _ _ q.2 fun env2 σ2 w3 S2 => k.nx _ _ _ _ w3 S2)
  · exact w.elim
theorem s_setLcK {j : Nat} {y : Str} {py spos : Pos} (hc : X.calm = true) (hN : X.N.Nodup) (hy : X.N[j]? = some y) (hyl : X.env.scope.names.lookup y = some .local)
    (hsw : swapsWith (.ListComp elt [⟨tg, .Name x npos, [], 0⟩] scope pos) (some (.Name y py)) spos.line X.env = pure true) (ok : BlkOk X.N X.env.scope scope own)
    (hg : ∀ (s : Shared) (H : Hp) (C : Addr) (cl : List (Str × Addr)) (fp : List Addr), DC (X.blk s H scope (compEnvC scope cl C X.env) fp) (own.map (·.2)) tg g wg)
    (he : ∀ (s : Shared) (H : Hp) (C : Addr) (cl : List (Str × Addr)) (fp : List Addr), DE (X.blk s H scope (compEnvC scope cl C X.env) fp) EN elt we)
    (hx : X.N[i]? = some x := by rfl) (hv : Vis X.env.scope x := by first | exact Or.inl rfl | exact Or.inr (Or.inl rfl) | exact Or.inr (Or.inr rfl)) (hd : (x == ("__debug__" : Str)) = false := by decide) (hcd : (x == ("__classdict__" : Str)) = false := by decide)
    (hs : ∀ y, foldedSetIterable (.Name x npos) X.env y = pure y := by intro _; rfl) :
    DS X E (.Assign [.Name y py] (.ListComp elt [⟨tg, .Name x npos, [], 0⟩] scope pos) spos) (wAsg (wLcK i wg wYes we (own.map (·.2))) (gtName j)) := by
  have p := ps_setLc (te := tW X.kw EN we) hc hN hy hyl hsw (pi_keys (pe_var hx hv hd hcd)) ok (fun s H C cl fp => (hg s H C cl fp).p) (fun s H C cl fp => pts_nil) (fun s H C cl fp => (he s H C cl fp).canon) hs
  have d := hg X.s_0 X.H_0 0 [] []
  exact ⟨_, ps_or p (ps_lock p), simS_setLcK d.s d.k d.m sim_yes sim_tW⟩
theorem s_setLcKIf {j : Nat} {y : Str} {py spos : Pos} (hc : X.calm = true) (hN : X.N.Nodup) (hy : X.N[j]? = some y) (hyl : X.env.scope.names.lookup y = some .local)
    (hsw : swapsWith (.ListComp elt [⟨tg, .Name x npos, [c], 0⟩] scope pos) (some (.Name y py)) spos.line X.env = pure true) (ok : BlkOk X.N X.env.scope scope own)
    (hg : ∀ (s : Shared) (H : Hp) (C : Addr) (cl : List (Str × Addr)) (fp : List Addr), DC (X.blk s H scope (compEnvC scope cl C X.env) fp) (own.map (·.2)) tg g wg)
    (ht : ∀ (s : Shared) (H : Hp) (C : Addr) (cl : List (Str × Addr)) (fp : List Addr), DT (X.blk s H scope (compEnvC scope cl C X.env) fp) EN c wc)
    (he : ∀ (s : Shared) (H : Hp) (C : Addr) (cl : List (Str × Addr)) (fp : List Addr), DE (X.blk s H scope (compEnvC scope cl C X.env) fp) EN elt we)
    (hx : X.N[i]? = some x := by rfl) (hv : Vis X.env.scope x := by first | exact Or.inl rfl | exact Or.inr (Or.inl rfl) | exact Or.inr (Or.inr rfl)) (hd : (x == ("__debug__" : Str)) = false := by decide) (hcd : (x == ("__classdict__" : Str)) = false := by decide)
    (hs : ∀ y, foldedSetIterable (.Name x npos) X.env y = pure y := by intro _; rfl) :
    DS X E (.Assign [.Name y py] (.ListComp elt [⟨tg, .Name x npos, [c], 0⟩] scope pos) spos) (wAsg (wLcK i wg wc we (own.map (·.2))) (gtName j)) := by
  have p := ps_setLc (te := tW X.kw EN we) (tt := ttW X.kw EN wc) hc hN hy hyl hsw (pi_keys (pe_var hx hv hd hcd)) ok (fun s H C cl fp => (hg s H C cl fp).p) (fun s H C cl fp => pts_one (ht s H C cl fp).canon) (fun s H C cl fp => (he s H C cl fp).canon) hs
  have d := hg X.s_0 X.H_0 0 [] []
  exact ⟨_, ps_or p (ps_lock p), simS_setLcK d.s d.k d.m sim_ttW sim_tW⟩
end
end Tm

set_option Elab.async false
set_option linter.all false
set_option maxRecDepth 100000
set_option maxHeartbeats 1000000
/-! more of dicts: a copy, its keys as a list, sorted; == of dicts; d.pop(k); sorted lists of any data -/
namespace Tm
open PySem PySem.Spec PyProof.Rows L2
theorem units67 {k : Nat} {A : Around} (r : Room k A) : A.units + 66 < cLine := by have := r.un; omega
/-! dict(d) -/
def gDCopy : GC
  | [.dct _ (.k ks) ds], Q => dirtys ds = false ∧ Q (.dct true (.k ks) ds)
  | _, _ => False
theorem gDCopy_is {o : Bool} {ks : List Key} {ds : List D} {Q : D → Prop} : gDCopy [.dct o (.k ks) ds] Q = (dirtys ds = false ∧ Q (.dct true (.k ks) ds)) := rfl
theorem cd_dcopy {K : KW} : CallD K gDCopy (fun xs H Q => ∃ (a : Addr) (kvs : List (Key × V)), xs = [.ref a] ∧ Rd H a (.dK kvs) ∧ ∀ p, H p = none → Q (.ref p) (upd H p (.dK kvs))) := by
  intro F H xs ds A Q' Q hs r w k
  unfold gDCopy at w
  split at w
  · rename_i o ks es
    obtain ⟨hd, w⟩ := w
    obtain ⟨v, rfl, r1⟩ := reps1 r
    obtain ⟨a, vs, C, rfl, h1, h2, h3⟩ := rep_dct hs r1
    have := h3.clean hd
    subst this
    refine ⟨a, _, rfl, h1, fun p hp => ?_⟩
    exact k (.dct true (.k ks) es) (.ref p) _ [p] w (Ex.new hp) (.dO (kd := .k ks) upd_same h2 (h3.ex (Same.refl _) (Ex.new hp))) (by simp) fun b hb => by simp at hb; subst hb; exact hp
  · exact w.elim
/-! list(d) -/
def gDList : GC
  | [.dct _ (.k ks) _], Q => Q (.lst true (ks.map keyD))
  | _, _ => False
theorem gDList_is {o : Bool} {ks : List Key} {ds : List D} {Q : D → Prop} : gDList [.dct o (.k ks) ds] Q = Q (.lst true (ks.map keyD)) := rfl
theorem reps_keys {K : KW} {F H : Hp} : ∀ (ks : List Key), Reps K F H (ks.map kV) (ks.map keyD) []
  | [] => .nil
  | k :: ks => .cons (rep_key k) (reps_keys ks) rfl
theorem zip_keys {ks : List Key} {vs : List V} (h : ks.length = vs.length) : (ks.zip vs).map (·.1) = ks := List.map_fst_zip (by omega)
theorem cd_dlist {K : KW} : CallD K gDList (fun xs H Q => ∃ (a : Addr) (kvs : List (Key × V)), xs = [.ref a] ∧ Rd H a (.dK kvs) ∧ ∀ p, H p = none → Q (.ref p) (upd H p (.lst (kvs.map fun kv => kV kv.1)))) := by
  intro F H xs ds A Q' Q hs r w k
  unfold gDList at w
  split at w
  · rename_i o ks es
    obtain ⟨v, rfl, r1⟩ := reps1 r
    obtain ⟨a, vs, C, rfl, h1, h2, h3⟩ := rep_dct hs r1
    refine ⟨a, _, rfl, h1, fun p hp => ?_⟩
    have e : ((ks.zip vs).map fun kv => kV kv.1) = ks.map kV := by
      rw [← zip_keys h2, List.map_map, zip_keys h2]; rfl
    rw [e]
    exact k.lst w (reps_keys ks) p hp
  · exact w.elim
/-! sorted(d), whole numbers -/
def gDSort : GC
  | [.dct _ (.k ks) _], Q => ∃ ns : List Int, ks = ns.map Sum.inl ∧ ∀ ns' : List Int, ns'.Perm ns → ns'.Pairwise (· ≤ ·) → Q (.lst true (ns'.map D.int))
  | _, _ => False
theorem gDSort_is {o : Bool} {ks : List Key} {ds : List D} {Q : D → Prop} : gDSort [.dct o (.k ks) ds] Q = ∃ ns : List Int, ks = ns.map Sum.inl ∧ ∀ ns' : List Int, ns'.Perm ns → ns'.Pairwise (· ≤ ·) → Q (.lst true (ns'.map D.int)) := rfl
def rSortDI : List V → Hp → VK → Prop := fun xs H Q => ∃ (a : Addr) (kvs : List (Key × V)) (ns : List Int), xs = [.ref a] ∧ Rd H a (.dK kvs) ∧ kvs.map (·.1) = ns.map Sum.inl ∧
  ∀ (ys : List Int) (p : Addr), ys.Perm ns → ys.Pairwise (· ≤ ·) → H p = none → Q (.ref p) (upd H p (.lst (ys.map V.int)))
theorem cr_sortDI {X : Cx} (hcalm : X.calm = true) : CallR X (.builtin "sorted") rSortDI := by
  intro pins sh σ H zs us Q I r q
  obtain ⟨ad, kvs, ns, rfl, hd, hks, q⟩ := q
  obtain ⟨u, rfl, rx⟩ := vals1 r
  obtain rfl : u = Value.ref ad := rx
  obtain ⟨zl, lo, vs, rel, dd⟩ := dk_rd I.hok hd
  obtain ⟨ep, hat⟩ := dd.dictAt
  have hk2 : vs.map (·.1) = ns.map Sum.inl := rel.keys.symm.trans hks
  have hl : vs.length = ns.length := by simpa using congrArg List.length hk2
  have hzl : vs.length ≤ sizeLine := by rw [← rel.length]; exact zl
  refine Calls.call_function_entry PyProof.Rows.kind_sorted PyProof.Rows.plain_sorted
    PyProof.Rows.entry_sorted (PyProof.Rows.args_sorted1 _) ?_
  unfold Builtin.«sorted»
  refine wpAny_bind (m := checkCount "sorted" 1 1 _) (wpAny_pure (wpAny_bind (PySem.W.kdu_collect (A := X.A.in1) (PySem.W.kdl_dict (knd := mixKind X.prog X.w) (kvs := vs) (ep := ep) lo) (I.ok.hd hcalm) hat hzl fun h' tk acc keep items => ?_)))
  have la : acc.toList.length = ns.length := by rw [Array.length_toList, items.1, hl]
  have hint : IntsAre acc.toList ns := ints_each la fun j v e => by
    obtain ⟨k, x, e1, e2⟩ := items.2 j v (by rw [← Array.getElem?_toList]; exact e)
    have e3 : (ns.map Sum.inl)[j]? = some k := by rw [← hk2, List.getElem?_map, e1]; rfl
    rw [List.getElem?_map] at e3
    obtain ⟨y, e4, rfl⟩ := Option.map_eq_some_iff.mp e3
    rcases keyIs_shape (show keyIs (Sum.inl y) v = true from e2) with ⟨i, t, ek, ev⟩ | ⟨_, _, ek, _⟩
    · cases ek; exact ⟨y, t, e4, ev⟩
    · cases ek
  have I1 : Inv X pins σ H { sh with heap := h', toks := tk } := I.kept keep
  refine wpAny_bind (wpAny_newList ?_ (by rw [la, ← hl]; exact hzl))
  have hob : (h'.push (seqObj "list" acc.toList.toArray 0)).get? h'.objs.size = some (seqObj "list" acc.toList.toArray 0) := Heap.get?_push_size _ rfl
  show wpAny _ _ _ _ _ { sh with heap := h'.push (seqObj "list" acc.toList.toArray 0), toks := tk }
  refine wpAny_bind (wpAny_holding (wpAny_call_entry PyProof.Rows.slot_list_sort ⟨_, hob, rfl⟩ PyProof.Rows.entry_list_sort
    (SrtO.list_sort_ord SrtO.swo_int (s := { sh with heap := h'.push (seqObj "list" acc.toList.toArray 0), toks := tk }) hob (by rw [la, ← hl]; exact hzl) (fun h2 => SrtO.ints_sortable hint h2) fun ou g1 g2 => ⟨_, rfl, ?_⟩) (PyProof.Rows.args_list_sort _)))
  obtain ⟨k1, k2, k3⟩ := SrtO.ints_out hint g1 g2
  obtain ⟨ep2, hout⟩ := PyProof.Rows.sortedHeap_at (vs := acc.toList) (out := ou.toArray) hob
  have hlo : ((ou.map SrtO.iv).map V.int).length ≤ sizeLine := by
    rw [List.length_map, k2.length_eq, ← hl]; exact hzl
  refine wpAny_pure ⟨_, rfl, .ref h'.objs.size, upd H h'.objs.size (.lst ((ou.map SrtO.iv).map V.int)), I1.laid (t' := tk) (fun ba o e => ?_) (Nat.le_refl _) ⟨hlo, ou, ep2, vals_of_ints k1, hout⟩, rfl, q _ _ k2 k3 (I1.hok.fresh (Nat.le_refl _))⟩
  have hb : ba < h'.objs.size := Heap.lt_size e
  rw [PyProof.Rows.sortedHeap_old (Nat.ne_of_lt hb) (by rw [size_push']; exact Nat.lt_succ_of_lt hb)]
  exact Heap.get?_push_of_some _ (by exact e)
theorem cd_dsort {K : KW} : CallD K gDSort rSortDI := by
  intro F H xs ds A Q' Q hs r w k
  unfold gDSort at w
  split at w
  · rename_i o ks es
    obtain ⟨ns, rfl, w⟩ := w
    obtain ⟨v, rfl, r1⟩ := reps1 r
    obtain ⟨a, vs, C, rfl, h1, h2, h3⟩ := rep_dct hs r1
    refine ⟨a, _, ns, rfl, h1, zip_keys h2, fun ys p g1 g2 hp => ?_⟩
    exact k.lst (w ys g1 g2) (Reps.of_ints ys) p hp
  · exact w.elim
/-! == of dicts -/
def hitsD (js : List Key) (es : List D) : List Key → List D → Bool
  | k :: ks, d :: ds => match lookD js es k with
    | some e => eqD d e && hitsD js es ks ds
    | none => false
  | _, _ => true
def eqDct (ks : List Key) (ds : List D) (js : List Key) (es : List D) : Bool := ks.length == js.length && hitsD js es ks ds
def gDEq : G2
  | .dct _ (.k ks) ds, .dct _ (.k js) es, Q => (∀ d ∈ ds, shD d = true) ∧ (∀ d ∈ es, shD d = true) ∧ Q (.bl (eqDct ks ds js es))
  | _, _, _ => False
def gDNe : G2
  | .dct _ (.k ks) ds, .dct _ (.k js) es, Q => (∀ d ∈ ds, shD d = true) ∧ (∀ d ∈ es, shD d = true) ∧ Q (.bl (!eqDct ks ds js es))
  | _, _, _ => False
theorem gDEq_is {o o2 : Bool} {ks js : List Key} {ds es : List D} {Q : D → Prop} : gDEq (.dct o (.k ks) ds) (.dct o2 (.k js) es) Q = ((∀ d ∈ ds, shD d = true) ∧ (∀ d ∈ es, shD d = true) ∧ Q (.bl (eqDct ks ds js es))) := rfl
theorem gDNe_is {o o2 : Bool} {ks js : List Key} {ds es : List D} {Q : D → Prop} : gDNe (.dct o (.k ks) ds) (.dct o2 (.k js) es) Q = ((∀ d ∈ ds, shD d = true) ∧ (∀ d ∈ es, shD d = true) ∧ Q (.bl (!eqDct ks ds js es))) := rfl
/-- alike data at two values -/
def AtV (K : PySem.W.Frag) (H : Hp) (v y : V) (e : Bool) : Prop := ∃ da db, Dp K H v da ∧ Dp K H y db ∧ SeqAt.shaped da = true ∧ SeqAt.shaped db = true ∧ e = PyData.eqv da db
def HitsV (K : PySem.W.Frag) (H : Hp) (ky : List (Key × V)) : List (Key × V) → Bool → Prop
  | [], r => r = true
  | p :: l, r => (valV ky p.1 = none ∧ r = false) ∨ ∃ y e b, valV ky p.1 = some y ∧ AtV K H p.2 y e ∧ HitsV K H ky l b ∧ r = (e && b)
def rDEqV (K : PySem.W.Frag) (f : Bool → Bool) : R2 := fun x y H Q => ∃ a b kx ky r, x = .ref a ∧ y = .ref b ∧ Rd H a (.dK kx) ∧ Rd H b (.dK ky) ∧ HitsV K H ky kx r ∧ Q (.bl (f (kx.length == ky.length && r))) H
theorem hits_of {X : Cx} {pins : List (Addr × Obj)} {σ : L2.St} {H : Hp} {s : Shared} (hu : X.A.in1.units + 64 < cLine) (I : Inv X pins σ H s) {ky : List (Key × V)} {vy : List (Key × Value)} (ry : KV ky vy) : ∀ {kx : List (Key × V)} {vx : List (Key × Value)} {r : Bool}, KV kx vx → HitsV X.K H ky kx r → PySem.W.KeqHits X.A.in1 s vy vx r
  | _, _, _, .nil, h => by
    obtain rfl := h
    exact .nil
  | p :: kx, q :: vx, r, .cons e t, h => by
    obtain ⟨k, v⟩ := p
    obtain ⟨k', u⟩ := q
    obtain ⟨e1, e2⟩ := e
    obtain rfl : k = k' := e1
    have look := ry.val k
    rcases h with ⟨n, rfl⟩ | ⟨y, e, b, n, ⟨da, db, d1, d2, s1, s2, rfl⟩, h2, rfl⟩
    · rw [n] at look
      cases z : valueAt vy k with
      | none => exact .miss z
      | some w => rw [z] at look; exact look.elim
    · rw [n] at look
      cases z : valueAt vy k with
      | none => rw [z] at look; exact look.elim
      | some w =>
        rw [z] at look
        obtain ⟨as, g1⟩ := Dp.reads I da v u d1 e2
        obtain ⟨bs, g2⟩ := Dp.reads I db y w d2 look
        exact .hit z (PySem.W.keq_at (A := X.A) g1 g2 s1 s2 hu) (hits_of hu I ry t h2)
theorem op_deq {X : Cx} (hu : X.A.units + 65 < cLine) : OpR X (compareOp .Eq) (rDEqV X.K fun b => b) := by
  intro pins s σ H x y va1 va2 Q I rx ry h
  obtain ⟨a, b, kx, ky, r, rfl, rfl, ha, hb, hh, q⟩ := h
  obtain rfl : va1 = Value.ref a := rx
  obtain rfl : va2 = Value.ref b := ry
  obtain ⟨_, la, va, ra, da⟩ := dk_rd I.hok ha
  obtain ⟨_, lb, vb, rb, db⟩ := dk_rd I.hok hb
  refine PySem.W.keq_eq (knd := mixKind X.prog X.w) la lb da db (by omega) (fun _ => hits_of (by simp only [Around.in1_units]; omega) I rb ra hh) ⟨.bl (kx.length == ky.length && r), H, I, ?_, q⟩
  rw [ra.length, rb.length]; rfl
theorem op_dne {X : Cx} (hu : X.A.units + 65 < cLine) : OpR X (compareOp .NotEq) (rDEqV X.K fun b => !b) := by
  intro pins s σ H x y va1 va2 Q I rx ry h
  obtain ⟨a, b, kx, ky, r, rfl, rfl, ha, hb, hh, q⟩ := h
  obtain rfl : va1 = Value.ref a := rx
  obtain rfl : va2 = Value.ref b := ry
  obtain ⟨_, la, va, ra, da⟩ := dk_rd I.hok ha
  obtain ⟨_, lb, vb, rb, db⟩ := dk_rd I.hok hb
  refine PySem.W.keq_ne (knd := mixKind X.prog X.w) la lb da db (by omega) (fun _ => hits_of (by simp only [Around.in1_units]; omega) I rb ra hh) ⟨.bl (!(kx.length == ky.length && r)), H, I, ?_, q⟩
  rw [ra.length, rb.length]; rfl
theorem hitsV_of {K : KW} {F H : Hp} (hs : Ex F H) {js : List Key} {us : List V} {es : List D} {B : List Addr} (re : Reps K F H us es B) (se : ∀ d ∈ es, shD d = true) : ∀ {ks : List Key} {vs : List V} {ds : List D} {A : List Addr}, ks.length = vs.length → Reps K F H vs ds A → (∀ d ∈ ds, shD d = true) → HitsV K H (js.zip us) (ks.zip vs) (hitsD js es ks ds)
  | [], vs, ds, _, _, _, _ => by
    rw [List.zip_nil_left]
    show hitsD js es [] ds = true
    cases ds <;> rfl
  | k :: ks, [], _, _, h, _, _ => by simp at h
  | k :: ks, v :: vs, _, _, h, .cons (d := d) (ds := ds) h1 r1 e, sd => by
    rw [List.zip_cons_cons]
    have sx := sd d List.mem_cons_self
    unfold shD at sx
    rw [Bool.and_eq_true] at sx
    cases z : lookD js es k with
    | none =>
      refine .inl ⟨look_none re z, ?_⟩
      show (match lookD js es k with | some e => eqD d e && hitsD js es ks ds | none => false) = false
      rw [z]
    | some e2 =>
      obtain ⟨u, C, g1, g2⟩ := look_some re z
      obtain ⟨e3, h3, h4⟩ : ∃ x, lookD js es k = some x ∧ x ∈ es := by
        have hm : k ∈ js := by
          by_cases c : k ∈ js
          · exact c
          · rw [lookD_none c] at z; cases z
        refine ⟨e2, z, ?_⟩
        clear g1 g2 sx
        induction js generalizing es us B with
        | nil => simp at hm
        | cons j js ih =>
          cases es with
          | nil => simp [lookD] at z
          | cons e0 es =>
            rw [lookD] at z
            by_cases c : j = k
            · rw [if_pos c] at z; cases z; exact List.mem_cons_self
            · rw [if_neg c] at z
              cases re with
              | cons r0 rr ee =>
                exact List.mem_cons_of_mem _ (ih rr (fun d hd => se d (List.mem_cons_of_mem _ hd)) z (by
                  by_cases c2 : k ∈ js
                  · exact c2
                  · rw [lookD_none c2] at z; cases z))
      rw [z] at h3; cases h3
      have sy := se e2 h4
      unfold shD at sy
      rw [Bool.and_eq_true] at sy
      refine .inr ⟨u, eqD d e2, _, g1, ⟨py d, py e2, h1.dp hs sx.1, g2.dp hs sy.1, sx.2, sy.2, rfl⟩, hitsV_of hs re se (by simpa using h) r1 fun d hd => sd d (List.mem_cons_of_mem _ hd), ?_⟩
      show (match lookD js es k with | some e => eqD d e && hitsD js es ks ds | none => false) = _
      rw [z]
theorem opd_deqG {K : KW} {F H : Hp} {x y : V} {o o2 : Bool} {ks js : List Key} {ds es : List D} {A B : List Addr} {Q : VK} (f : Bool → Bool) (hs : Ex F H) (rx : Rep K F H x (.dct o (.k ks) ds) A) (ry : Rep K F H y (.dct o2 (.k js) es) B) (w1 : ∀ d ∈ ds, shD d = true) (w2 : ∀ d ∈ es, shD d = true) (q : Q (.bl (f (eqDct ks ds js es))) H) : rDEqV K f x y H Q := by
  obtain ⟨a, vs, C, rfl, h1, h2, h3⟩ := rep_dct hs rx
  obtain ⟨b, us, C2, rfl, g1, g2, g3⟩ := rep_dct hs ry
  refine ⟨a, b, _, _, _, rfl, rfl, h1, g1, hitsV_of hs g3 w2 h2 h3 w1, ?_⟩
  have l1 : (ks.zip vs).length = ks.length := by rw [List.length_zip]; have : ks.length = vs.length := h2; omega
  have l2 : (js.zip us).length = js.length := by rw [List.length_zip]; have : js.length = us.length := g2; omega
  rw [l1, l2]
  exact q
theorem opd_deq {K : KW} : OpD K gDEq (rDEqV K fun b => b) := by
  intro F H x y dx dy A B Q' Q hs rx ry w k
  unfold gDEq at w
  split at w
  · obtain ⟨w1, w2, q⟩ := w
    exact opd_deqG _ hs rx ry w1 w2 (k.same q (.bl _))
  · exact w.elim
theorem opd_dne {K : KW} : OpD K gDNe (rDEqV K fun b => !b) := by
  intro F H x y dx dy A B Q' Q hs rx ry w k
  unfold gDNe at w
  split at w
  · obtain ⟨w1, w2, q⟩ := w
    exact opd_deqG _ hs rx ry w1 w2 (k.same q (.bl _))
  · exact w.elim
/-! sorted(xs), any data -/
open PySem.W (AllAlike Sortable dataLe EachIs)
def gSortG : GC
  | [.lst _ ds], Q => (∀ d ∈ ds, shD d = true) ∧ AllAlike (ds.map py) ∧ Sortable (ds.map py) ∧ dirtys ds = false ∧ Q (.lst true (ds.mergeSort (dataLe false py)))
  | _, _ => False
def rSortG (K : PySem.W.Frag) : List V → Hp → VK → Prop := fun vs H Q => ∃ (a : Addr) (xs : List V) (bs : List D), vs = [V.ref a] ∧ SqL K H a xs ∧ xs.length = bs.length ∧ (∀ (i : Nat) x b, xs[i]? = some x → bs[i]? = some b → Dp K H x (py b)) ∧ (∀ d ∈ bs, shD d = true) ∧ AllAlike (bs.map py) ∧ Sortable (bs.map py) ∧
  ∀ ys p, Paired (fun y b => ∃ i : Nat, xs[i]? = some y ∧ bs[i]? = some b) ys (bs.mergeSort (dataLe false py)) → H p = none → Q (.ref p) (upd H p (.lst ys))
theorem each_of {xs : List V} {us : List Value} {bs : List D} {R : Value → D → Prop} (r : Vals xs us) (hl : xs.length = bs.length) (h : ∀ (i : Nat) x u b, xs[i]? = some x → us[i]? = some u → bs[i]? = some b → RelV x u → R u b) : EachIs R us bs := by
  induction r generalizing bs with
  | nil =>
    cases bs with
    | nil => exact .nil
    | cons b bs => simp at hl
  | @cons x u xs us r t ih =>
    cases bs with
    | nil => simp at hl
    | cons b bs => exact .cons (h 0 x u b rfl rfl rfl r) (ih (by simpa using hl) fun i x u b e1 e2 e3 => h (i + 1) x u b (by simpa using e1) (by simpa using e2) (by simpa using e3))
theorem each_back {xs : List V} {bs : List D} : ∀ {us : List Value} {cs : List D}, EachIs (fun u b => ∃ x, RelV x u ∧ ∃ i : Nat, xs[i]? = some x ∧ bs[i]? = some b) us cs → ∃ ys, Vals ys us ∧ Paired (fun y b => ∃ i : Nat, xs[i]? = some y ∧ bs[i]? = some b) ys cs
  | _, _, .nil => ⟨[], .nil, .nil⟩
  | _, _, .cons ⟨x, r, i⟩ t => by
    obtain ⟨ys, h1, h2⟩ := each_back t
    exact ⟨x :: ys, .cons r h1, .cons i h2⟩
theorem cr_sortG {X : Cx} (hu : X.A.units + 66 < cLine) : CallR X (.builtin "sorted") (rSortG X.K) := by
  intro pins s σ H zs us Q I r h
  obtain ⟨a, xs, bs, rfl, hs, hl, hx, hsh, hal, hso, q⟩ := h
  obtain ⟨ims, rv, pl, hz⟩ := I.list hs
  rw [Vals.ref1 r]
  refine PySem.W.sorted_data (enc := py) (R := fun u b => ∃ x, RelV x u ∧ ∃ i : Nat, xs[i]? = some x ∧ bs[i]? = some b) pl.isList (each_of rv hl fun i x u b e1 e2 e3 e4 => ⟨x, e4, i, e1, e3⟩) (each_of rv hl fun i x u b e1 e2 e3 e4 => Dp.reads I (py b) x u (hx i x b e1 e3) e4) hal hso (by rw [← hl]; exact hz) (fun b hb => ?_) fun out hlen e => ?_
  · have := hsh b hb
    unfold shD at this
    rw [Bool.and_eq_true] at this
    have := SeqAt.depth_of_shaped this.2
    omega
  · obtain ⟨ys, h1, h2⟩ := each_back e
    obtain ⟨ep, hout⟩ := PyProof.Rows.sortedAll_at s.heap ims out.toArray
    have hly : ys.length ≤ sizeLine := by
      rw [h1.length, hlen, ← hl]; exact hz
    exact ⟨.ref _, upd H (s.heap.objs.size + 1) (.lst ys), I.laid (t' := s.toks) (fun _ _ => PyProof.Rows.sortedAll_old) (Nat.le_succ _) ⟨hly, out, ep, h1, hout⟩, rfl, q ys _ h2 (I.hok.fresh (Nat.le_succ _))⟩
theorem paired_at {α β : Type} {R : α → β → Prop} : ∀ {l : List α} {m : List β}, Paired R l m → l.length = m.length ∧ ∀ (i : Nat) a b, l[i]? = some a → m[i]? = some b → R a b
  | _, _, .nil => ⟨rfl, fun i a b h => by simp at h⟩
  | _, _, .cons r t => by
    obtain ⟨h1, h2⟩ := paired_at t
    refine ⟨by simp [h1], fun i a b e1 e2 => ?_⟩
    cases i with
    | zero => simp at e1 e2; subst e1 e2; exact r
    | succ i => exact h2 i a b (by simpa using e1) (by simpa using e2)
theorem cd_sortG {K : KW} : CallD K gSortG (rSortG K) := by
  intro F H xs ds A Q' Q hs r w k
  unfold gSortG at w
  split at w
  · rename_i o es
    obtain ⟨w1, w2, w3, w4, w⟩ := w
    obtain ⟨v, rfl, r1⟩ := reps1 r
    obtain ⟨a, vs, B, rfl, h1, r2⟩ := rep_asL1 hs r1 rfl
    have := r2.clean w4
    subst this
    refine ⟨a, vs, es, rfl, h1, r2.length, fun i x b e1 e2 => ?_, w1, w2, w3, fun ys p hp hn => ?_⟩
    · have sx := w1 b (List.mem_of_getElem? e2)
      unfold shD at sx
      rw [Bool.and_eq_true] at sx
      exact (r2.clean_get e1 e2).dp hs sx.1
    · obtain ⟨l1, l2⟩ := paired_at hp
      refine k.lst w (Reps.of_clean l1 fun i v d e1 e2 => ?_) p hn
      obtain ⟨j, e3, e4⟩ := l2 i v d e1 e2
      exact r2.clean_get e3 e4
  · exact w.elim
/-! d.pop(k), a whole number -/
def dropDs : List Key → List D → Key → List D
  | k :: ks, d :: ds, j => if k = j then dropDs ks ds j else d :: dropDs ks ds j
  | _, _, _ => []
def dropKs (ks : List Key) (j : Key) : List Key := ks.filter fun k => decide (k ≠ j)
theorem dropDs_len : ∀ {ks : List Key} {ds : List D} (j : Key), ks.length = ds.length → (dropKs ks j).length = (dropDs ks ds j).length
  | [], ds, j, h => by
    cases ds with
    | nil => rfl
    | cons _ _ => simp at h
  | _ :: _, [], _, h => by simp at h
  | k :: ks, d :: ds, j, h => by
    have ih := dropDs_len (ks := ks) (ds := ds) j (by simpa using h)
    unfold dropKs at ih ⊢
    rw [List.filter_cons, dropDs]
    by_cases c : k = j
    · rw [if_pos c, if_neg (by simp [c])]; exact ih
    · rw [if_neg c, if_pos (by simp [c]), List.length_cons, List.length_cons, ih]
theorem reps_drop {K : KW} {F H : Hp} (j : Key) : ∀ {ks : List Key} {vs : List V} {ds : List D}, ks.length = vs.length → Reps K F H vs ds [] → ∃ vs', dropK (ks.zip vs) j = (dropKs ks j).zip vs' ∧ (dropKs ks j).length = vs'.length ∧ Reps K F H vs' (dropDs ks ds j) []
  | [], vs, ds, h, r => by
    cases r with
    | nil => exact ⟨[], rfl, rfl, .nil⟩
    | cons _ _ _ => exact absurd h (by simp)
  | k :: ks, [], _, h, _ => by simp at h
  | k :: ks, v :: vs, _, h, .cons (d := d) (ds := ds) (A := A) (B := B) h1 r1 e => by
    have e2 := List.nil_eq_append_iff.mp e
    rw [e2.1] at h1
    rw [e2.2] at r1
    obtain ⟨vs', g1, g2, g3⟩ := reps_drop j (ks := ks) (by simpa using h) r1
    unfold dropK at g1 ⊢
    unfold dropKs at g1 g2 ⊢
    rw [List.zip_cons_cons, List.filter_cons, List.filter_cons, dropDs]
    by_cases c : k = j
    · refine ⟨vs', ?_, ?_, ?_⟩
      · rw [if_neg (by simp [c]), if_neg (by simp [c])]; exact g1
      · rw [if_neg (by simp [c])]; exact g2
      · rw [if_pos c]; exact g3
    · refine ⟨v :: vs', ?_, ?_, ?_⟩
      · rw [if_pos (by simp [c]), if_pos (by simp [c]), g1]; rfl
      · rw [if_pos (by simp [c]), List.length_cons, List.length_cons, g2]
      · rw [if_neg c]; exact .cons h1 g3 rfl
def wDPopS (i : Nat) (wk : WE) : WS := fun P px env => atDct i env fun _ _ => wk px env fun y _ env2 => atDct i env2 fun kd ds => match kd, keyOf y with
  | .k ks, some k => dirtys ds = false ∧ k ∈ ks ∧ P.nx (env2.set i (some (.dct true (.k (dropKs ks k)) (dropDs ks ds k))))
  | _, _ => False
theorem look_in {ks : List Key} {vs : List V} {k : Key} (h : ks.length = vs.length) (hk : k ∈ ks) : ∃ v, valV (ks.zip vs) k = some v := by
  have : k ∈ (ks.zip vs).map (·.1) := by rw [zip_keys h]; exact hk
  obtain ⟨p, hp, e⟩ := List.mem_map.mp this
  cases z : valV (ks.zip vs) k with
  | some v => exact ⟨v, rfl⟩
  | none =>
    have q := valV_any k (ks.zip vs)
    rw [z] at q
    have := List.any_eq_false.mp q p hp
    simp [e] at this
theorem simS_dpop {K : KW} {E : EX} {i : Nat} {wk : WE} {tk : TE} (hk : Sim K E wk tk) : SimS K E (wDPopS i wk) (tDrop (tDPop1 (tVar i) tk)) := by
  intro px F0 H0 F H σ env pv pd L S P D w k
  obtain ⟨kd0, ds0, e0, w⟩ := atDct_is w
  obtain ⟨a0, vs0, A0, ea, ha, _, _, _⟩ := S.mutD e0
  refine ⟨.ref a0, ea, a0, rfl, isD_of (.inl ha), ?_⟩
  refine hk px F0 H0 F H σ env pv pd L S _ _ w fun kk bk env2 kv F2 H2 w3 eF2 eH2 R2 => ?_
  obtain ⟨⟨A2, rk⟩, S2⟩ := R2.forget
  obtain ⟨kd, ds, e1, w3⟩ := atDct_is w3
  split at w3
  · rename_i ks key hkey
    obtain ⟨w4, w5, w6⟩ := w3
    obtain ⟨a, vs, A', es', hq, hl, ra, back⟩ := S2.mutD e1
    rw [ea] at es'; cases es'
    have hl : ks.length = vs.length := hl
    have c1 := ra.clean w4
    subst c1
    have ek : kv = kV key := by
      cases kk with
      | int z => cases hkey; exact rep_int rk
      | str z => cases hkey; exact rep_str rk
      | _ => cases hkey
    obtain ⟨v, hv⟩ := look_in hl w5
    obtain ⟨vs', g1, g2, g3⟩ := reps_drop key hl ra
    refine ⟨ks.zip vs, key, v, hq, ek, hv, ?_⟩
    rw [g1]
    exact k.nx _ _ _ _ w6 (back (.k (dropKs ks key)) vs' _ g2 g3)
  · exact w3.elim
section
variable {X : Cx} {E : EX} {i : Nat} {x : Str} {kx : Expr} {wk : WE} {npos apos cpos pos : Pos}
theorem s_dpop (hk : DE X E kx wk)
    (hN : X.N[i]? = some x := by rfl) (hv : Vis X.env.scope x := by first | exact Or.inl rfl | exact Or.inr (Or.inl rfl) | exact Or.inr (Or.inr rfl)) (hd : (x == ("__debug__" : Str)) = false := by decide) (hcd : (x == ("__classdict__" : Str)) = false := by decide)
    (m : M1 X (.Name x npos) "pop" apos kx cpos := by exact ⟨rfl, rfl, rfl, rfl⟩)
    (hsw : swapsWith (.Call (.Attribute (.Name x npos) "pop" apos) [kx] [] cpos) none pos.line X.env = pure false := by rfl) :
    DS X E (.Expr (.Call (.Attribute (.Name x npos) "pop" apos) [kx] [] cpos) pos) (wDPopS i wk) := by
  obtain ⟨tk, pk, sk⟩ := hk.ex
  exact ⟨_, ps_expr (pe_dpop1 (pe_var hN hv hd hcd) pk m) hsw, simS_dpop sk⟩
end
end Tm

set_option Elab.async false
set_option linter.all false
set_option maxRecDepth 100000
set_option maxHeartbeats 1000000
namespace Tm
open PySem PySem.Spec PyProof.Rows L2 RZ
open PySem.Sem (wp)

/-! ### zip of a tuple with a list, or of any two of these -/
def ItB (t : Bool) (h : Heap) (it l : Addr) (i : Nat) : Prop := match t with
  | true => h.IsTupleIter it l i
  | false => h.IsListIter it l i
def HsB (t : Bool) (h : Heap) (l : Addr) (xs : Array Value) : Prop := match t with
  | true => h.IsTuple l xs
  | false => h.IsList l xs
theorem ItB.mv {t : Bool} {h h' : Heap} {it l b : Addr} {i : Nat} (x : ItB t h it l i) (e : Heap.ExtBut b h h') (n : it ≠ b) : ItB t h' it l i := by
  cases t with
  | true => exact Heap.IsTupleIter.extBut (show h.IsTupleIter it l i from x) e n
  | false => exact Heap.IsListIter.extBut (show h.IsListIter it l i from x) e n
theorem HsB.mv {t : Bool} {h h' : Heap} {l b : Addr} {xs : Array Value} (x : HsB t h l xs) (e : Heap.ExtBut b h h') (n : l ≠ b) : HsB t h' l xs := by
  cases t with
  | true => exact Heap.IsTuple.extBut (show h.IsTuple l xs from x) e n
  | false => exact Heap.IsList.extBut (show h.IsList l xs from x) e n
theorem ItB.keep {t : Bool} {h h' : Heap} {it l : Addr} {i : Nat} (x : ItB t h it l i) (e : ∀ o, h.get? it = some o → h'.get? it = some o) : ItB t h' it l i := by
  cases t with
  | true => exact Heap.IsTupleIter.at (show h.IsTupleIter it l i from x) e
  | false => exact Heap.IsListIter.at (show h.IsListIter it l i from x) e
theorem ItB.obj {t : Bool} {h : Heap} {it l : Addr} {i : Nat} (x : ItB t h it l i) : ∃ o, h.get? it = some o ∧ ∀ v, o.data ≠ .cell v := by
  cases t with
  | true => obtain ⟨o, e, _, d⟩ := (show h.IsTupleIter it l i from x); exact ⟨o, e, fun v q => by rw [d] at q; cases q⟩
  | false => obtain ⟨o, e, _, d⟩ := (show h.IsListIter it l i from x); exact ⟨o, e, fun v q => by rw [d] at q; cases q⟩
section
variable {w : World} {prog : Program} {A : Around} {E : Value → Shared → Prop} {s : Shared}
theorem nxB {t : Bool} {it l : Addr} {i : Nat} {xs : Array Value} {x : Value} {Q : Value → Shared → Prop} (hi : ItB t s.heap it l i) (hl : HsB t s.heap l xs) (hx : xs[i]? = some x)
    (k : ∀ h', ItB t h' it l (i + 1) → Heap.SameBut it s.heap h' → Q x { s with heap := h' }) : wpAny (model prog w) A (Builtin.SmallTypes.nextOf (.ref it)) Q E s := by
  cases t with
  | true => exact nextOf_tuple_item hi hl hx k
  | false => exact wpAny_nextOf_list_item hi hl hx k
theorem nxB_end {t : Bool} {it l : Addr} {i : Nat} {xs : Array Value} {Q : Value → Shared → Prop} (hh : A.handled = none) (hi : ItB t s.heap it l i) (hl : HsB t s.heap l xs) (hx : xs[i]? = none)
    (k : ∀ h' e, Heap.ExtBut it s.heap h' → (∃ o, h'.get? e = some o ∧ o.cls = .type "StopIteration") → E (.ref e) { s with heap := h' }) : wpAny (model prog w) A (Builtin.SmallTypes.nextOf (.ref it)) Q E s := by
  cases t with
  | true => exact nextOf_tuple_end hh hi hl hx k
  | false => exact wpAny_nextOf_list_end hh hi hl hx k

theorem zipB_item {t1 t2 : Bool} {g TI TO i j l m : Addr} {n1 n2 : Nat} {xs ys : Array Value} {x y a b : Value} {Q : Value → Shared → Prop} (D : ZipApart g TI TO i j l m)
    (hg : IsZip s.heap g TI TO .none) (gI : IsPair s.heap TI (.ref i) (.ref j)) (gO : IsPair s.heap TO a b)
    (p1 : ItB t1 s.heap i l n1) (p2 : ItB t2 s.heap j m n2) (q1 : HsB t1 s.heap l xs) (q2 : HsB t2 s.heap m ys) (ex : xs[n1]? = some x) (ey : ys[n2]? = some y)
    (k : ∀ h', IsZip h' g TI TO (rawInt s.heap.objs.size) → IsPair h' TO x y → ItB t1 h' i l (n1 + 1) → ItB t2 h' j m (n2 + 1) → IsPair h' s.heap.objs.size x y → h'.objs.size = s.heap.objs.size + 1 →
      (∀ c o, c ≠ g → c ≠ TO → c ≠ i → c ≠ j → s.heap.get? c = some o → h'.get? c = some o) → Q (.ref s.heap.objs.size) { s with heap := h' }) :
    wpAny (model prog w) A (Builtin.«zip.__next__» ⟨[.ref g], []⟩) (fun fin s' => ∃ v, fin = .done (.ret v) ∧ Q v s') E s := by
  show wpAny _ _ (field (.ref g) 2 >>= _) _ _ _
  refine wpAny_bind (wpAny_field hg rfl (x := .bool false) rfl ?_)
  show wpAny _ _ (field (.ref g) 3 >>= _) _ _ _
  refine wpAny_bind (wpAny_field hg rfl (x := .ref TI) rfl (wpAny_bind (wpAny_seqItems gI rfl ?_)))
  show wpAny _ _ (Builtin.SmallTypes.ownedTupleIsFree (.ref g) >>= _) _ _ _
  refine wpAny_bind ?_; unfold Builtin.SmallTypes.ownedTupleIsFree
  refine wpAny_bind (wpAny_field hg rfl (x := .none) rfl (wpAny_pure ?_))
  simp only [if_true]
  refine wpAny_bind (wpAny_rule ?_); refine wpAny_bind (wpAny_field hg rfl (x := .ref TO) rfl ?_)
  refine wpAny_bind (wpAny_setField_rec hg (by simp) fun a1 g1 e1 => ?_)
  replace g1 : IsZip a1 g TI TO .ellipsis := g1
  refine wpAny_bind ?_; simp only [List.zipIdx_cons, List.zipIdx_nil, List.forIn_cons, List.forIn_nil]
  refine wpAny_bind (wpAny_bind (wpAny_onRaise ?_)); show wpAny _ _ (Builtin.SmallTypes.nextOf (.ref i) >>= _) _ _ _
  refine wpAny_bind (nxB (p1.mv e1.extBut D.i1z) (q1.mv e1.extBut D.l1z) ex fun a2 p1' e2 => wpAny_pure ?_)
  have gO2 : IsPair a2 TO a b := e2.extBut _ _ D.TOi1 (e1.extBut _ _ D.TOz gO)
  refine wpAny_bind (wpAny_seqItems gO2 rfl (wpAny_bind (wpAny_updateSeq_pair gO2 fun a3 gO3 e3 => ?_)))
  replace gO3 : IsPair a3 TO x b := gO3
  refine wpAny_bind (wpAny_letGo (wpAny_pure (wpAny_bind (wpAny_bind (wpAny_onRaise ?_)))))
  show wpAny _ _ (Builtin.SmallTypes.nextOf (.ref j) >>= _) _ _ _
  refine wpAny_bind (nxB (((p2.mv e1.extBut D.i2z).mv e2.extBut D.i12.symm).mv e3.extBut D.TOi2.symm) (((q2.mv e1.extBut D.l2z).mv e2.extBut D.l2i1).mv e3.extBut D.l2TO) ey fun a4 p2' e4 => wpAny_pure ?_)
  have gO4 : IsPair a4 TO x b := e4.extBut _ _ D.TOi2 gO3
  refine wpAny_bind (wpAny_seqItems gO4 rfl (wpAny_bind (wpAny_updateSeq_pair gO4 fun a5 gO5 e5 => ?_)))
  replace gO5 : IsPair a5 TO x y := gO5
  refine wpAny_bind (wpAny_letGo (wpAny_pure (wpAny_pure (wpAny_bind (wpAny_seqItems gO5 rfl (wpAny_bind (wpAny_newTuple ?_)))))))
  have sz : a5.objs.size = s.heap.objs.size := by rw [e5.1, e4.1, e3.1, e2.1, e1.1]
  have g5 : IsZip a5 g TI TO .ellipsis := e5.extBut _ _ D.TOz.symm (e4.extBut _ _ D.i2z.symm (e3.extBut _ _ D.TOz.symm (e2.extBut _ _ D.i1z.symm g1)))
  have k5 : ∀ c o, c ≠ g → c ≠ TO → c ≠ i → c ≠ j → s.heap.get? c = some o → a5.get? c = some o := fun c o c1 c2 c3 c4 e =>
    e5.extBut _ _ c2 (e4.extBut _ _ c4 (e3.extBut _ _ c2 (e2.extBut _ _ c3 (e1.extBut _ _ c1 e))))
  have p15 : ItB t1 a5 i l (n1 + 1) := ((p1'.mv e3.extBut D.TOi1.symm).mv e4.extBut D.i12).mv e5.extBut D.TOi1.symm
  have p25 : ItB t2 a5 j m (n2 + 1) := p2'.mv e5.extBut D.TOi2.symm
  have glt : g < a5.objs.size := Heap.lt_size g5
  show wpAny _ _ (Builtin.SmallTypes.ownedTupleHandOut (.ref g) (.ref a5.objs.size) >>= _) _ _ _
  refine wpAny_bind ?_; unfold Builtin.SmallTypes.ownedTupleHandOut
  have g6 : IsZip (a5.push { cls := .type "tuple", data := .seq #[x, y] }) g TI TO .ellipsis := Heap.get?_push_of_some _ g5
  refine wpAny_bind (wpAny_setField_rec g6 (by simp) fun a7 g7 e7 => ?_)
  replace g7 : IsZip a7 g TI TO (rawInt a5.objs.size) := g7
  refine wpAny_setField_rec g7 (by simp) fun a8 g8 e8 => ?_
  replace g8 : IsZip a8 g TI TO (rawInt a5.objs.size) := g8
  have up8 : ∀ c o, c ≠ g → a5.get? c = some o → a8.get? c = some o := fun c o c1 e => e8.extBut _ _ c1 (e7.extBut _ _ c1 (Heap.get?_push_of_some _ e))
  have T8 : IsPair a8 a5.objs.size x y := e8.extBut _ _ (Nat.ne_of_gt glt) (e7.extBut _ _ (Nat.ne_of_gt glt) (Heap.get?_push_size _ rfl))
  have s8 : a8.objs.size = a5.objs.size + 1 := by rw [e8.1, e7.1, Heap.size_push]
  rw [sz] at g8 T8 s8
  refine wpAny_pure ⟨_, rfl, ?_⟩; show Q (.ref a5.objs.size) _; rw [sz]
  exact k a8 g8 (up8 _ _ D.TOz gO5) (p15.keep fun o e => up8 _ o D.i1z e) (p25.keep fun o e => up8 _ o D.i2z e) T8 s8 fun c o c1 c2 c3 c4 e => up8 c o c1 (k5 c o c1 c2 c3 c4 e)
theorem zipB_end {t1 t2 : Bool} {g TI TO i j l m : Addr} {n1 n2 : Nat} {xs ys : Array Value} {a b : Value} {Q : Fin → Shared → Prop} (hh : A.handled = none) (D : ZipApart g TI TO i j l m)
    (hg : IsZip s.heap g TI TO .none) (gI : IsPair s.heap TI (.ref i) (.ref j)) (gO : IsPair s.heap TO a b)
    (p1 : ItB t1 s.heap i l n1) (p2 : ItB t2 s.heap j m n2) (q1 : HsB t1 s.heap l xs) (q2 : HsB t2 s.heap m ys) (en : xs[n1]? = none ∨ ys[n2]? = none)
    (k : ∀ h' e, (∀ c o, c ≠ g → c ≠ TO → c ≠ i → c ≠ j → s.heap.get? c = some o → h'.get? c = some o) → (∃ o, h'.get? e = some o ∧ o.cls = .type "StopIteration") → E (.ref e) { s with heap := h' }) :
    wpAny (model prog w) A (Builtin.«zip.__next__» ⟨[.ref g], []⟩) Q E s := by
  show wpAny _ _ (field (.ref g) 2 >>= _) _ _ _
  refine wpAny_bind (wpAny_field hg rfl (x := .bool false) rfl ?_)
  show wpAny _ _ (field (.ref g) 3 >>= _) _ _ _
  refine wpAny_bind (wpAny_field hg rfl (x := .ref TI) rfl (wpAny_bind (wpAny_seqItems gI rfl ?_)))
  show wpAny _ _ (Builtin.SmallTypes.ownedTupleIsFree (.ref g) >>= _) _ _ _
  refine wpAny_bind ?_; unfold Builtin.SmallTypes.ownedTupleIsFree
  refine wpAny_bind (wpAny_field hg rfl (x := .none) rfl (wpAny_pure ?_))
  simp only [if_true]
  refine wpAny_bind (wpAny_rule ?_); refine wpAny_bind (wpAny_field hg rfl (x := .ref TO) rfl ?_)
  refine wpAny_bind (wpAny_setField_rec hg (by simp) fun a1 g1 e1 => ?_)
  replace g1 : IsZip a1 g TI TO .ellipsis := g1
  refine wpAny_bind ?_; simp only [List.zipIdx_cons, List.zipIdx_nil, List.forIn_cons, List.forIn_nil]
  refine wpAny_bind (wpAny_bind (wpAny_onRaise ?_)); show wpAny _ _ (Builtin.SmallTypes.nextOf (.ref i) >>= _) _ _ _
  cases ex : xs[n1]? with
  | none =>
    refine wpAny_bind (nxB_end hh (p1.mv e1.extBut D.i1z) (q1.mv e1.extBut D.l1z) ex fun a2 e e2 he => ?_)
    obtain ⟨oe, he1, he2⟩ := he
    have g2 : IsZip a2 g TI TO .ellipsis := e2 _ _ D.i1z.symm g1
    have ne : e ≠ g := fun z => by subst z; rw [g2] at he1; cases he1; simp at he2
    refine wpAny_setField_rec g2 (by simp) fun a3 _ e3 => k a3 e (fun c o c1 _ c3 _ z => e3.extBut _ _ c1 (e2 _ _ c3 (e1.extBut _ _ c1 z))) ⟨oe, e3.extBut _ _ ne he1, he2⟩
  | some x =>
    have ey : ys[n2]? = none := by rcases en with z | z; rw [ex] at z; cases z; exact z
    refine wpAny_bind (nxB (p1.mv e1.extBut D.i1z) (q1.mv e1.extBut D.l1z) ex fun a2 p1' e2 => wpAny_pure ?_)
    have gO2 : IsPair a2 TO a b := e2.extBut _ _ D.TOi1 (e1.extBut _ _ D.TOz gO)
    refine wpAny_bind (wpAny_seqItems gO2 rfl (wpAny_bind (wpAny_updateSeq_pair gO2 fun a3 gO3 e3 => ?_)))
    refine wpAny_bind (wpAny_letGo (wpAny_pure (wpAny_bind (wpAny_bind (wpAny_onRaise ?_)))))
    show wpAny _ _ (Builtin.SmallTypes.nextOf (.ref j) >>= _) _ _ _
    refine wpAny_bind (nxB_end hh (((p2.mv e1.extBut D.i2z).mv e2.extBut D.i12.symm).mv e3.extBut D.TOi2.symm) (((q2.mv e1.extBut D.l2z).mv e2.extBut D.l2i1).mv e3.extBut D.l2TO) ey fun a4 e e4 he => ?_)
    obtain ⟨oe, he1, he2⟩ := he
    have g4 : IsZip a4 g TI TO .ellipsis := e4 _ _ D.i2z.symm (e3.extBut _ _ D.TOz.symm (e2.extBut _ _ D.i1z.symm g1))
    have ne : e ≠ g := fun z => by subst z; rw [g4] at he1; cases he1; simp at he2
    refine wpAny_setField_rec g4 (by simp) fun a5 _ e5 => k a5 e (fun c o c1 c2 c3 c4 z => e5.extBut _ _ c1 (e4 _ _ c4 (e3.extBut _ _ c2 (e2.extBut _ _ c3 (e1.extBut _ _ c1 z))))) ⟨oe, e5.extBut _ _ ne he1, he2⟩
theorem nextB {t1 t2 : Bool} {g TI TO i j l m : Addr} {n1 n2 : Nat} {xs ys : Array Value} {x y a b : Value} {Q : Option Value → Shared → Prop} (D : ZipApart g TI TO i j l m)
    (hg : IsZip s.heap g TI TO .none) (gI : IsPair s.heap TI (.ref i) (.ref j)) (gO : IsPair s.heap TO a b)
    (p1 : ItB t1 s.heap i l n1) (p2 : ItB t2 s.heap j m n2) (q1 : HsB t1 s.heap l xs) (q2 : HsB t2 s.heap m ys) (ex : xs[n1]? = some x) (ey : ys[n2]? = some y)
    (k : ∀ h', IsZip h' g TI TO (rawInt s.heap.objs.size) → IsPair h' TO x y → ItB t1 h' i l (n1 + 1) → ItB t2 h' j m (n2 + 1) → IsPair h' s.heap.objs.size x y → h'.objs.size = s.heap.objs.size + 1 →
      (∀ c o, c ≠ g → c ≠ TO → c ≠ i → c ≠ j → s.heap.get? c = some o → h'.get? c = some o) → Q (some (.ref s.heap.objs.size)) { s with heap := h' }) :
    wpAny (model prog w) A (pyNext (.ref g)) Q E s := by
  have ty : s.TypeIs (.ref g) "zip" := ⟨_, hg, rfl⟩
  unfold pyNext
  exact wpAny_bind (wpAny_attempt (wpAny_callSpecial?_slot (name := Str.ofString "__next__") ty F.slot_zip_next (wpAny_call_entry F.slot_zip_next ty F.entry_zip_next
    (zipB_item D hg gI gO p1 p2 q1 q2 ex ey fun h' z1 z2 z3 z4 z5 z6 z7 => wpAny_pure (k h' z1 z2 z3 z4 z5 z6 z7)) (F.args_zip_next_1 _))))
theorem nextB_end {t1 t2 : Bool} {g TI TO i j l m : Addr} {n1 n2 : Nat} {xs ys : Array Value} {a b : Value} {Q : Option Value → Shared → Prop} (hh : A.handled = none) (D : ZipApart g TI TO i j l m)
    (hg : IsZip s.heap g TI TO .none) (gI : IsPair s.heap TI (.ref i) (.ref j)) (gO : IsPair s.heap TO a b)
    (p1 : ItB t1 s.heap i l n1) (p2 : ItB t2 s.heap j m n2) (q1 : HsB t1 s.heap l xs) (q2 : HsB t2 s.heap m ys) (en : xs[n1]? = none ∨ ys[n2]? = none)
    (k : ∀ h', (∀ c o, c ≠ g → c ≠ TO → c ≠ i → c ≠ j → s.heap.get? c = some o → h'.get? c = some o) → Q none { s with heap := h' }) : wpAny (model prog w) A (pyNext (.ref g)) Q E s := by
  have ty : s.TypeIs (.ref g) "zip" := ⟨_, hg, rfl⟩
  unfold pyNext
  refine wpAny_bind (wpAny_attempt (wpAny_callSpecial?_slot (name := Str.ofString "__next__") ty F.slot_zip_next (wpAny_call_entry F.slot_zip_next ty F.entry_zip_next
    (zipB_end hh D hg gI gO p1 p2 q1 q2 en fun h' e hk he => ?_) (F.args_zip_next_1 _))))
  obtain ⟨o, e1, e2⟩ := he
  exact wpAny_bind (wpAny_isInstance (T := "StopIteration") (b := true) ⟨o, e1, e2⟩ isSubtype_stop (wpAny_pure (k _ hk)))
end
/-- the heap behind the making of zip of a tuple and a list -/
abbrev zA1 (h : Heap) (l : Addr) : Heap := h.push { cls := .type "tuple_iterator", data := .fields #[.ref l, .int 0 0] }
abbrev zA2 (h : Heap) (l m : Addr) : Heap := (zA1 h l).push { cls := .type "list_iterator", data := .fields #[.ref m, .int 0 0] }
abbrev zA3 (h : Heap) (l m : Addr) : Heap := (zA2 h l m).push { cls := .type "tuple", data := .seq #[.ref h.objs.size, .ref (zA1 h l).objs.size] }
abbrev zA4 (h : Heap) (l m : Addr) : Heap := (zA3 h l m).push { cls := .type "tuple", data := .seq #[.none, .none] }
abbrev zA5 (h : Heap) (l m : Addr) : Heap := (zA4 h l m).push { cls := .type "zip", data := .fields #[.none, .bool false, .bool false, .ref (zA2 h l m).objs.size, .ref (zA3 h l m).objs.size] }
theorem meets_zA (l m : Addr) (xs ys : Array Value) :
    Meets (Builtin.«zip.__new__» ⟨[.type "zip", .ref l, .ref m], []⟩) (fun _ R s => s.heap.IsTuple l xs ∧ s.heap.IsList m ys ∧
      R (.ok (.ret (.ref (zA4 s.heap l m).objs.size))) { s with heap := zA5 s.heap l m }) :=
  .of_wp fun pr w A R s h => by
    obtain ⟨hp, g, d, tk, os⟩ := s; obtain ⟨q1, q2, h⟩ := h
    have hsub := sub_zip
    have w1 : Heap.IsTuple (Shared.heap ⟨hp, g, d, tk, os⟩) l xs := q1
    have w2 : Heap.IsList (Shared.heap ⟨hp.push { cls := .type "tuple_iterator", data := .fields #[.ref l, .int 0 0] }, g, d, tk, os⟩) m ys := Heap.IsList.push q2 _
    wp_walk using wpAny_pyIter_tuple w1, wpAny_pyIter_list w2
    exact ⟨_, rfl, h⟩
theorem call_zA {prog : Program} {w : World} {A : Around} {E : Value → Shared → Prop} {s : Shared} {l m : Addr} {xs ys : Array Value} {Q : Value → Shared → Prop} (q1 : s.heap.IsTuple l xs) (q2 : s.heap.IsList m ys)
    (k : ∀ h', IsZip h' (s.heap.objs.size + 4) (s.heap.objs.size + 2) (s.heap.objs.size + 3) .none → IsPair h' (s.heap.objs.size + 2) (.ref s.heap.objs.size) (.ref (s.heap.objs.size + 1)) →
      IsPair h' (s.heap.objs.size + 3) .none .none → ItB true h' s.heap.objs.size l 0 → ItB false h' (s.heap.objs.size + 1) m 0 →
      (∀ d o, s.heap.get? d = some o → h'.get? d = some o) → Q (.ref (s.heap.objs.size + 4)) { s with heap := h' }) :
    wpAny (model prog w) A (call (.type "zip") [.ref l, .ref m]) Q E s := by
  refine callType_new F.called_zip (by decide) (F.typeCall_zip_2 _ _) (F.newCall_zip_2 _ _) (fun obj => F.args_object_init_3 obj _ _) F.entry_zip_new (meets_zA l m xs ys) ⟨q1, q2, ?_⟩
  have z1 : (zA1 s.heap l).objs.size = s.heap.objs.size + 1 := Heap.size_push ..
  have z2 : (zA2 s.heap l m).objs.size = s.heap.objs.size + 2 := by rw [Heap.size_push, z1]
  have z3 : (zA3 s.heap l m).objs.size = s.heap.objs.size + 3 := by rw [Heap.size_push, z2]
  have z4 : (zA4 s.heap l m).objs.size = s.heap.objs.size + 4 := by rw [Heap.size_push, z3]
  have g5 : (zA5 s.heap l m).get? (zA4 s.heap l m).objs.size = some _ := Heap.get?_push_size _ rfl
  have g4 : (zA5 s.heap l m).get? (zA3 s.heap l m).objs.size = some _ := Heap.get?_push_of_some _ (Heap.get?_push_size _ rfl)
  have g3 : (zA5 s.heap l m).get? (zA2 s.heap l m).objs.size = some _ := Heap.get?_push_of_some _ (Heap.get?_push_of_some _ (Heap.get?_push_size _ rfl))
  have g2 : (zA5 s.heap l m).get? (zA1 s.heap l).objs.size = some _ := Heap.get?_push_of_some _ (Heap.get?_push_of_some _ (Heap.get?_push_of_some _ (Heap.get?_push_size _ rfl)))
  have g1 : (zA5 s.heap l m).get? s.heap.objs.size = some _ := Heap.get?_push_of_some _ (Heap.get?_push_of_some _ (Heap.get?_push_of_some _ (Heap.get?_push_of_some _ (Heap.get?_push_size _ rfl))))
  show _ ∧ _
  rw [z2, z3, z4] at g5; rw [z1, z2] at g3; rw [z3] at g4; rw [z1] at g2; rw [z4]
  exact ⟨⟨_, g5, rfl⟩, k _ g5 g3 g4 ⟨_, g1, rfl, rfl⟩ ⟨_, g2, rfl, rfl⟩ fun c o hx =>
    Heap.get?_push_of_some _ (Heap.get?_push_of_some _ (Heap.get?_push_of_some _ (Heap.get?_push_of_some _ (Heap.get?_push_of_some _ hx))))⟩
def SqB (t : Bool) (K : PySem.W.Frag) (H : Hp) (a : Addr) (xs : List V) : Prop := match t with
  | true => SqT K H a xs
  | false => SqL K H a xs
/-- the tuple at a and the list at b as they stand at each turn, the items in new pairs -/
def ItM (K : PySem.W.Frag) (a b : Addr) : It :=
  ⟨fun i H => ∃ (xs ys : List V) (x y : V), SqT K H a xs ∧ SqL K H b ys ∧ xs[i]? = some x ∧ ys[i]? = some y,
    fun i H v H' => ∃ N x y, v = .ref N ∧ H N = none ∧ H' = upd H N (.tup [x, y]) ∧ (∀ xs, SqT K H a xs → xs[i]? = some x) ∧ ∀ ys, SqL K H b ys → ys[i]? = some y,
    fun i H => ∃ xs ys : List V, SqT K H a xs ∧ SqL K H b ys ∧ (xs.length ≤ i ∨ ys.length ≤ i)⟩
theorem turn_zM {P : Program} {w : World} {K : PySem.W.Frag} {es : List Expr} {kk : Nat} {tp : Pos} {a b z TI TO i1 i2 : Addr} (D : ZipApart z TI TO i1 i2 a b) :
    Turn P w K (.Tuple es kk tp) (ItM K a b) [z, TI, TO, i1, i2] z (fun i h => IsZip h z TI TO .none ∧ IsPair h TI (.ref i1) (.ref i2) ∧ (∃ x y, IsPair h TO x y) ∧ ItB true h i1 a i ∧ ItB false h i2 b i) where
  mem := by simp
  obj := fun i h st c hc => by
    obtain ⟨g, gI, ⟨x, y, gO⟩, p1, p2⟩ := st
    have e' : c = z ∨ c = TI ∨ c = TO ∨ c = i1 ∨ c = i2 := (by simpa using hc)
    rcases e' with rfl | rfl | rfl | rfl | rfl
    · exact ⟨_, g, fun v q => nomatch q⟩
    · exact ⟨_, gI, fun v q => nomatch q⟩
    · exact ⟨_, gO, fun v q => nomatch q⟩
    · exact p1.obj
    · exact p2.obj
  keep := fun i h h' st k => by
    obtain ⟨g, gI, ⟨x, y, gO⟩, p1, p2⟩ := st
    exact ⟨k z (by simp) _ g, k TI (by simp) _ gI, ⟨x, y, k TO (by simp) _ gO⟩, p1.keep fun o q => k i1 (by simp) o q, p2.keep fun o q => k i2 (by simp) o q⟩
  item := by
    intro X hP hw hK hc i pins s σ H E I hf st hgo
    subst hP hw hK
    obtain ⟨g, gI, ⟨x0, y0, gO⟩, p1, p2⟩ := st
    obtain ⟨xs, ys, x, y, hqx, hqy, hx, hy⟩ := hgo
    obtain ⟨us, rv, q1, _⟩ := I.tuple hqx
    obtain ⟨us2, rv2, q2, _⟩ := I.list hqy
    obtain ⟨u, hu, ru⟩ := rv.get hx; obtain ⟨u2, hu2, ru2⟩ := rv2.get hy
    have zl : z < s.heap.objs.size := Heap.lt_size g
    refine nextB D g gI gO p1 p2 (show HsB true s.heap a us.toArray from q1) (show HsB false s.heap b us2.toArray from q2.isList) (x := u) (y := u2) (by simpa using hu) (by simpa using hu2) fun h' z' O' p1' p2' T1 sz hk => ?_
    refine ⟨_, rfl, wpAny_letOwnedTupleGo_zip (s := { s with heap := h' }) z' fun h'' g9 sb => ?_⟩
    have T2 : h''.get? s.heap.objs.size = some { cls := .type "tuple", data := .seq #[u, u2] } := (sb.2 _ (Nat.ne_of_gt zl)).trans T1
    have nw : ObjOk X.prog X.w (upd H s.heap.objs.size (.tup [x, y])) h'' s.heap.objs.size (.tup [x, y]) :=
      ⟨by show 2 ≤ sizeLine; decide, [u, u2], .cons ru (.cons ru2 .nil), ⟨_, T2, rfl, _, rfl⟩⟩
    have J1 : Inv X pins σ (upd H s.heap.objs.size (.tup [x, y])) { s with heap := h'' } :=
      I.turnedNew (t' := s.toks) (ch := [z, TI, TO, i1, i2]) (fun c o nb q => (sb.2 c (fun q' => nb (by simp [q']))).trans (hk c o (fun q' => nb (by simp [q'])) (fun q' => nb (by simp [q'])) (fun q' => nb (by simp [q'])) (fun q' => nb (by simp [q'])) q)) hf (Nat.le_refl _) nw
    refine ⟨.ref s.heap.objs.size, _, J1, rfl, ⟨_, x, y, rfl, I.hok.fresh (Nat.le_refl _), rfl, fun l hl => by rw [I.tuple_inj hl hqx]; exact hx, fun l hl => by rw [I.list_inj hl hqy]; exact hy⟩, ⟨g9, ?_, ⟨u, u2, ?_⟩, ?_, ?_⟩, fun c hcm => ?_⟩
    · exact (sb.2 _ D.TIz).trans (hk _ _ D.TIz D.TITO D.TIi1 D.TIi2 gI)
    · exact (sb.2 _ D.TOz).trans O'
    · exact p1'.keep fun o q => (sb.2 _ D.i1z).trans q
    · exact p2'.keep fun o q => (sb.2 _ D.i2z).trans q
    · have lt : c < s.heap.objs.size := by
        have e' : c = z ∨ c = TI ∨ c = TO ∨ c = i1 ∨ c = i2 := (by simpa using hcm)
        rcases e' with rfl | rfl | rfl | rfl | rfl
        · exact zl
        · exact Heap.lt_size gI
        · exact Heap.lt_size gO
        · obtain ⟨_, e1, _⟩ := p1.obj; exact Heap.lt_size e1
        · obtain ⟨_, e1, _⟩ := p2.obj; exact Heap.lt_size e1
      rw [upd_ne (Nat.ne_of_lt lt)]; exact (hf c hcm).1
  done := by
    intro X hP hw hK hc i pins s σ H E I hf st hgo
    subst hP hw hK
    obtain ⟨g, gI, ⟨x0, y0, gO⟩, p1, p2⟩ := st
    obtain ⟨xs, ys, hqx, hqy, hend⟩ := hgo
    obtain ⟨us, rv, q1, _⟩ := I.tuple hqx
    obtain ⟨us2, rv2, q2, _⟩ := I.list hqy
    have l1 := rv.length
    have l2 := rv2.length
    have he : us.toArray[i]? = none ∨ us2.toArray[i]? = none := by
      rcases hend with q | q
      · refine .inl ?_; simp; omega
      · refine .inr ?_; simp; omega
    refine nextB_end (I.ok.hd hc) D g gI gO p1 p2 (show HsB true s.heap a us.toArray from q1) (show HsB false s.heap b us2.toArray from q2.isList) he fun h' hk => ⟨rfl, I.turnedL (t' := s.toks) (ch := [z, TI, TO, i1, i2]) (fun c o nb q =>
      hk c o (fun q' => nb (by simp [q'])) (fun q' => nb (by simp [q'])) (fun q' => nb (by simp [q'])) (fun q' => nb (by simp [q'])) q) hf⟩
  self := fun A i s Q E st hq => wpAny_pyIter_zip st.1 hq
def iZipM (K : PySem.W.Frag) (ta : TA) : TI := fun σ H R => ta σ H fun vs H1 => ∃ a b xs ys, vs = [.ref a, .ref b] ∧ SqT K H1 a xs ∧ SqL K H1 b ys ∧ R (ItM K a b) H1
theorem pi_zipM {X : Cx} {e e2 : Expr} {ta : TA} {p pos tp : Pos} {es : List Expr} {kk : Nat} (hg : Gl X "zip") (hm : X.mg "zip" = none) (ha : PA X [e, e2] ta)
    (st : starEach [e, e2] X.env = (false, eval e X.env) :: starEach [e2] X.env := by rfl) (hpl : (backTo pos (starEach [e2] X.env)).any (·.1) = false := by rfl) :
    PI X (.Tuple es kk tp) (.Call (.Name "zip" p) [e, e2] [] pos) (iZipM X.K ta) := by
  refine ⟨fun pins s σ H R I h => ?_⟩; refine Call_ (ld_blt I hg hm PyProof.Rows.boot_zip (PyProof.Rows.callWith_type1 (thn (ha.run pos pins s σ H _ I h) fun us s1 ⟨vs, H1, I1, r1, qq⟩ => ?_) st hpl))
  obtain ⟨a, b, xs, ys, ex, hqx, hqy, q⟩ := qq
  subst ex
  cases r1 with
  | cons r rr => cases rr with
    | cons r' rr =>
      cases rr; cases r; cases r'
      have f5 : ∀ c, c ∈ [s1.heap.objs.size + 4, s1.heap.objs.size + 2, s1.heap.objs.size + 3, s1.heap.objs.size, s1.heap.objs.size + 1] → FpOk X pins H1 c := fun c hcm => by
        have h9le : s1.heap.objs.size ≤ c := by
          have e' : c = s1.heap.objs.size + 4 ∨ c = s1.heap.objs.size + 2 ∨ c = s1.heap.objs.size + 3 ∨ c = s1.heap.objs.size ∨ c = s1.heap.objs.size + 1 := (by simpa using hcm)
          omega
        exact I1.fpOk h9le (I1.hok.fresh h9le)
      obtain ⟨us, rv, p1, _⟩ := I1.tuple hqx
      obtain ⟨us2, rv2, p2, _⟩ := I1.list hqy
      have la : a < s1.heap.objs.size := by obtain ⟨o, ho, _⟩ := id p1; exact Heap.lt_size ho
      refine call_zA (show s1.heap.IsTuple a us.toArray from p1) p2.isList fun h' g gI gO i1 i2 hk => wpAny_pyIter_zip g ?_
      exact ⟨s1.heap.objs.size + 4, [s1.heap.objs.size + 4, s1.heap.objs.size + 2, s1.heap.objs.size + 3, s1.heap.objs.size, s1.heap.objs.size + 1], _, _, H1, rfl, I1.kept (t' := s1.toks) hk, turn_zM (PySem.W.ktu_apart s1.heap.objs.size a b la p2.lt), ⟨g, gI, ⟨_, _, gO⟩, i1, i2⟩, f5, q⟩

def itsZM (w : WA) : WI := fun px env Q => w px env fun ds env1 => match ds with
  | [.tup xs, e] => dirtys xs = false ∧ dirty e = false ∧ (match asL e with
    | some ys => dirtys ys = false ∧ Q (zipD xs ys) env1
    | none => False)
  | _ => False
theorem simI_ZM {K : KW} {E : EX} {w : WA} {t : TA} (h : SimA K E w t) : SimI K E (itsZM w) (iZipM K t) := by
  intro px F0 H0 F H σ env pv pd L S Q' R w1 k
  refine h px F0 H0 F H σ env pv pd L S _ _ w1 fun ds env1 vs F1 H1 A w2 eF eH rs S1 => ?_
  unfold itsZM at w1
  split at w2
  · rename_i xs e
    obtain ⟨hd, he, w2⟩ := w2
    obtain ⟨v, u, B, C, rfl, r1, r2⟩ := reps2 rs
    have cl1 := r1.clean (show dirty (.tup xs) = false by simpa [dirty] using hd)
    subst cl1
    have cl2 := r2.clean he
    subst cl2
    split at w2
    · rename_i ys hy
      obtain ⟨a, vs, rfl, hq, rs1⟩ := rep_tup r1
      obtain ⟨b, ws, C, rfl, hq2, rs2, _⟩ := rep_asL S1.sub r2 hy
      refine ⟨a, b, vs, ws, rfl, hq, hq2, k _ env1 _ F1 H1 [.ref a, .ref b] [.tup xs, e] w2.2 eF eH ((S1.clean r2).clean r1) ⟨rfl, fun F H A i z hs rr hi => ?_, fun F H A hs rr => ?_⟩⟩
      · obtain ⟨va, vb, B1, C1, ev, q1, q2⟩ := reps2 rr
        cases ev
        obtain ⟨a', vs', e1, hqa, rsa⟩ := rep_tup q1
        cases e1
        obtain ⟨b', ws', _, e2, hqb, rsb, _⟩ := rep_asL hs q2 hy
        cases e2
        obtain ⟨dx, dy, g1, g2, rfl⟩ := zipD_get _ _ _ _ hi
        obtain ⟨x, Cx', hx', rx, _⟩ := rsa.get g1
        obtain ⟨y, Cy', hy', ry, _⟩ := rsb.get g2
        have c1 := rx.clean (dirtys_false.mp hd dx (List.mem_of_getElem? g1))
        subst c1
        have c2 := ry.clean (dirtys_false.mp w2.1 dy (List.mem_of_getElem? g2))
        subst c2
        refine ⟨⟨vs', ws', x, y, hqa, hqb, hx', hy'⟩, fun z H' yl => ?_⟩
        obtain ⟨T, x2, y2, rfl, hT, rfl, f1, f2⟩ := yl
        have := f1 vs' hqa
        rw [hx'] at this; cases this
        have := f2 ws' hqb
        rw [hy'] at this; cases this
        exact ⟨Ex.new hT, .tup upd_same (.cons (rx.ex (Same.refl _) (Ex.new hT)) (.cons (ry.ex (Same.refl _) (Ex.new hT)) .nil rfl) rfl)⟩
      · obtain ⟨va, vb, B1, C1, ev, q1, q2⟩ := reps2 rr
        cases ev
        obtain ⟨a', vs', e1, hqa, rsa⟩ := rep_tup q1
        cases e1
        obtain ⟨b', ws', _, e2, hqb, rsb, _⟩ := rep_asL hs q2 hy
        cases e2
        refine ⟨vs', ws', hqa, hqb, ?_⟩
        rw [zipD_len, rsa.length, rsb.length]
        omega
    · exact w2.elim
  · exact w2.elim
section
variable {X : Cx} {E : EX} {e e2 : Expr} {wa : WA} {p pos tp : Pos} {es : List Expr} {kk : Nat}
theorem n_ZM (hg : Gl X "zip") (hm : X.mg "zip" = none) (h : DA X E [e, e2] wa) (st : starEach [e, e2] X.env = (false, eval e X.env) :: starEach [e2] X.env := by rfl) (hpl : (backTo pos (starEach [e2] X.env)).any (·.1) = false := by rfl) : DI X E (.Tuple es kk tp) (.Call (.Name "zip" p) [e, e2] [] pos) (itsZM wa) := by
  obtain ⟨_, q, s⟩ := h
  exact ⟨_, pi_zipM hg hm q st hpl, simI_ZM s⟩
end
end Tm

set_option Elab.async false
set_option linter.all false
set_option maxRecDepth 100000
set_option maxHeartbeats 1000000
namespace Tm
open PySem PySem.Spec
open PyProof.Rows L2

/-! ### objects of own classes -/
/-- what of the text the classes of the program have: no class has an attribute with a field's name -/
structure ClsF (K : PySem.W.Frag) (cl fl : List Str) : Prop where
  ok : ∀ (c : Str) (C : Addr), c ∈ cl → PySem.W.nsIn K mainGlobals c = some (some (.ref C)) → Cls K C
  na : ∀ (c f : Str) (C : Addr), c ∈ cl → f ∈ fl → PySem.W.nsIn K mainGlobals c = some (some (.ref C)) → NoAttr K C f
theorem rep_obj {K : KW} {F H : Hp} {v : V} {o : Own} {c : Str} {ns : List Str} {ds : List D} {A : List Addr} (hs : Ex F H) (r : Rep K F H v (.obj o c ns ds) A) :
    ∃ a C dx vs B, v = .ref a ∧ H a = some (.ins C dx (ns.zip vs)) ∧ PySem.W.nsIn K mainGlobals c = some (some (.ref C)) ∧ ns.length = vs.length ∧ Reps K F H vs ds B := by
  cases r with
  | oF h1 h2 h3 h4 => exact ⟨_, _, _, _, _, rfl, hs _ _ h1, h2, h3, h4⟩
  | oO h1 h2 h3 h4 => exact ⟨_, _, _, _, _, rfl, h1, h2, h3, h4⟩
  | oP h1 h2 h3 h4 => exact ⟨_, _, _, _, _, rfl, h1, h2, h3, h4⟩
/-- a field -/
def fldD : List Str → List D → Str → Option D
  | n :: ns, d :: ds, f => if f = n then some d else fldD ns ds f
  | _, _, _ => none
theorem fld_look {K : KW} {F H : Hp} {f : Str} {e : D} : ∀ {ns : List Str} {vs : List V} {ds : List D} {B : List Addr}, Reps K F H vs ds B → fldD ns ds f = some e → ∃ v C, (ns.zip vs).lookup f = some v ∧ Rep K F H v e C
  | [], _, _, _, _, h => by simp [fldD] at h
  | n :: ns, [], _, _, r, h => by cases r; simp [fldD] at h
  | n :: ns, v :: vs, ds, B, r, h => by
    cases r with
    | cons r1 r2 _ =>
      rw [fldD] at h
      by_cases q : f = n
      · rw [if_pos q] at h
        cases h
        refine ⟨v, _, ?_, r1⟩
        subst q
        rw [List.zip_cons_cons, List.lookup_cons, beq_self_eq_true]
      · rw [if_neg q] at h
        obtain ⟨v', C, e1, r'⟩ := fld_look r2 h
        refine ⟨v', C, ?_, r'⟩
        rw [List.zip_cons_cons, List.lookup_cons, beq_false_of_ne q]
        exact e1
theorem no_look {m : Str} : ∀ {ns : List Str} {vs : List V}, m ∉ ns → (ns.zip vs).lookup m = none
  | [], _, _ => rfl
  | n :: ns, [], _ => rfl
  | n :: ns, v :: vs, h => by
    simp only [List.mem_cons, not_or] at h
    rw [List.zip_cons_cons, List.lookup_cons, beq_false_of_ne h.1]
    exact no_look h.2
/-- e.f -/
def wFld (cl : List Str) (w : WE) (f : Str) : WE := fun px env Q => w px env fun d _ env1 => match d with
  | .obj _ c ns ds => c ∈ cl ∧ atK (fldD ns ds f) fun e => Q e false env1
  | _ => False
theorem sim_fld {K : KW} {E : EX} {cl fl : List Str} {f : Str} {w : WE} {t : TE} (T : ClsF K cl fl) (hf : f ∈ fl) (h : Sim K E w t) : Sim K E (wFld cl w f) (tFld K t f) := by
  intro px F0 H0 F H σ env pv pd L S Q' Q w1 k
  refine h px F0 H0 F H σ env pv pd L S _ _ w1 fun d b env1 v F1 H1 w2 eF eH R => ?_
  obtain ⟨⟨A, r⟩, S1⟩ := R.forget
  split at w2
  · rename_i o c ns ds
    obtain ⟨hc, w2⟩ := w2
    obtain ⟨e, he, hd, q⟩ := atK_is w2
    obtain ⟨a, C, dx, vs, B, rfl, h1, h2, h3, h4⟩ := rep_obj S1.sub r
    obtain ⟨u, G, hu, ru⟩ := fld_look h4 he
    have := ru.clean hd
    subst this
    exact ⟨a, C, dx, _, u, rfl, h1, T.ok c C hc h2, T.na c f C hc hf h2, hu, k e false env1 u F1 H1 q eF eH (S1.clean ru)⟩
  · exact w2.elim
section
variable {X : Cx} {E : EX} {cl fl : List Str}
theorem d_fld {e : Expr} {f : Str} {w : WE} {pos : Pos} (T : ClsF X.K cl fl) (h : DE X E e w) (hf : f ∈ fl := by decide) (hb : attributeBase e f X.env (eval e X.env) = eval e X.env := by rfl) : DE X E (.Attribute e f pos) (wFld cl w f) := by
  obtain ⟨t, p, s⟩ := h.ex
  exact ⟨_, pe_fld p hb, sim_fld T hf s⟩
end

/-! ### making one -/
/-- what an __init__ that stores its arguments keeps -/
def spI (K : PySem.W.Frag) (ns : List Str) : Sp := fun vs H Q _ => ∃ (x C dx : Addr) (us : List V), vs = .ref x :: us ∧ us.length = ns.length ∧ H x = some (.ins C dx []) ∧ Cls K C ∧ (∀ f ∈ ns, NoAttr K C f) ∧ Q .non (upd H x (.ins C dx (ns.zip us)))
section
variable {w : World} {P : Program} {K : PySem.W.Frag} {mg : Str → Option Value} {base : Heap}
theorem okI1 {x qual : Str} {st : Stmt} {f : Addr} {fd : FuncData} {N ps : List Str} {k : Nat} {g : Str} (F : Fun K x qual st f fd) (S : FnScope N ps (defScope st)) (hl : ps.length = 2 := by rfl)
    (body : ∀ (cdv : Value) (A : Around) (outer : List PySem.Env) (s : Shared) (H : Hp) (E : XK), PSs (cxOf CX0 P w K mg base N qual (defScope st) f cdv A outer s H E).nox (defBody st) (sFld K (tVar 0) (tVar 1) g)) :
    FnOk P w K mg base CX0 (k + 1) f fd ps (spI K [g]) := by
  refine F.ok S (fun vs H Q E h => ?_) (fun cdv A outer s H vs Q E hr h => ?_)
  · obtain ⟨x, C, dx, us, rfl, h1, _⟩ := h
    simp only [List.length_cons, List.length_nil] at h1 ⊢
    omega
  · obtain ⟨x, C, dx, us, rfl, h1, h2, h3, h4, q⟩ := h
    match us, h1 with
    | [u], _ =>
      refine ⟨_, body cdv A outer s H E, ?_⟩
      exact ⟨u, rfl, .ref x, rfl, x, C, dx, [], rfl, h2, h3, h4 g (by simp), by show 0 < 1000; omega, q⟩
theorem okI3 {x qual : Str} {st : Stmt} {f : Addr} {fd : FuncData} {N ps : List Str} {k : Nat} {g1 g2 g3 : Str} (F : Fun K x qual st f fd) (S : FnScope N ps (defScope st)) (n12 : ¬ g1 = g2) (n13 : ¬ g1 = g3) (n23 : ¬ g2 = g3) (hl : ps.length = 4 := by rfl)
    (body : ∀ (cdv : Value) (A : Around) (outer : List PySem.Env) (s : Shared) (H : Hp) (E : XK), Room k (A.deeper (envOfC qual (defScope st) s.heap.objs.size f cdv)) → PSs (cxOf CX0 P w K mg base N qual (defScope st) f cdv A outer s H E).nox (defBody st)
      (tSeq (tDrop (tCall (spI K [g1]) [] E0 (tCons (tVar 0) (tCons (tVar 1) tNil)))) (tSeq (sFld K (tVar 0) (tVar 2) g2) (sFld K (tVar 0) (tVar 3) g3)))) :
    FnOk P w K mg base CX0 (k + 1) f fd ps (spI K [g1, g2, g3]) := by
  refine F.ok S (fun vs H Q E h => ?_) (fun cdv A outer s H vs Q E hr h => ?_)
  · obtain ⟨x, C, dx, us, rfl, h1, _⟩ := h
    simp only [List.length_cons, List.length_nil] at h1 ⊢
    omega
  · obtain ⟨x, C, dx, us, rfl, h1, h2, h3, h4, q⟩ := h
    match us, h1 with
    | [u1, u2, u3], _ =>
      refine ⟨_, body cdv A outer s H E hr, ?_⟩
      refine ⟨.ref x, rfl, u1, rfl, x, C, dx, [u1], rfl, rfl, h2, h3, fun f hf => h4 f (by simp at hf; simp [hf]), ?_⟩
      refine ⟨u2, rfl, .ref x, rfl, x, C, dx, _, rfl, upd_same, h3, h4 g2 (by simp), by show 1 < 1000; omega, ?_⟩
      refine ⟨u3, rfl, .ref x, rfl, x, C, dx, _, rfl, upd_same, h3, h4 g3 (by simp), ?_, ?_⟩
      · have := length_putF g2 u2 ([g1].zip [u1]); simp at this ⊢; omega
      · rw [upd_upd, upd_upd]
        have e : putF g3 u3 (putF g2 u2 ([g1].zip [u1])) = [g1, g2, g3].zip [u1, u2, u3] := by
          show putF g3 u3 (putF g2 u2 [(g1, u1)]) = [(g1, u1), (g2, u2), (g3, u3)]
          rw [putF, if_neg n12, putF, putF, if_neg n13, putF, if_neg n23, putF]
        rw [e]; exact q
end
/-- C(e, ..) -/
def wMk (c : Str) (ns : List Str) (w : WA) : WE := fun px env Q => w px env fun ds env1 => dirtys ds = false ∧ ds.length = ns.length ∧ Q (.obj .t c ns ds) false env1
section
variable {X : Cx} {E : EX} {cl fl : List Str}
/-- C.m(..), m a def of the class at C -/
theorem pe_clscall {CX : CXT} {k : Nat} {f C : Addr} {fd : FuncData} {ps : List Str} {sp : Sp} {EE : XK} {nm m : Str} {p pos apos : Pos} {e : Expr} {es : List Expr} {t : TA} {mc : Value} {pl : Sem Bool}
    (hg : Gl X nm) (hm : X.mg nm = some (.ref C)) (r : ClX.CRead X.K C mc) (v : ClX.CVal X.K C mc m (.ref f) (.ref f)) (hk : PySem.W.keepIn X.K (.ref f) = true)
    (F : FnOk X.prog X.w X.K X.mg X.base CX k f fd ps sp) (hr : Room k X.A) (hb : Binds X.K fd ps []) (hx : Passes CX X EE) (ha : PA X (e :: es) t) (hdb : (nm == ("__debug__" : Str)) = false := by decide)
    (sst : starEach (e :: es) X.env = (false, eval e X.env) :: starEach es X.env := by rfl) (hpl : (backTo pos (starEach es X.env)).any (·.1) = false := by rfl)
    (ht : eval (.Call (.Attribute (.Name nm p) m apos) (e :: es) [] pos) X.env = (do
      let ov ← eval (.Name nm p) X.env
      standAt apos.atName
      let (f9, first) ← holding [ov] (getMethod ov m pl)
      callWith pos f9 first (backTo pos (starEach (e :: es) X.env)) (backToKw pos (keywordEach [] X.env))) := by rfl) :
    PE X (.Call (.Attribute (.Name nm p) m apos) (e :: es) [] pos) (tCall sp [] EE t) := by
  have he : PE X (.Name nm p) (tC (.ref C)) := pe_glob (v := .ref C) hg hm rfl hdb
  refine ⟨fun pins s σ H Q I hh => ?_⟩
  refine PySem.W.methodCall_KW (pl := pl) (thn (he.run pins s σ H (fun x H1 => x = .ref C ∧ t σ H1 fun vs H2 => sp (vs ++ []) H2 Q EE) I ⟨rfl, hh⟩) fun u s1 ⟨x, H1, I1, rx, ex, q⟩ => ?_) ht
  subst ex; obtain rfl : u = Value.ref C := rx
  refine PySem.W.method_cls I1.kIn r.ga (ClX.getcval_ok I1 r v fun s2 I2 => ?_)
  refine PySem.W.callWith_K (first := []) (h₀ := X.base) I.ok.mod.kin hk (thn (ha.run pos pins s2 σ H1 _ I2 q) fun us s3 ⟨vs, H2, I3, rv, q2⟩ => ⟨I3.kIn, ?_⟩) sst hpl
  exact run_fn F hr hb .nil hx I3 rv q2
theorem sim_mk {K : KW} {c : Str} {C : Addr} {ns : List Str} {w : WA} {t : TA} (hn : PySem.W.nsIn K mainGlobals c = some (some (.ref C))) (hc : Cls K C) (na : ∀ f ∈ ns, NoAttr K C f) (h : SimA K E w t) : Sim K E (wMk c ns w) (tMake C (spI K ns) [] E0 t) := by
  intro px F0 H0 F H σ env pv pd L S Q' Q w1 k
  refine h px F0 H0 F H σ env pv pd L S _ _ w1 fun ds env1 vs F1 H1 A w2 eF eH r S1 => ?_
  obtain ⟨hd, hl, q⟩ := w2
  have := r.clean hd
  subst this
  intro x dx hx hdx hne
  have hlen : vs.length = ns.length := r.length.trans hl
  refine ⟨x, C, dx, vs, by rw [List.append_nil], hlen, upd_same, hc, na, rfl, ?_⟩
  rw [upd_upd]
  have e1 : Ex H1 (upd H1 dx (.own x)) := Ex.new hdx
  have e2 : Ex (upd H1 dx (.own x)) (upd (upd H1 dx (.own x)) x (.ins C dx (ns.zip vs))) := Ex.new (by rw [upd_ne hne.symm]; exact hx)
  have e12 := e1.trans e2
  refine k _ false env1 _ F1 _ q eF (eH.trans e12) ?_
  refine S1.push e12 (.oO upd_same hn hlen.symm (r.ex (Same.refl _) e12)) (by simp) fun a ha => ?_
  rw [List.mem_singleton.mp ha]; exact hx
theorem d_mk {k : Nat} {f C : Addr} {fd : FuncData} {ps : List Str} {c x : Str} {ns : List Str} {w : WA} {p pos : Pos} {e : Expr} {es : List Expr} (T : ClsF X.K cl fl) (M : Mk X.K C f) (F : FnOk X.prog X.w X.K X.mg X.base CX0 k f fd ps (spI X.K ns)) (hr : Room (k + 1) X.A)
    (hg : Gl X x) (hm : X.mg x = some (.ref C)) (hb : Binds X.K fd ps []) (hn : PySem.W.nsIn X.K mainGlobals c = some (some (.ref C))) (hc : c ∈ cl) (hf : ∀ f ∈ ns, f ∈ fl)
    (ha : DA X E (e :: es) w) (hdb : (x == ("__debug__" : Str)) = false := by decide) (he : starEach (e :: es) X.env = (false, eval e X.env) :: starEach es X.env := by rfl) (hpl : (backTo pos (starEach es X.env)).any (·.1) = false := by rfl) :
    DE X E (.Call (.Name x p) (e :: es) [] pos) (wMk c ns w) := by
  obtain ⟨t, pa, sa⟩ := ha.ex
  exact ⟨_, pe_make M F hr hg hm hb .nil pass0 pa hdb he hpl, sim_mk hn (T.ok c C hc hn) (fun f h => T.na c f C hc (hf f h) hn) sa⟩
end

/-! ### methods -/
/-- the promise of a method, of the classes cs alone -/
def clsIn (cs : List Str) (sp : SpecT) : SpecT := fun ds px Q => (∃ o c ns es r, ds = .obj o c ns es :: r ∧ c ∈ cs) ∧ sp ds px Q
/-- each of the classes cl has the method m, which keeps sp -/
def MethF (P : Program) (w : World) (K : PySem.W.Frag) (mg : Str → Option Value) (base : Heap) (L : Nat) (cl : List Str) (m : Str) (sp : SpecT) : Prop :=
  ∀ (c : Str) (C : Addr), c ∈ cl → PySem.W.nsIn K mainGlobals c = some (some (.ref C)) → Cls K C ∧ ∃ (k : Nat) (f : Addr) (fd : FuncData) (ps cs : List Str), k ≤ L ∧ c ∈ cs ∧ Meth K C m f ∧ FnOk P w K mg base CX0 k f fd ps (spD ⟨K, w⟩ (clsIn cs sp)) ∧ Binds K fd ps []
def tMU (P : Program) (w : World) (K : PySem.W.Frag) (mg : Str → Option Value) (base : Heap) (L : Nat) (m : Str) (ta : TE) (t : TA) : TE := fun σ H Q =>
  ∃ (C : Addr) (k : Nat) (f : Addr) (fd : FuncData) (ps : List Str) (sp : Sp), k ≤ L ∧ Cls K C ∧ Meth K C m f ∧ FnOk P w K mg base CX0 k f fd ps sp ∧ Binds K fd ps [] ∧ tMeth C m sp [] E0 ta t σ H Q
/-- o.m(..), o a name -/
def methK (cl : List Str) (m : Str) (sp : SpecT) (o : Option (Option D)) (w : (List D → Env → Prop) → Prop) (Q : D → Bool → Env → Prop) : Prop := match o with
  | some (some (.obj .f c ns ds)) => c ∈ cl ∧ m ∉ ns ∧ dirtys ds = false ∧ w fun es env1 => sp (.obj .f c ns (fzs ds) :: fzs es) px0 fun d => (dirtys es = false ∨ selfc d = true) ∧ Q d false env1
  | _ => False
theorem methK_obj {cl : List Str} {m : Str} {sp : SpecT} {c : Str} {ns : List Str} {ds : List D} {w : (List D → Env → Prop) → Prop} {Q : D → Bool → Env → Prop} :
    methK cl m sp (some (some (.obj .f c ns ds))) w Q = (c ∈ cl ∧ m ∉ ns ∧ dirtys ds = false ∧ w fun es env1 => sp (.obj .f c ns (fzs ds) :: fzs es) px0 fun d => (dirtys es = false ∨ selfc d = true) ∧ Q d false env1) := rfl
def wMeth (cl : List Str) (m : Str) (sp : SpecT) (i : Nat) (w : WA) : WE := fun px env Q => methK cl m sp env[i]? (w px env) Q
section
variable {X : Cx} {E : EX}
theorem pe_MU {L : Nat} {m : Str} {ta : TE} {t : TA} {o e : Expr} {es : List Expr} {pos apos : Pos} {pl : Sem Bool} (he : PE X o ta) (hr : Room L X.A) (ha : PA X (e :: es) t)
    (sst : starEach (e :: es) X.env = (false, eval e X.env) :: starEach es X.env := by rfl) (hpl : (backTo pos (starEach es X.env)).any (·.1) = false := by rfl)
    (htt : eval (.Call (.Attribute o m apos) (e :: es) [] pos) X.env = (do
      let ov ← eval o X.env
      standAt apos.atName
      let (f9, first) ← holding [ov] (getMethod ov m pl)
      callWith pos f9 first (backTo pos (starEach (e :: es) X.env)) (backToKw pos (keywordEach [] X.env))) := by rfl) :
    PE X (.Call (.Attribute o m apos) (e :: es) [] pos) (tMU X.prog X.w X.K X.mg X.base L m ta t) := by
  refine ⟨fun pins s σ H Q I hh => ?_⟩
  obtain ⟨C, k, f, fd, ps, sp, hk, c, hm, F, hb, q⟩ := hh
  exact (pe_meth (pl := pl) he c hm F (hr.mono hk) hb .nil pass0 ha sst hpl htt).run pins s σ H Q I q
theorem pe_MU0 {L : Nat} {m : Str} {ta : TE} {o : Expr} {pos apos : Pos} {pl : Sem Bool} (he : PE X o ta) (hr : Room L X.A)
    (htt : eval (.Call (.Attribute o m apos) [] [] pos) X.env = (do
      let ov ← eval o X.env
      standAt apos.atName
      let (f9, first) ← holding [ov] (getMethod ov m pl)
      callWith pos f9 first (backTo pos (starEach [] X.env)) (backToKw pos (keywordEach [] X.env))) := by rfl) :
    PE X (.Call (.Attribute o m apos) [] [] pos) (tMU X.prog X.w X.K X.mg X.base L m ta tNil) := by
  refine ⟨fun pins s σ H Q I hh => ?_⟩
  obtain ⟨C, k, f, fd, ps, sp, hk, c, hm, F, hb, q⟩ := hh
  exact (pe_meth0 (pl := pl) he c hm F (hr.mono hk) hb .nil pass0 htt).run pins s σ H Q I q
theorem sim_meth {L : Nat} {cl : List Str} {m : Str} {sp : SpecT} {i : Nat} {w : WA} {t : TA} (T : MethF X.prog X.w X.K X.mg X.base L cl m sp) (h : SimA X.kw E w t) : Sim X.kw E (wMeth cl m sp i w) (tMU X.prog X.w X.K X.mg X.base L m (tVar i) t) := by
  intro px F0 H0 F H σ env pv pd LL S Q' Q w1 kk
  unfold wMeth methK at w1
  split at w1
  · rename_i c ns ds he
    obtain ⟨hc, hm, hd, w2⟩ := w1
    obtain ⟨v, A, e2, r⟩ := S.slot he
    have r0 := r.clean rfl
    subst r0
    obtain ⟨a, C, dx, vs, B, rfl, h1, h2, h3, h4⟩ := rep_obj S.sub r
    obtain ⟨cc, k, f, fd, ps, cs, hk, hcs, M, G, bb⟩ := T c C hc h2
    refine ⟨C, k, f, fd, ps, _, hk, cc, M, G, bb, .ref a, e2, a, dx, _, rfl, h1, no_look hm, ?_⟩
    refine h px F0 H0 F H σ env pv pd LL S _ _ w2 fun es env1 us F1 H1 A1 w3 eF eH re S1 => ?_
    have ra : Reps X.kw F1 H1 (V.ref a :: us) (.obj .f c ns ds :: es) A1 := .cons (r.ex eF eH) re rfl
    have hds : dirtys (.obj .f c ns ds :: es) = dirtys es := rfl
    have w4 : clsIn cs sp (fzs ((.obj .f c ns ds :: es) ++ [])) px0 fun d => (dirtys (.obj .f c ns ds :: es) = false ∨ selfc d = true) ∧ Q' d false env1 := by
      rw [List.append_nil, hds]
      exact ⟨⟨.f, c, ns, fzs ds, fzs es, rfl, hcs⟩, w3⟩
    exact call_core (dvs := []) (fun _ _ => .nil) linkP0 w4 eF eH ra S1 kk
  · exact w1.elim
theorem d_meth {L : Nat} {cl : List Str} {m : Str} {sp : SpecT} {i : Nat} {w : WA} {x : Str} {e : Expr} {es : List Expr} {p pos apos : Pos} {pl : Sem Bool} (T : MethF X.prog X.w X.K X.mg X.base L cl m sp) (hr : Room L X.A) (ha : DA X E (e :: es) w)
    (hN : X.N[i]? = some x := by rfl) (hv : Vis X.env.scope x := by first | exact Or.inl rfl | exact Or.inr (Or.inl rfl) | exact Or.inr (Or.inr rfl)) (hd : (x == ("__debug__" : Str)) = false := by decide) (hcd : (x == ("__classdict__" : Str)) = false := by decide)
    (sst : starEach (e :: es) X.env = (false, eval e X.env) :: starEach es X.env := by rfl) (hpl : (backTo pos (starEach es X.env)).any (·.1) = false := by rfl)
    (ht : eval (.Call (.Attribute (.Name x p) m apos) (e :: es) [] pos) X.env = (do
      let ov ← eval (.Name x p) X.env
      standAt apos.atName
      let (f9, first) ← holding [ov] (getMethod ov m pl)
      callWith pos f9 first (backTo pos (starEach (e :: es) X.env)) (backToKw pos (keywordEach [] X.env))) := by rfl) :
    DE X E (.Call (.Attribute (.Name x p) m apos) (e :: es) [] pos) (wMeth cl m sp i w) := by
  obtain ⟨t, pa, sa⟩ := ha.ex
  exact ⟨_, pe_MU (pl := pl) (pe_var hN hv hd hcd) hr pa sst hpl ht, sim_meth T sa⟩
theorem d_meth0 {L : Nat} {cl : List Str} {m : Str} {sp : SpecT} {i : Nat} {x : Str} {p pos apos : Pos} {pl : Sem Bool} (T : MethF X.prog X.w X.K X.mg X.base L cl m sp) (hr : Room L X.A)
    (hN : X.N[i]? = some x := by rfl) (hv : Vis X.env.scope x := by first | exact Or.inl rfl | exact Or.inr (Or.inl rfl) | exact Or.inr (Or.inr rfl)) (hd : (x == ("__debug__" : Str)) = false := by decide) (hcd : (x == ("__classdict__" : Str)) = false := by decide)
    (ht : eval (.Call (.Attribute (.Name x p) m apos) [] [] pos) X.env = (do
      let ov ← eval (.Name x p) X.env
      standAt apos.atName
      let (f9, first) ← holding [ov] (getMethod ov m pl)
      callWith pos f9 first (backTo pos (starEach [] X.env)) (backToKw pos (keywordEach [] X.env))) := by rfl) :
    DE X E (.Call (.Attribute (.Name x p) m apos) [] [] pos) (wMeth cl m sp i wNil) :=
  ⟨_, pe_MU0 (pl := pl) (pe_var hN hv hd hcd) hr ht, sim_meth (E := E) T sim_anil⟩
end

/-! ### isinstance of an object -/
structure IsOF (K : PySem.W.Frag) (cl : List Str) (D : Addr) (b : Bool) : Prop where
  hnn : PySem.W.specialIn K (.builtin "object.__class__") "__get__" = some (some (.builtin "getset_descriptor.__get__"))
  htt : PySem.W.takesIn K (.builtin "object.__class__") = some true
  at_ : ∀ (c : Str) (C : Addr), c ∈ cl → PySem.W.nsIn K mainGlobals c = some (some (.ref C)) → PySem.W.findIn K (.ref C) "__class__" = some (some (.builtin "object.__class__")) ∧ PySem.W.mroIn K C (.type "object") = some true ∧ PySem.W.kitOne K (.ref C) (.ref D) = some b
def isoK (cl : List Str) (o : Option (Option D)) (q : Prop) : Prop := match o with
  | some (some (.obj _ c _ _)) => c ∈ cl ∧ q
  | _ => False
theorem isoK_obj {cl : List Str} {o : Own} {c : Str} {ns : List Str} {ds : List D} {q : Prop} : isoK cl (some (some (.obj o c ns ds))) q = (c ∈ cl ∧ q) := rfl
def wIsO (cl : List Str) (i : Nat) (b : Bool) : WE := fun _ env Q => isoK cl env[i]? (Q (.bl b) false env)
section
variable {X : Cx} {E : EX} {cl fl : List Str}
theorem d_isO {i : Nat} {x nm : Str} {D : Addr} {b : Bool} {p p1 p2 pos : Pos} (T : ClsF X.K cl fl) (U : IsOF X.K cl D b) (hgD : Gl X nm) (hmD : X.mg nm = some (.ref D)) (hg : Gl X "isinstance") (hm : X.mg "isinstance" = none)
    (hN : X.N[i]? = some x := by rfl) (hv : Vis X.env.scope x := by first | exact Or.inl rfl | exact Or.inr (Or.inl rfl) | exact Or.inr (Or.inr rfl)) (hd : (x == ("__debug__" : Str)) = false := by decide) (hcd : (x == ("__classdict__" : Str)) = false := by decide) (hdb : (nm == ("__debug__" : Str)) = false := by decide)
    (hs1 : starEach [.Name x p1, .Name nm p2] X.env = (false, eval (.Name x p1) X.env) :: starEach [.Name nm p2] X.env := by rfl) (hs2 : starEach [.Name nm p2] X.env = (false, eval (.Name nm p2) X.env) :: starEach [] X.env := by rfl) (hpl : (backTo pos (starEach [.Name nm p2] X.env)).any (·.1) = false := by rfl) :
    DE X E (.Call (.Name "isinstance" p) [.Name x p1, .Name nm p2] [] pos) (wIsO cl i b) := by
  refine ⟨_, pe_callB call_isi hg hm PyProof.Rows.boot_isinstance (pa_cons (pe_var (i := i) hN hv hd hcd) (pa_cons (pe_glob (v := .ref D) hgD hmD rfl hdb) pa_nil hs2) hs1) (by decide) (by decide) hs1 hpl, ?_⟩
  intro px F0 H0 F H σ env pv pd L S Q' Q w k
  unfold wIsO isoK at w
  split at w
  · rename_i o c ns ds e
    obtain ⟨hc, w⟩ := w
    obtain ⟨v, A, e2, r⟩ := S.slot e
    obtain ⟨a, C, dx, vs, B, rfl, h1, h2, h3, h4⟩ := rep_obj S.sub r
    obtain ⟨u1, u2, u3⟩ := U.at_ c C hc h2
    exact ⟨_, e2, _, _, _, _, b, rfl, .own D, .base (.ins h1 (T.ok c C hc h2) u1 U.hnn U.htt u2), u3, k (.bl b) false env (.bl b) F H w (Same.refl _) (Same.refl _) (S.clean (.bl b))⟩
  · exact w.elim
end
end Tm

set_option Elab.async false
set_option linter.all false
set_option maxRecDepth 100000
set_option maxHeartbeats 3200000
namespace Tm
open PySem PySem.Spec
open PyProof.Rows L2

/-! ### sorted(set(xs)), xs a list of fewer than 64 whole numbers -/
abbrev set0 (w : World) : Obj := { cls := .type "set", dict := none, data := .set #[] 0 (.fresh 0 0 (!w.params.followText "set-order")) }
section
variable {w : World} {P : Program} {A : Around} {E : Value → Shared → Prop} {s : Shared}
theorem call_setL {l : Addr} {its : Array Value} (ns : List Int) {Q : Value → Shared → Prop} (ha : A.handled = none) (hl : s.heap.IsList l its) (hi : IntsAre its.toList ns) (hb : ns.length + 1 < scanBound)
    (k : ∀ (g : Heap) (tk c : Nat), SetR w g s.heap.objs.size (fun j => decide (j ∈ ns)) c → c ≤ ns.length → (∀ b o, s.heap.get? b = some o → g.get? b = some o) → Q (.ref s.heap.objs.size) { s with heap := g, toks := tk }) :
    wpAny (model P w) A (call (.type "set") [Value.ref l]) Q E s := by
  have hz : its.size = ns.length := by have q := IntsAre.length hi; rw [Array.length_toList] at q; exact q
  obtain ⟨cc, tl, hmro⟩ := F.called_set.mro
  have m1 := F.called_set.made; have m2 := F.called_set.sub
  refine wpAny_call (codeAny_of_tree ?_); show wpAny _ _ (callAny (.type "set") _) _ _ _
  refine wpAny_pure ⟨Code.quiet_builtin _ (by decide +kernel), codeAny_builtin F.entry_type_call ?_⟩; rw [Around.under_plain (weight_type_call_type "set" [.ref l] []) rfl]
  have m3 := F.called_set.notType; have m4 := F.called_set.canCreate; have m5 := F.typeCall_set_1 (.ref l)
  repeat (any_goals (first | assumption | exact trivial | wp_step))
  refine codeAny_mono (code_set_led1 (.ref l) (E := E) (Q₁ := fun obj s₁ => obj = .ref s.heap.objs.size ∧ s₁ = { s with heap := s.heap.push (set0 w) }) ⟨rfl, rfl⟩) fun r t1 hr => ?_
  cases r with
  | error e => exact hr
  | ok fl => cases fl with
    | ret obj =>
      obtain ⟨rfl, rfl⟩ := hr
      have gS : (s.heap.push (set0 w)).get? s.heap.objs.size = some (set0 w) := Heap.get?_push_size _ rfl
      have gT : Shared.TypeIs { s with heap := s.heap.push (set0 w) } (.ref s.heap.objs.size) "set" := ⟨_, gS, rfl⟩
      have m6 := F.called_set.init.lookup; have m7 := F.called_set.init.bind (.ref s.heap.objs.size)
      repeat (any_goals (first | assumption | exact trivial | wp_step))
      refine codeAny_mono (codeAny_call_builtin (R := wants (fun r s₂ => r = .none ∧ ∃ g tk c, s₂ = { s with heap := g, toks := tk } ∧ SetR w g s.heap.objs.size (fun j => decide (j ∈ ns)) c ∧ c ≤ ns.length ∧
          (∀ b o, s.heap.get? b = some o → g.get? b = some o)) E) F.called_set.init.plain F.entry_set_init (check_set_init_1 gT ?_)) fun r2 t2 hr2 => ?_
      · obtain ⟨ol, ho, hc1, nl, hd1⟩ := hl; obtain ⟨ocls, odict, odata, oslots⟩ := ol
        simp only at hc1 hd1; subst hc1; subst hd1
        have ho' : (s.heap.push (set0 w)).get? l = some { cls := .type "list", dict := odict, data := .seq its nl, slots := oslots } := Heap.get?_push_of_some _ ho
        have m8 := F.sub_list_set; have m9 := F.sub_list_frozenset
        have hne : (Value.type "list" == Value.type "dict") = false := (by decide)
        have hL : (s.heap.push (set0 w)).IsList l its := ⟨_, ho', rfl, nl, rfl⟩
        unfold Builtin.«set.__init__» noKeywords Builtin.Frozenset.updateFrom; generalize hPI : pyIter = PI
        wp_walk
        subst hPI
        refine wpAny_pyIter_list hL ?_; refine wpAny_bind (wpAny_runValue ?_)
        have lS : l < s.heap.objs.size := Heap.lt_size ho
        have h3 : A.in1.in1.in1.handled = none := by simp [ha]
        have nI : l ≠ (s.heap.push (set0 w)).objs.size := by rw [Heap.size_push]; exact Nat.ne_of_lt (Nat.lt_succ_of_lt lS)
        have Sf : s.heap.objs.size ∉ [(s.heap.push (set0 w)).objs.size, l] := by
          rw [Heap.size_push]; simp only [List.mem_cons, List.mem_singleton, List.not_mem_nil, or_false, not_or]; exact ⟨Nat.ne_of_lt (Nat.lt_succ_self _), Nat.ne_of_gt lS⟩
        have vals : ∀ (i : Nat) (v : Value), its[i]? = some v → ∃ k t, ns[i]? = some k ∧ v = .int k t := fun i v hv => by
          have hlt : i < ns.length := by rw [← hz]; exact (Array.getElem?_eq_some_iff.mp hv).1
          obtain ⟨t, e⟩ := PyProof.Rows.IntsAre.int_at hi i v (by rw [Array.getElem?_toList]; exact hv)
          refine ⟨ns[i], t, List.getElem?_eq_getElem hlt, ?_⟩; rw [e, List.getD_eq_getElem?_getD, List.getElem?_eq_getElem hlt] <;> rfl
        refine set_update_ints ((Walks.list h3 _ l nI its).toS) s.heap.objs.size Sf ns hz hb vals (its.size - 0) 0 _ (by omega) (Nat.zero_le _) ⟨⟨_, Heap.get?_push_size _ rfl, rfl, rfl⟩, (hL.push _)⟩ ?hA ?hB
        case hA =>
          have g0 : ((s.heap.push (set0 w)).push { cls := .type "list_iterator", data := .fields #[.ref l, .int 0 0] }).get? s.heap.objs.size = some (set0 w) := Heap.get?_push_of_some _ gS
          exact ⟨0, Nat.le_refl 0, setR_new_at g0⟩
        case hB =>
          intro t3 c3 hm hc3 hS3
          obtain ⟨g1, g2, d1, tk1, os1⟩ := t3
          have eg9 : g2 = s.gens := hm.gens
          have ed : d1 = s.drawn := hm.drawn
          have eo : os1 = s.os := hm.os
          subst eg9; subst ed; subst eo
          show wpAny _ _ _ _ _ _
          refine wpAny_pure ?_; show wpAny _ _ (ret Value.none) _ _ _
          rw [hz] at hc3
          refine wpAny_pure ⟨rfl, g1, tk1, c3, rfl, hS3, hc3, fun b o e => ?_⟩
          have b0 : b < s.heap.objs.size := Heap.lt_size e
          have b1 : b ≠ s.heap.objs.size := Nat.ne_of_lt b0
          have b2 : b ≠ (s.heap.push (set0 w)).objs.size := by rw [Heap.size_push]; exact Nat.ne_of_lt (Nat.lt_succ_of_lt b0)
          exact hm.heap b o (by simp only [List.mem_cons, List.mem_singleton, List.not_mem_nil, or_false, not_or]; exact ⟨b1, b2⟩) (Heap.get?_push_of_some _ (Heap.get?_push_of_some _ e))
      · cases r2 with
        | error e => exact hr2
        | ok fl₂ => cases fl₂ with
          | ret r =>
            obtain ⟨rfl, g1, tk, c3, rfl, hS3, hc3, hk3⟩ := hr2
            repeat (any_goals (first | assumption | exact trivial | wp_step))
            exact k _ _ _ hS3 hc3 hk3
          | _ => exact hr2.elim
    | _ => exact hr.elim
end
/-- set(xs): a new set -/
def rSetL (K : PySem.W.Frag) (w : World) : List V → Hp → VK → Prop := fun xs H Q => ∃ (l : Addr) (ns : List Int), xs = [.ref l] ∧ SqL K H l (ns.map V.int) ∧ ns.length + 1 < scanBound ∧
  ∀ (p : Addr) (n : Nat), H p = none → n ≤ ns.length → Q (.ref p) (upd H p (SetO w p (fun j => decide (j ∈ ns)) n))
theorem cr_setL {X : Cx} (hc : X.calm = true) : CallR X (.type "set") (rSetL X.K X.w) := by
  intro pins s σ H xs us Q I r h; obtain ⟨l, ns, rfl, hl, hn, q⟩ := h
  rw [Vals.ref1 r]
  obtain ⟨its, rv, p1, _⟩ := I.list hl
  refine call_setL ns (I.ok.hd hc) p1.isList (by simpa using RZ.intsAre_vals rv) hn fun g tk c hS hcn hk => ?_
  exact ⟨.ref s.heap.objs.size, upd H s.heap.objs.size (SetO X.w s.heap.objs.size (fun j => decide (j ∈ ns)) c), I.laid (t' := tk) hk (Nat.le_refl _) (setO_new hS), rfl, q _ c (I.hok.fresh (Nat.le_refl _)) hcn⟩
def wSorSet (w : WA) : WE := fun px env Q => w px env fun ds env1 => ∃ (o : Bool) (ns : List Int), ds = [.lst o (ns.map D.int)] ∧ ns.length < 64 ∧ ∀ ms : List Int, ms.Pairwise (· < ·) → (∀ k, k ∈ ms ↔ k ∈ ns) → ms.length ≤ ns.length → Q (.lst true (ms.map D.int)) false env1
theorem sim_sorSet {X : Cx} {E : EX} {w : WA} {t : TA} (h : SimA X.kw E w t) : Sim X.kw E (wSorSet w) (tCB (rSortedSet X.w) (tCons (tCB (rSetL X.K X.w) t) tNil)) := by
  intro px F0 H0 F H σ env pv pd L S Q' Q w1 k
  refine h px F0 H0 F H σ env pv pd L S _ _ w1 fun ds env1 vs F1 H1 A w2 eF eH r S1 => ?_
  obtain ⟨o, ns, rfl, hn, q⟩ := w2
  obtain ⟨v, rfl, rv⟩ := reps1 r
  obtain ⟨l, us, B, rfl, hl, ru, _⟩ := rep_asL S1.sub rv (show asL (.lst o (ns.map D.int)) = some (ns.map D.int) from rfl)
  obtain ⟨rfl, _⟩ := ru.ints
  refine ⟨l, ns, rfl, hl, by unfold scanBound; omega, fun p n hp hpn => ?_⟩
  refine ⟨p, _, n, rfl, upd_same, by omega, fun ms p2 h1 h2 h3 hp2 => ?_⟩
  have hq := q ms h1 (fun k => by rw [h2]; simp) (by omega)
  have e1 : Ex H1 (upd H1 p (SetO X.w p (fun j => decide (j ∈ ns)) n)) := Ex.new hp
  have e2 := e1.trans (Ex.new (o := .lst (ms.map V.int)) hp2)
  refine k _ false env1 _ F1 _ hq eF (eH.trans e2) ?_
  have np : H1 p2 = none := e1.none hp2
  refine S1.push e2 (.own upd_same (.of_ints ms)) (by simp) fun a ha => ?_
  rw [List.mem_singleton.mp ha]; exact np
section
variable {X : Cx} {E : EX}
theorem d_sorSet {e : Expr} {w : WA} {p p2 pos pos2 : Pos} (hc : X.calm = true) (hg : Gl X "sorted") (hm : X.mg "sorted" = none) (hg2 : Gl X "set") (hm2 : X.mg "set" = none) (h : DA X E [e] w)
    (h1 : starEach [e] X.env = (false, eval e X.env) :: starEach [] X.env := by rfl) (h2 : starEach [.Call (.Name "set" p2) [e] [] pos2] X.env = (false, eval (.Call (.Name "set" p2) [e] [] pos2) X.env) :: starEach [] X.env := by rfl)
    (h3 : (backTo pos2 (starEach [] X.env)).any (·.1) = false := by rfl) (h4 : (backTo pos (starEach [] X.env)).any (·.1) = false := by rfl) :
    DE X E (.Call (.Name "sorted" p) [.Call (.Name "set" p2) [e] [] pos2] [] pos) (wSorSet w) := by
  obtain ⟨t, pa, sa⟩ := h.ex
  exact ⟨_, pe_callB (cr_sortedSet hc) hg hm PyProof.Rows.boot_sorted (pa_cons (pe_callTy (cr_setL hc) hg2 hm2 PyProof.Rows.boot_set pa (by decide) (by decide) h1 h3) pa_nil h2) (by decide) (by decide) h2 h4, sim_sorSet sa⟩
end

/-! ### d.clear(), and what is not reached -/
def wDClear (i : Nat) : WS := fun P _ env => atDct i env fun kd _ => match kd with
  | .k _ => P.nx (env.set i (some (.dct true (.k []) [])))
  | _ => False
theorem simS_dclear {K : KW} {E : EX} {i : Nat} : SimS K E (wDClear i) (tDrop (tBM0 K "dict" rDClear (tVar i))) := by
  intro px F0 H0 F H σ env pv pd L S P D w k
  obtain ⟨kd, ds, e0, w⟩ := atDct_is w
  obtain ⟨a, vs, A, ea, ha, hl, ra, back⟩ := S.mutD e0
  split at w
  · rename_i ks
    exact ⟨.ref a, ea, .inr (.inr (.inl ⟨rfl, .inl ⟨_, ha⟩⟩)), a, _, rfl, rfl, ha, k.nx _ _ _ _ w (back (.k []) [] [] rfl .nil)⟩
  · exact w.elim
section
variable {X : Cx} {E : EX} {i : Nat} {x : Str} {npos apos cpos pos : Pos} {st : Stmt}
theorem s_dclear (hN : X.N[i]? = some x := by rfl) (hv : Vis X.env.scope x := by first | exact Or.inl rfl | exact Or.inr (Or.inl rfl) | exact Or.inr (Or.inr rfl)) (hd : (x == ("__debug__" : Str)) = false := by decide) (hcd : (x == ("__classdict__" : Str)) = false := by decide)
    (hbase : attributeBase (.Name x npos) "clear" X.env (eval (.Name x npos) X.env) = eval (.Name x npos) X.env := by rfl) (hline : (apos.endLine == cpos.line) = true := by rfl)
    (hsw : swapsWith (.Call (.Attribute (.Name x npos) "clear" apos) [] [] cpos) none pos.line X.env = pure false := by rfl) :
    DS X E (.Expr (.Call (.Attribute (.Name x npos) "clear" apos) [] [] cpos) pos) (wDClear i) :=
  ⟨_, ps_expr (pe_dclear (pe_var hN hv hd hcd) hbase hline) hsw, simS_dclear⟩
end
end Tm

set_option Elab.async false
set_option linter.all false
set_option maxRecDepth 100000
set_option maxHeartbeats 1000000
namespace PySem.SeqAt
open SeqRoads2 MeetsSeq3 MeetsSeq2 MeetsSeq
section
variable {w : World} {prog : Program}
/-! ### xs != ys, item by item, in one world -/
theorem ne_loopIn (l m : Addr) (us vs : Array Value) (n1 n2 : Nat) (d1 d2 : Option Addr) (s1 s2 : Array (Option Value)) (hs : us.size = vs.size) (e : Nat → Bool) (k : Nat) :
    ∀ i : Nat, us.size - i = k → MeetsIn prog w (Builtin.«list.__eq__.loop» ⟨[.ref l, .ref m, rawInt i, rawInt 3], []⟩)
      (fun A R s => s.heap.get? l = some { cls := .type "list", dict := d1, data := .seq us n1, slots := s1 } ∧ s.heap.get? m = some { cls := .type "list", dict := d2, data := .seq vs n2, slots := s2 } ∧
        (∀ j (h1 : j < us.size) (h2 : j < vs.size), EqIn prog w A.in1 s us[j] vs[j] (e j)) ∧
        R (.ok (.ret (.bool (!((List.range us.size).drop i).all e)))) s) := by
  induction k with
  | zero =>
    intro i hk A R s h; obtain ⟨hp, g, d, tk, os⟩ := s; obtain ⟨hl, hm, he, h⟩ := h
    wp_walk using AutoSeq1.wpAny_loadPart' hl, AutoSeq1.wpAny_loadPart' hm
    have q1 : us[((i : Nat) : Int).toNat]? = none := (by simp; omega)
    have q2 : vs[((i : Nat) : Int).toNat]? = none := (by simp; omega)
    have hd : (List.range us.size).drop i = [] := (by simp; omega)
    rw [hd] at h; rw [q1, q2]
    wp_walk using AutoSeq1.wpAny_loadPart' hl, AutoSeq1.wpAny_loadPart' hm
    show R (.ok (.ret (.bool (us.size != vs.size)))) _
    rw [hs]; simpa using h
  | succ k ih =>
    intro i hk A R s h; obtain ⟨hp, g, d, tk, os⟩ := s; obtain ⟨hl, hm, he, h⟩ := h
    wp_walk using AutoSeq1.wpAny_loadPart' hl, AutoSeq1.wpAny_loadPart' hm
    have l1 : i < us.size := (by omega)
    have l2 : i < vs.size := (by omega)
    have q1 : us[((i : Nat) : Int).toNat]? = some us[i] := (by simp [l1])
    have q2 : vs[((i : Nat) : Int).toNat]? = some vs[i] := (by simp [l2])
    have hd : (List.range us.size).drop i = i :: (List.range us.size).drop (i + 1) := (by simp [List.drop_eq_getElem_cons, l1])
    have hc9 : ((i : Int) + 1) = ((i + 1 : Nat) : Int) := (by push_cast; rfl)
    rw [hd, List.all_cons] at h; rw [q1, q2]
    refine wpAny_bind (he i l1 l2 _ _ ?_)
    cases he' : e i with
    | true =>
      rw [he'] at h
      wp_walk
      rw [hc9]
      refine ⟨plainId_quiet plain_eq_loop _, codeAny_builtin entry_eq_loop ?_⟩
      rw [Around.under_plainId plain_eq_loop _]; exact ih (i + 1) (by omega) A R _ ⟨hl, hm, he, by simpa using h⟩
    | false =>
      rw [he'] at h
      wp_walk using AutoSeq1.wpAny_loadPart' hl, AutoSeq1.wpAny_loadPart' hm
      rw [q1, q2]
      wp_walk
      simpa using h
theorem list_neIn (l m : Addr) (us vs : Array Value) (n1 n2 : Nat) (d1 d2 : Option Addr) (s1 s2 : Array (Option Value)) (hs : us.size = vs.size) (e : Nat → Bool) :
    MeetsIn prog w (Builtin.«list.__ne__» ⟨[.ref l, .ref m], []⟩)
      (fun A R s => s.heap.get? l = some { cls := .type "list", dict := d1, data := .seq us n1, slots := s1 } ∧ s.heap.get? m = some { cls := .type "list", dict := d2, data := .seq vs n2, slots := s2 } ∧
        (∀ j (h1 : j < us.size) (h2 : j < vs.size), EqIn prog w A.in1 s us[j] vs[j] (e j)) ∧
        R (.ok (.ret (.bool (!(List.range us.size).all e)))) s) := by
  intro A R s h; obtain ⟨hp, g, d, tk, os⟩ := s; obtain ⟨hl, hm, he, h⟩ := h
  have f9 := AutoSeq1.sub_list_list
  have hne9 : ¬ (us.size != vs.size) = true := (by simp [hs])
  wp_walk using AutoSeq1.wpAny_loadPart' hl, AutoSeq1.wpAny_loadPart' hm
  refine ⟨plainId_quiet plain_eq_loop _, codeAny_builtin entry_eq_loop ?_⟩
  rw [Around.under_plainId plain_eq_loop _]; exact ne_loopIn l m us vs n1 n2 d1 d2 s1 s2 hs e _ 0 rfl A R _ ⟨hl, hm, he, by simpa using h⟩
theorem rcNe_lists {A : Around} {s : Shared} {E : Value → Shared → Prop} {l m : Addr} {us vs : Array Value} {e : Nat → Bool} {Q : Value → Shared → Prop} (hl : s.heap.IsList l us) (hm : s.heap.IsList m vs) (hs : us.size = vs.size) (hu : A.units < cLine)
    (he : ∀ j (h1 : j < us.size) (h2 : j < vs.size), EqIn prog w A.in1 s us[j] vs[j] (e j)) (h : Q (.bool (!(List.range us.size).all e)) s) : wpAny (model prog w) A (richCompare .NotEq (.ref l) (.ref m)) Q E s := by
  obtain ⟨⟨c1, d1, t1, s1⟩, ho, hc, n1, hd⟩ := id hl; obtain ⟨⟨c2, d2, t2, s2⟩, ho2, hc2, n2, hd2⟩ := id hm
  simp only at hc hd hc2 hd2; subst hc hd hc2 hd2
  exact wpAny_richCompare_same_room (T := "list") (op := .NotEq) ⟨_, ho, rfl⟩ ⟨_, ho2, rfl⟩ F.slot_list_ne (call_meetsIn F.slot_list_ne ⟨_, ho, rfl⟩ F.entry_list_ne (F.args_list_ne_2 _ _) (list_neIn l m us vs n1 n2 d1 d2 s1 s2 hs e)
    ⟨ho, ho2, he, show Value.bool (!(List.range us.size).all e) ≠ Value.notImplemented ∧ Q (.bool (!(List.range us.size).all e)) s from ⟨(fun x => nomatch x), h⟩⟩) hu
end
end PySem.SeqAt
namespace Tm
open PySem PySem.Spec
open PyProof.Rows L2
/-! ### lists that hold dicts, which are equal -/
def ItV (K : PySem.W.Frag) (H : Hp) (x y : V) : Prop := (∃ a b kx ky, x = .ref a ∧ y = .ref b ∧ Rd H a (.dK kx) ∧ Rd H b (.dK ky) ∧ kx.length = ky.length ∧ HitsV K H ky kx true) ∨ AtV K H x y true
theorem hitsIn {P : Program} {w : World} {A : Around} {s : Shared} {vy : List (Key × Value)} : ∀ {vx : List (Key × Value)} {r : Bool}, PySem.W.KeqHits A s vy vx r → PySem.W.KeqHitsIn P w A s vy vx r
  | _, _, .nil => .nil
  | _, _, .miss h => .miss h
  | _, _, .hit h e t => .hit h (e.inModel P w) (hitsIn t)
theorem hitsA {X : Cx} {A : Around} {pins : List (Addr × Obj)} {σ : L2.St} {H : Hp} {s : Shared} (hu : A.in1.units + 64 < cLine) (I : Inv X pins σ H s) {ky : List (Key × V)} {vy : List (Key × Value)} (ry : KV ky vy) : ∀ {kx : List (Key × V)} {vx : List (Key × Value)} {r : Bool}, KV kx vx → HitsV X.K H ky kx r → PySem.W.KeqHits A.in1 s vy vx r
  | _, _, _, .nil, h => by
    obtain rfl := h
    exact .nil
  | p :: kx, q :: vx, r, .cons e t, h => by
    obtain ⟨k, v⟩ := p
    obtain ⟨k', u⟩ := q
    obtain ⟨e1, e2⟩ := e
    obtain rfl : k = k' := e1
    have look := ry.val k
    rcases h with ⟨n, rfl⟩ | ⟨y, e, b, n, ⟨da, db, d1, d2, s1, s2, rfl⟩, h2, rfl⟩
    · rw [n] at look
      cases z : valueAt vy k with
      | none => exact .miss z
      | some w => rw [z] at look; exact look.elim
    · rw [n] at look
      cases z : valueAt vy k with
      | none => rw [z] at look; exact look.elim
      | some w =>
        rw [z] at look
        obtain ⟨as, g1⟩ := Dp.reads I da v u d1 e2
        obtain ⟨bs, g2⟩ := Dp.reads I db y w d2 look
        exact .hit z (PySem.W.keq_at (A := A) g1 g2 s1 s2 hu) (hitsA hu I ry t h2)
theorem item_eq {X : Cx} {pins : List (Addr × Obj)} {σ : L2.St} {H : Hp} {s : Shared} {x y : V} {u v : Value} (hu : X.A.units + 67 < cLine) (I : Inv X pins σ H s) (h : ItV X.K H x y) (rx : RelV x u) (ry : RelV y v) : SeqAt.EqIn X.prog X.w X.A.in1 s u v true := by
  rcases h with ⟨a, b, kx, ky, rfl, rfl, ha, hb, hl, hh⟩ | ⟨da, db, d1, d2, s1, s2, e⟩
  · obtain rfl : u = Value.ref a := rx
    obtain rfl : v = Value.ref b := ry
    obtain ⟨_, la, va, ra, dda⟩ := dk_rd I.hok ha
    obtain ⟨_, lb, vb, rb, ddb⟩ := dk_rd I.hok hb
    by_cases c : a = b
    · subst c; exact (SeqAt.EqAt.same _).inModel _ _
    · refine SeqAt.EqIn.of_refs c fun E Q hq => ?_
      have hits := hitsA (A := X.A.in1) (by simp only [Around.in1_units]; omega) I rb ra hh
      refine PySem.W.keq_eqIn (knd := mixKind X.prog X.w) la lb dda ddb (by simp only [Around.in1_units]; omega) (fun _ => hitsIn hits) ?_
      have e1 : (va.length == vb.length && true) = true := by rw [← ra.length, ← rb.length, hl]; simp
      rw [e1]; exact hq
  · obtain ⟨as, g1⟩ := Dp.reads I da x u d1 rx
    obtain ⟨bs, g2⟩ := Dp.reads I db y v d2 ry
    rw [e]
    exact (PySem.W.keq_at (A := X.A) g1 g2 s1 s2 (by simp only [Around.in1_units]; omega)).inModel _ _
def rEqL (K : PySem.W.Frag) (r : Bool) : R2 := fun x y H Q => ∃ a b xs ys, x = .ref a ∧ y = .ref b ∧ SqL K H a xs ∧ SqL K H b ys ∧ Paired (ItV K H) xs ys ∧ Q (.bl r) H
theorem all_true (n : Nat) : ((List.range n).all fun _ => true) = true := by simp
theorem items_eq {X : Cx} {pins : List (Addr × Obj)} {σ : L2.St} {H : Hp} {s : Shared} {xs ys : List V} {us vs : List Value} (hu : X.A.units + 67 < cLine) (I : Inv X pins σ H s) (h : Paired (ItV X.K H) xs ys) (rx : Vals xs us) (ry : Vals ys vs) :
    us.toArray.size = vs.toArray.size ∧ ∀ j (h1 : j < us.toArray.size) (h2 : j < vs.toArray.size), SeqAt.EqIn X.prog X.w X.A.in1 s us.toArray[j] vs.toArray[j] true := by
  induction h generalizing us vs with
  | nil => cases rx; cases ry; exact ⟨rfl, fun j h1 => by simp at h1⟩
  | cons h1 t ih =>
    cases rx with
    | cons a1 a2 => cases ry with
      | cons b1 b2 =>
        obtain ⟨e, f⟩ := ih a2 b2
        refine ⟨by simpa using e, fun j g1 g2 => ?_⟩
        cases j with
        | zero => exact item_eq hu I h1 a1 b1
        | succ j => exact f j (by simpa using g1) (by simpa using g2)
theorem op_eqL {X : Cx} (hu : X.A.units + 67 < cLine) : OpR X (compareOp .Eq) (rEqL X.K true) := by
  intro pins s σ H x y va1 va2 Q I rx ry h; obtain ⟨a, b, xs, ys, rfl, rfl, ha, hb, hh, q⟩ := h
  obtain rfl : va1 = Value.ref a := rx
  obtain rfl : va2 = Value.ref b := ry
  obtain ⟨us9, r1, p1, _⟩ := I.list ha
  obtain ⟨vs, r2, p2, _⟩ := I.list hb
  obtain ⟨e, f⟩ := items_eq hu I hh r1 r2
  refine SeqAt.rcIn_lists (e := fun _ => true) p1.isList p2.isList e (by omega) f ?_
  rw [all_true]; exact ⟨.bl true, H, I, rfl, q⟩
theorem op_neL {X : Cx} (hu : X.A.units + 67 < cLine) : OpR X (compareOp .NotEq) (rEqL X.K false) := by
  intro pins s σ H x y va1 va2 Q I rx ry h; obtain ⟨a, b, xs, ys, rfl, rfl, ha, hb, hh, q⟩ := h
  obtain rfl : va1 = Value.ref a := rx
  obtain rfl : va2 = Value.ref b := ry
  obtain ⟨us9, r1, p1, _⟩ := I.list ha
  obtain ⟨vs, r2, p2, _⟩ := I.list hb
  obtain ⟨e, f⟩ := items_eq hu I hh r1 r2
  refine SeqAt.rcNe_lists (e := fun _ => true) p1.isList p2.isList e (by omega) f ?_
  rw [all_true]; exact ⟨.bl false, H, I, rfl, q⟩
def sameIt : D → D → Prop
  | .dct _ (.k ks) ds, .dct _ (.k js) es => (∀ d ∈ ds, shD d = true) ∧ (∀ d ∈ es, shD d = true) ∧ eqDct ks ds js es = true
  | d, e => shD d = true ∧ shD e = true ∧ eqD d e = true
def sameIts : List D → List D → Prop
  | [], [] => True
  | d :: ds, e :: es => sameIt d e ∧ sameIts ds es
  | _, _ => False
def gEqL : G2 :=
  fun a b Q => match asL a, asL b with
    | some ds, some es => sameIts ds es ∧ Q (.bl true)
    | _, _ => False
def gNeL : G2 :=
  fun a b Q => match asL a, asL b with
    | some ds, some es => sameIts ds es ∧ Q (.bl false)
    | _, _ => False
theorem gEqL_is {o p : Bool} {ds es : List D} {Q : D → Prop} : gEqL (.lst o ds) (.lst p es) Q = (sameIts ds es ∧ Q (.bl true)) := rfl
theorem gNeL_is {o p : Bool} {ds es : List D} {Q : D → Prop} : gNeL (.lst o ds) (.lst p es) Q = (sameIts ds es ∧ Q (.bl false)) := rfl
theorem atV_of {K : KW} {F H : Hp} (hs : Ex F H) {v u : V} {d e : D} {A B : List Addr} (r1 : Rep K F H v d A) (r2 : Rep K F H u e B) (h1 : shD d = true) (h2 : shD e = true) (h3 : eqD d e = true) : AtV K H v u true := by
  unfold shD at h1 h2
  rw [Bool.and_eq_true] at h1 h2
  exact ⟨py d, py e, r1.dp hs h1.1, r2.dp hs h2.1, h1.2, h2.2, h3.symm⟩
theorem itV_of {K : KW} {F H : Hp} (hs : Ex F H) {v u : V} {d e : D} {A B : List Addr} (r1 : Rep K F H v d A) (r2 : Rep K F H u e B) (h : sameIt d e) : ItV K H v u := by
  unfold sameIt at h
  split at h
  · rename_i ks ds _ js es
    obtain ⟨w1, w2, h3⟩ := h
    obtain ⟨a, vs, C, rfl, q1, q2, q3⟩ := rep_dct hs r1
    obtain ⟨b, us, C2, rfl, g1, g2, g3⟩ := rep_dct hs r2
    unfold eqDct at h3
    rw [Bool.and_eq_true] at h3
    have l1 : (ks.zip vs).length = ks.length := by rw [List.length_zip]; have : ks.length = vs.length := q2; omega
    have l2 : (js.zip us).length = js.length := by rw [List.length_zip]; have : js.length = us.length := g2; omega
    have l3 : ks.length = js.length := by simpa using h3.1
    refine .inl ⟨a, b, _, _, rfl, rfl, q1, g1, by rw [l1, l2, l3], ?_⟩
    have := hitsV_of (js := js) hs g3 w2 q2 q3 w1
    rw [h3.2] at this
    exact this
  · exact .inr (atV_of hs r1 r2 h.1 h.2.1 h.2.2)
theorem itVs_of {K : KW} {F H : Hp} (hs : Ex F H) : ∀ {vs us : List V} {ds es : List D} {A B : List Addr}, Reps K F H vs ds A → Reps K F H us es B → sameIts ds es → Paired (ItV K H) vs us
  | _, _, _, _, _, _, .nil, .nil, _ => .nil
  | _, _, _, _, _, _, .cons a b _, .cons c d _, h => .cons (itV_of hs a c h.1) (itVs_of hs b d h.2)
  | _, _, _, _, _, _, .nil, .cons _ _ _, h => h.elim
  | _, _, _, _, _, _, .cons _ _ _, .nil, h => h.elim
theorem opd_L {K : KW} {F H : Hp} {x y : V} {a b : D} {A B : List Addr} {ds es : List D} {r : Bool} {Q : VK} (hs : Ex F H) (rx : Rep K F H x a A) (ry : Rep K F H y b B) (ha : asL a = some ds) (hb : asL b = some es) (h : sameIts ds es) (q : Q (.bl r) H) : rEqL K r x y H Q := by
  obtain ⟨p, vs, C, rfl, hq, rs, _⟩ := rep_asL hs rx ha
  obtain ⟨p2, us, C2, rfl, hq2, rs2, _⟩ := rep_asL hs ry hb
  exact ⟨p, p2, vs, us, rfl, rfl, hq, hq2, itVs_of hs rs rs2 h, q⟩
theorem opd_eqL {K : KW} : OpD K gEqL (rEqL K true) := by
  intro F H x y dx dy A B Q' Q hs rx ry w k
  unfold gEqL at w
  split at w
  · rename_i ds es e1 e2
    exact opd_L hs rx ry e1 e2 w.1 (k.same w.2 (.bl _))
  · exact w.elim
theorem opd_neL {K : KW} : OpD K gNeL (rEqL K false) := by
  intro F H x y dx dy A B Q' Q hs rx ry w k
  unfold gNeL at w
  split at w
  · rename_i ds es e1 e2
    exact opd_L hs rx ry e1 e2 w.1 (k.same w.2 (.bl _))
  · exact w.elim
theorem units68 {k : Nat} {A : Around} (r : Room k A) : A.units + 67 < cLine := by have := r.un; omega
end Tm

set_option Elab.async false
set_option linter.all false
set_option maxRecDepth 100000
set_option maxHeartbeats 1000000
namespace Tm
open PySem PySem.Spec
open PyProof.Rows L2

/-! ### d.setdefault(k, v), k a tuple -/
section
variable {X : Cx} {pins : List (Addr × Obj)} {σ : L2.St} {H : Hp} {s : Shared} {a b : Addr} {r : Value} {d : V} {k : List Key} {A : Around} {E : Value → Shared → Prop}
theorem t_setd {kvs : List (List Key × V)} {Q : Value → Shared → Prop} (hu : A.units + 1 < cLine) (I : Inv X pins σ H s) (e : H a = some (.dT kvs)) (eb : H b = some (.tup (k.map kV))) (rd : RelV d r) (hl : kvs.length < sizeLine)
    (h1 : ∀ v, valV kvs k = some v → ∀ (w' : Value) (s' : Shared), Inv X pins σ H s' → RelV v w' → Q w' s') (h2 : valV kvs k = none → ∀ (w' : Value) (s' : Shared), Inv X pins σ (upd H a (.dT (putK kvs k d))) s' → RelV d w' → Q w' s') :
    wpAny (model X.prog X.w) A (call (.builtin "dict.setdefault") [Value.ref a, Value.ref b, r]) Q E s := by
  obtain ⟨zz, hd, xs, rel, dd⟩ := dt_of I.hok e
  have hz9 : xs.length ≤ sizeLine := by rw [← Paired.length rel]; exact zz
  refine call_setdefault_heap (hsz := hz9) (tupleKind_room_in1 hu) (key_of I.hok eb) hd dd (fun p hp => ?_) fun hn h' dd' hs => ?_
  · have q := rel.val k
    rw [hp] at q
    cases q0 : valV kvs k with
    | none => rw [q0] at q; exact (show False from q).elim
    | some v0 => rw [q0] at q; exact h1 v0 q0 _ _ (I.tok _) q
  · have q := rel.val k
    rw [hn] at q
    cases q0 : valV kvs k with
    | some v0 => rw [q0] at q; exact (show False from q).elim
    | none =>
      have hl9 : (putK kvs k d).length ≤ sizeLine := by have := length_putK kvs k d; omega
      obtain ⟨q, es, ep, hq, g2, g3, g4, _, g5⟩ := dd'
      refine h2 q0 _ _ (d_write I (by rw [e]; exact True.intro) hs ⟨q, hq⟩ ⟨hl9, hd, _, (rel.put k eb rd).keeps fun c ys ec => ?_, q, es, ep, hq, g2, g3, g4, g5⟩) rd
      rw [upd_ne (ne_of ec e (fun z => nomatch z))]; exact ec
end
def tDSetdT (td ty tx : TE) : TE := fun σ H Q => td σ H fun x H1 => ∃ a, x = .ref a ∧ IsD H1 a ∧ ty σ H1 fun y H2 => tx σ H2 fun z H3 => ∃ (kvs : List (List Key × V)) (k : List Key) (b : Addr), H3 a = some (.dT kvs) ∧ y = .ref b ∧ H3 b = some (.tup (k.map kV)) ∧ kvs.length < sizeLine ∧
  (∀ v, valV kvs k = some v → Q v H3) ∧ (valV kvs k = none → Q z (upd H3 a (.dT (putK kvs k z))))
theorem pe_dsetdT {X : Cx} {o e f : Expr} {td ty tx : TE} {apos cpos : Pos} (hu : X.A.units + 1 < cLine) (ho : PE X o td) (he : PE X e ty) (hf : PE X f tx) (m : M2 X o "setdefault" apos e f cpos) : PE X (.Call (.Attribute o "setdefault" apos) [e, f] [] cpos) (tDSetdT td ty tx) := by
  refine ⟨fun pins s σ H Q I h0 => ?_⟩
  refine wpAny_Call_method m.base m.few m.line PySem.F.plainAttrs_dict PySem.F.slot_dict_setdefault PySem.F.type_dict_setdefault (thn (ho.run pins s σ H _ I h0) fun u s1 ⟨x, H1, I1, rx, a, ex, dx, q1⟩ => ?_)
  subst ex; obtain rfl : u = Value.ref a := rx
  obtain ⟨t1, t2, _⟩ := isD_at I1 dx
  refine ⟨t1, t2, ?_⟩; rw [m.trees]
  refine Calls.callWith_builtin rfl (Calls.evalArgs_plain (Calls.spliced_cons (thn (he.run pins s1 σ H1 _ I1 q1) fun kv s2 ⟨y, H2, I2, ry, q2⟩ =>
    Calls.spliced_cons (thn (hf.run pins s2 σ H2 _ I2 q2) fun fv s3 ⟨z, H3, I3, rz, kvs, k, b, ea, ey, eb, hl, q3, q4⟩ => Calls.spliced_nil ?_))))
  subst ey; obtain rfl : kv = Value.ref b := ry
  exact t_setd hu I3 ea eb rz hl (fun v hv w' s4 I4 rw' => ⟨v, _, I4, rw', q3 v hv⟩) fun hn w' s4 I4 rw' => ⟨z, _, I4, rw', q4 hn⟩
def setdDs {κ : Type} [DecidableEq κ] (ks : List κ) (ds : List D) (k : κ) (d : D) : List D := if k ∈ ks then ds else ds ++ [d]
def tSet1 (o : Option (List Key)) (ks : List (List Key)) (ds : List D) (d : D) (Q : DKeys → List D → Prop) : Prop := match o with
  | some k => Q (.t (putKs ks k)) (setdDs ks ds k d)
  | none => False
theorem tSet1_some {k : List Key} {ks : List (List Key)} {ds : List D} {d : D} {Q : DKeys → List D → Prop} : tSet1 (some k) ks ds d Q = Q (.t (putKs ks k)) (setdDs ks ds k d) := rfl
def tSetd (kd : DKeys) (ds : List D) (y d : D) (Q : DKeys → List D → Prop) : Prop := match kd, y with
  | .t ks, .tup es => tSet1 (keysOf es) ks ds d Q
  | _, _ => False
theorem tSetd_tup {ks : List (List Key)} {ds es : List D} {d : D} {Q : DKeys → List D → Prop} : tSetd (.t ks) ds (.tup es) d Q = tSet1 (keysOf es) ks ds d Q := rfl
def wSetdT (i : Nat) (wk w : WE) : WS := fun P px env => atDct i env fun _ _ => wk px env fun y _ env1 => dirty y = false ∧ w px env1 fun d _ env2 => atDct i env2 fun kd ds => dirty d = false ∧ dirtys ds = false ∧ kd.len ≤ 100000 ∧ tSetd kd ds y d fun kd' ds' => P.nx (env2.set i (some (.dct true kd' ds')))
theorem simS_setdT {K : KW} {E : EX} {i : Nat} {w wk : WE} {t tk : TE} (hk : Sim K E wk tk) (h : Sim K E w t) : SimS K E (wSetdT i wk w) (tDrop (tDSetdT (tVar i) tk t)) := by
  intro px F0 H0 F H σ env pv pd L S P D w1 k
  obtain ⟨kd0, ds0, e0, w2⟩ := atDct_is w1
  obtain ⟨a0, vs0, A0, ea, ha, _, _, _⟩ := S.mutD e0
  refine ⟨.ref a0, ea, a0, rfl, isD_of (.inl ha), ?_⟩
  refine hk px F0 H0 F H σ env pv pd L S _ _ w2 fun y by_ env1 kv F1 H1 w3 eF1 eH1 R1 => ?_
  obtain ⟨⟨A1, rk⟩, S1⟩ := R1.forget
  obtain ⟨dy, w3⟩ := w3
  have cy := rk.clean dy
  subst cy
  refine h px F0 H0 F1 H1 σ env1 pv pd L S1 _ _ w3 fun d b env2 v F2 H2 w4 eF2 eH2 R2 => ?_
  obtain ⟨⟨A2, r⟩, S2⟩ := R2.forget
  obtain ⟨kd, ds, e1, w5⟩ := atDct_is w4
  obtain ⟨g1, g2, g3, w6⟩ := w5
  obtain ⟨a, vs, A', es', hq, hl, ra, back⟩ := S2.mutD e1
  rw [ea] at es'; cases es'
  have c1 := ra.clean g2
  subst c1
  have c2 := r.clean g1
  subst c2
  unfold tSetd at w6
  split at w6
  · rename_i ks es
    have hl : ks.length = vs.length := hl
    unfold tSet1 at w6
    split at w6
    · rename_i key hkey
      cases rk with
      | tup hb rb =>
        have := rep_keys rb hkey
        subst this
        have hb2 := eH2 _ _ hb
        have zl : (ks.zip vs).length < sizeLine := by
          have g3 : ks.length ≤ 100000 := g3
          rw [List.length_zip]; exact lt_line (by omega)
        refine ⟨ks.zip vs, key, _, hq, rfl, hb2, zl, fun u hu => ?_, fun hu => ?_⟩
        · have hm : key ∈ ks := by
            by_cases c : key ∈ ks
            · exact c
            · have := valV_any key (ks.zip vs)
              rw [hu] at this
              obtain ⟨p, hp, e⟩ := List.any_eq_true.mp this
              have e := of_decide_eq_true e
              exact absurd (by rw [← e]; exact (List.of_mem_zip (show (p.1, p.2) ∈ ks.zip vs from hp)).1) c
          have e0 : setdDs ks ds key d = ds := by unfold setdDs; rw [if_pos hm]
          rw [e0] at w6
          have eks : putKs ks key = ks := by unfold putKs; rw [if_pos hm]
          rw [eks] at w6
          have := back (.t ks) vs ds hl ra
          have eH : upd H2 a0 ((DKeys.t ks).ho vs) = H2 := by
            funext b
            unfold upd
            split
            · rename_i q; rw [q]; exact hq.symm
            · rfl
          rw [eH] at this
          exact k.nx _ _ _ _ w6 this
        · have hm : key ∉ ks := fun c => by
            obtain ⟨j, hj⟩ := List.mem_iff_getElem?.mp c
            obtain ⟨u, hu2⟩ : ∃ u, vs[j]? = some u := ⟨_, List.getElem?_eq_getElem (by rw [← hl]; exact (List.getElem?_eq_some_iff.mp hj).1)⟩
            have := valV_any key (ks.zip vs)
            rw [hu] at this
            have := List.any_eq_false.mp this (key, u) (List.mem_of_getElem? (List.getElem?_zip_eq_some.mpr ⟨hj, hu2⟩))
            simp at this
          have e0 : setdDs ks ds key d = ds ++ [d] := by unfold setdDs; rw [if_neg hm]
          rw [e0] at w6
          obtain ⟨vs', h1, h2, h3⟩ := reps_put (k := key) HO.dT hl ra r
          rw [h1]
          have e3 : putDs ks ds key d = ds ++ [d] := by unfold putDs; rw [if_neg hm]
          rw [e3] at h3
          exact k.nx _ _ _ _ w6 (back (.t (putKs ks key)) vs' _ h2 h3)
    · exact w6.elim
  · exact w6.elim
section
variable {X : Cx} {E : EX} {e f : Expr} {w wk : WE} {npos apos cpos pos : Pos} {i : Nat} {x : Str}
theorem s_setdT (hu : X.A.units + 64 < cLine) (hk : DE X E e wk) (h : DE X E f w)
    (hN : X.N[i]? = some x := by rfl) (hv : Vis X.env.scope x := by first | exact Or.inl rfl | exact Or.inr (Or.inl rfl) | exact Or.inr (Or.inr rfl)) (hd : (x == ("__debug__" : Str)) = false := by decide) (hcd : (x == ("__classdict__" : Str)) = false := by decide)
    (m : M2 X (.Name x npos) "setdefault" apos e f cpos := by exact ⟨rfl, rfl, rfl, rfl⟩)
    (hsw : swapsWith (.Call (.Attribute (.Name x npos) "setdefault" apos) [e, f] [] cpos) none pos.line X.env = pure false := by rfl) :
    DS X E (.Expr (.Call (.Attribute (.Name x npos) "setdefault" apos) [e, f] [] cpos) pos) (wSetdT i wk w) := by
  obtain ⟨tk, pk, sk⟩ := hk.ex
  obtain ⟨t, p, sv⟩ := h.ex
  exact ⟨_, ps_expr (pe_dsetdT (by omega) (pe_var hN hv hd hcd) pk p m) hsw, simS_setdT sk sv⟩
end
/-! a slot frozen ahead of a statement -/
def wFrS (i : Nat) (w : WS) : WS := fun P px env => match env[i]? with
  | some (some d) => w P px (env.set i (some (fz d)))
  | _ => False
theorem simS_frS {K : KW} {E : EX} {i : Nat} {w : WS} {t : TS} (h : SimS K E w t) : SimS K E (wFrS i w) t := by
  intro px F0 H0 F H σ env pv pd L S P D w0 k
  have q : tVar i σ H (fun _ H1 => t D σ H1) := sim_frz (E := E) px F0 H0 F H σ env pv pd L S (fun _ _ env1 => w P px env1) _ (by unfold wFrz; unfold wFrS at w0; exact w0) fun d b env1 v F1 H1 w1 eF eH R => h px F0 H0 F1 H1 σ env1 pv pd L R.forget.2 P D w1 k
  obtain ⟨v, _, q⟩ := q
  exact q
theorem s_frS {X : Cx} {E : EX} {i : Nat} {st : Stmt} {w : WS} (h : DS X E st w) : DS X E st (wFrS i w) := by
  obtain ⟨t, p, s⟩ := h.ex
  exact ⟨t, p, simS_frS s⟩
end Tm

set_option Elab.async false
set_option linter.all false
set_option maxRecDepth 100000
set_option maxHeartbeats 1000000
namespace Tm
open PySem PySem.Spec
open PyProof.Rows L2

/-! ### a call with lists of one's own, whose answer holds frozen objects -/
mutual
/-- leans on nothing frozen but objects -/
def selfO : D → Bool
  | .tup ds => selfOs ds
  | .lst o ds => o && selfOs ds
  | .dct o _ ds => o && selfOs ds
  | .pin _ ds => selfOs ds
  | .obj _ _ _ ds => selfOs ds
  | .xd o _ _ ds => o && selfOs ds
  | .seq _ => false
  | _ => true
def selfOs : List D → Bool
  | [] => true
  | d :: ds => selfO d && selfOs ds
end
mutual
/-- owns nothing but lists -/
def ownL0 : D → Bool
  | .tup ds => ownL0s ds
  | .lst true ds => ownL0s ds
  | .pin _ ds => ownL0s ds
  | .dct true _ _ => false
  | .obj .f _ _ _ => true
  | .obj _ _ _ _ => false
  | .xd true _ _ _ => false
  | _ => true
def ownL0s : List D → Bool
  | [] => true
  | d :: ds => ownL0 d && ownL0s ds
end
theorem selfOs_true : ∀ {ds : List D}, selfOs ds = true ↔ ∀ d ∈ ds, selfO d = true
  | [] => by simp [selfOs]
  | d :: ds => by simp [selfOs, selfOs_true (ds := ds)]
section
variable {K : KW} {F F' H : Hp}
mutual
theorem Rep.lists : ∀ {v : V} {d : D} {A : List Addr}, Rep K F H v d A → ownL0 d = true → ∀ a ∈ A, ∃ vs, H a = some (.lst vs)
  | _, _, _, .non, _, a, ha => absurd ha List.not_mem_nil
  | _, _, _, .bl b, _, a, ha => absurd ha List.not_mem_nil
  | _, _, _, .int i, _, a, ha => absurd ha List.not_mem_nil
  | _, _, _, .str x, _, a, ha => absurd ha List.not_mem_nil
  | _, _, _, .ref b, _, a, ha => absurd ha List.not_mem_nil
  | _, _, _, .ty n, _, a, ha => absurd ha List.not_mem_nil
  | _, _, _, .tup _ r, hd, a, ha => Reps.lists r (by simpa [ownL0] using hd) a ha
  | _, _, _, .fz _ _, _, a, ha => absurd ha List.not_mem_nil
  | _, _, _, .own (vs := vs) h r, hd, a, ha => (List.mem_cons.mp ha).elim (fun e => ⟨_, e ▸ h⟩) (fun ha => Reps.lists r (by simpa [ownL0] using hd) a ha)
  | _, _, _, .seq _ _, _, a, ha => absurd ha List.not_mem_nil
  | _, _, _, .dF _ _ _, _, a, ha => absurd ha List.not_mem_nil
  | _, _, _, .dL _ _ _, _, a, ha => absurd ha List.not_mem_nil
  | _, _, _, .dO h _ r, hd, a, ha => by simp [ownL0] at hd
  | _, _, _, .pin h r, hd, a, ha => (List.mem_cons.mp ha).elim (fun e => ⟨_, e ▸ h⟩) (fun ha => Reps.lists r (by simpa [ownL0] using hd) a ha)
  | _, _, _, .oF _ _ _ _, _, a, ha => absurd ha List.not_mem_nil
  | _, _, _, .oO h _ _ r, hd, a, ha => by simp [ownL0] at hd
  | _, _, _, .oP h _ _ r, hd, a, ha => by simp [ownL0] at hd
  | _, _, _, .xF _ _ _ _ _, _, a, ha => absurd ha List.not_mem_nil
  | _, _, _, .xO h _ _ _ _, hd, a, ha => by simp [ownL0] at hd
theorem Reps.lists : ∀ {vs : List V} {ds : List D} {A : List Addr}, Reps K F H vs ds A → ownL0s ds = true → ∀ a ∈ A, ∃ vs, H a = some (.lst vs)
  | _, _, _, .nil, _, a, ha => absurd ha List.not_mem_nil
  | _, _, _, .cons h r e, hd, a, ha => by
    simp only [ownL0s, Bool.and_eq_true] at hd
    exact (List.mem_append.mp (by rw [← e]; exact ha)).elim (fun ha => Rep.lists h hd.1 a ha) (fun ha => Reps.lists r hd.2 a ha)
end
theorem kDs_selfO : ∀ (ks : List NestedKey), selfc (.tup (kDs ks)) = true := fun ks => by rw [selfc]; exact kDs_self ks
mutual
theorem Rep.aloneO (hO : ∀ a C dx l, F a = some (.ins C dx l) → F' a = some (.ins C dx l)) : ∀ {v : V} {d : D} {A : List Addr}, Rep K F H v d A → selfO d = true → Rep K F' H v d A
  | _, _, _, .non, _ => .non
  | _, _, _, .bl b, _ => .bl b
  | _, _, _, .int i, _ => .int i
  | _, _, _, .str x, _ => .str x
  | _, _, _, .ref a, _ => .ref a
  | _, _, _, .ty n, _ => .ty n
  | _, _, _, .tup h r, hd => .tup h (Reps.aloneO hO r (by simpa [selfO] using hd))
  | _, _, _, .fz h r, hd => by simp [selfO] at hd
  | _, _, _, .own h r, hd => .own h (Reps.aloneO hO r (by simpa [selfO] using hd))
  | _, _, _, .seq h r, hd => by simp [selfO] at hd
  | _, _, _, .dF _ _ _, hd => by simp [selfO] at hd
  | _, _, _, .dL _ _ _, hd => by simp [selfO] at hd
  | _, _, _, .dO h e r, hd => .dO h e (Reps.aloneO hO r (by simpa [selfO] using hd))
  | _, _, _, .pin h r, hd => .pin h (Reps.aloneO hO r (by simpa [selfO] using hd))
  | _, _, _, .oF h n e r, hd => .oF (hO _ _ _ _ h) n e (Reps.aloneO hO r (by simpa [selfO] using hd))
  | _, _, _, .oO h n e r, hd => .oO h n e (Reps.aloneO hO r (by simpa [selfO] using hd))
  | _, _, _, .oP h n e r, hd => .oP h n e (Reps.aloneO hO r (by simpa [selfO] using hd))
  | _, _, _, .xF _ _ _ _ _, hd => by simp [selfO] at hd
  | _, _, _, .xO h e g r1 r2, hd => .xO h e g (Reps.alone r1 (kDs_self _)) (Reps.aloneO hO r2 (by simpa [selfO] using hd))
theorem Reps.aloneO (hO : ∀ a C dx l, F a = some (.ins C dx l) → F' a = some (.ins C dx l)) : ∀ {vs : List V} {ds : List D} {A : List Addr}, Reps K F H vs ds A → selfOs ds = true → Reps K F' H vs ds A
  | _, _, _, .nil, _ => .nil
  | _, _, _, .cons h r e, hd => by
    simp only [selfOs, Bool.and_eq_true] at hd
    exact .cons (Rep.aloneO hO h hd.1) (Reps.aloneO hO r hd.2) e
end
end
def wCallO (spec : SpecT) (dds : List D) (w : WA) : WE := fun px env Q => w px env fun ds env1 => spec (fzs (ds ++ dds)) px0 fun d => (ownL0s ds = true ∧ selfO d = true) ∧ Q d false env1
theorem call_coreO {K : KW} {E' : XK} {spec : SpecT} {dvs : List V} {dds : List D} {px' : PX} {F0 H0 F H F1 H1 : Hp} {σ : L2.St} {env1 : Env} {pv : List V} {pd : List D} {Q' : D → Bool → Env → Prop} {Q : VK} {ds : List D} {vs : List V} {A : List Addr}
    (hdd : ∀ F H, Reps K F H dvs dds []) (hL : LinkP K H1 px' E') (w2 : spec (fzs (ds ++ dds)) px' fun d => (ownL0s ds = true ∧ selfO d = true) ∧ Q' d false env1) (eF : Ex F F1) (eH : Ex H H1) (r : Reps K F1 H1 vs ds A) (S1 : Sta K F0 H0 F1 H1 σ env1 pv pd)
    (k : ∀ d b env' v F' H', Q' d b env' → Ex F F' → Ex H H' → Res K F0 H0 F' H' σ env' pv pd v d b → Q v H') : spD K spec (vs ++ dvs) H1 Q E' := by
  have rall := r.app (hdd F1 H1)
  rw [List.append_nil] at rall
  let Fc : Hp := fun a => if a ∈ A then H1 a else F1 a
  have hF : Ex F1 Fc := fun a o q => by
    show (if a ∈ A then H1 a else F1 a) = some o
    split
    · exact S1.sub _ _ q
    · exact q
  have hA : ∀ a ∈ A, Fc a = H1 a := fun a ha => if_pos ha
  have hN : ∀ a, a ∉ A → Fc a = F1 a := fun a ha => if_neg ha
  have hsub : Ex Fc H1 := fun a o q => by
    by_cases hm : a ∈ A
    · rw [hA a hm] at q; exact q
    · rw [hN a hm] at q; exact S1.sub _ _ q
  refine ⟨Fc, _, px', _, hsub, rall.frozen hF hA, w2, hL, fun d v F3 H' C q eF3 eH' sub3 new3 rv3 hn hC3 => ?_⟩
  obtain ⟨⟨ho, hs⟩, q⟩ := q
  let F' : Hp := fun a => if a ∈ A then F1 a else F3 a
  have pA : ∀ a, a ∈ A → F' a = F1 a := fun a ha => if_pos ha
  have pN : ∀ a, a ∉ A → F' a = F3 a := fun a ha => if_neg ha
  have eF' : Ex F1 F' := fun a o e => by
    by_cases hm : a ∈ A
    · rw [pA a hm]; exact e
    · rw [pN a hm]; exact eF3 _ _ (hF _ _ e)
  have sub' : Ex F' H' := fun a o e => by
    by_cases hm : a ∈ A
    · rw [pA a hm] at e; exact eH' _ _ (S1.sub _ _ e)
    · rw [pN a hm] at e; exact sub3 _ _ e
  have new' : ∀ a, F' a ≠ none → F1 a ≠ none ∨ H1 a = none := fun a z => by
    by_cases hm : a ∈ A
    · rw [pA a hm] at z; exact .inl z
    · rw [pN a hm] at z
      have := new3 a z
      rw [hN a hm] at this; exact this
  have rv : Rep K F' H' v d C := rv3.aloneO (fun a C0 dx l e => by
    by_cases hm : a ∈ A
    · obtain ⟨xs, ex⟩ := r.lists ho a hm
      have := eF3 a _ ((hA a hm).trans ex)
      rw [this] at e; cases e
    · rw [pN a hm]; exact e) hs
  have hC : ∀ a ∈ C, F' a = none ∧ H1 a = none := fun a ha => by
    obtain ⟨c1, c2⟩ := hC3 a ha
    refine ⟨?_, c2⟩
    by_cases hm : a ∈ A
    · rw [pA a hm]
      cases z : F1 a with
      | none => rfl
      | some o => rw [S1.sub _ _ z] at c2; cases c2
    · rw [pN a hm]; exact c1
  refine k d false env1 v F' H' q (eF.trans eF') (eH.trans eH') ?_
  obtain ⟨A0, B0, h1, h2, h3, h4⟩ := S1.own
  have here : ∀ a ∈ A0 ++ B0, ∃ o, H1 a = some o := fun a ha => by
    rcases List.mem_append.mp ha with ha | ha
    · exact h1.there a ha
    · exact h2.there a ha
  have away : ∀ a ∈ A0 ++ B0, F' a = none := fun a ha => by
    obtain ⟨xs, e⟩ := here a ha
    cases z : F' a with
    | none => rfl
    | some o =>
      rcases new' a (by rw [z]; simp) with y | y
      · exact absurd (h4 a ha).1 y
      · rw [y] at e; cases e
  refine ⟨S1.exF.trans eF', S1.exH.trans eH', sub', fun a z => (new' a z).elim (S1.new a) fun y => .inr (S1.exH.none y), A0, C ++ B0, h1.ex eF' eH', .cons rv (h2.ex eF' eH') rfl, ?_, fun a ha => ?_⟩
  · have dis : ∀ a ∈ C, ∀ b ∈ A0 ++ B0, a ≠ b := fun a ha b hb z => by
      subst z
      obtain ⟨xs, q⟩ := here a hb
      rw [(hC a ha).2] at q; cases q
    rw [List.nodup_append] at h3 ⊢
    refine ⟨h3.1, ?_, fun a ha b hb => ?_⟩
    · rw [List.nodup_append]
      exact ⟨hn, h3.2.1, fun a ha b hb => dis a ha b (List.mem_append_right _ hb)⟩
    · rcases List.mem_append.mp hb with hb | hb
      · exact (dis b hb a (List.mem_append_left _ ha)).symm
      · exact h3.2.2 a ha b hb
  · rcases List.mem_append.mp ha with ha | ha
    · exact ⟨away a (List.mem_append_left _ ha), (h4 a (List.mem_append_left _ ha)).2⟩
    · rcases List.mem_append.mp ha with ha | ha
      · exact ⟨(hC a ha).1, S1.exH.none (hC a ha).2⟩
      · exact ⟨away a (List.mem_append_right _ ha), (h4 a (List.mem_append_right _ ha)).2⟩
section
variable {X : Cx} {E : EX} {k : Nat} {f : Addr} {fd : FuncData} {ps : List Str} {spec : SpecT} {dvs : List V} {dds : List D} {ds : List Value} {x : Str} {p pos : Pos} {e : Expr} {es : List Expr} {w : WA}
theorem d_callO (G : FnOk X.prog X.w X.K X.mg X.base CX0 k f fd ps (spD X.kw spec)) (hr : Room k X.A) (hg : Gl X x) (hm : X.mg x = some (.ref f)) (hk : PySem.W.keepIn X.K (.ref f) = true) (hb : Binds X.K fd ps ds) (hd : Vals dvs ds) (hdd : ∀ F H, Reps X.kw F H dvs dds [])
    (ha : DA X E (e :: es) w) (hdb : (x == ("__debug__" : Str)) = false := by decide) (he : starEach (e :: es) X.env = (false, eval e X.env) :: starEach es X.env := by rfl) (hpl : (backTo pos (starEach es X.env)).any (·.1) = false := by rfl) :
    DE X E (.Call (.Name x p) (e :: es) [] pos) (wCallO spec dds w) := by
  obtain ⟨t, pa, sa⟩ := ha.ex
  refine ⟨_, pe_call G hr hg hm hk hb hd pass0 pa hdb he hpl, ?_⟩
  intro px F0 H0 F H σ env pv pd L S Q' Q w1 k
  refine sa px F0 H0 F H σ env pv pd L S _ _ w1 fun ds env1 vs F1 H1 A w2 eF eH r S1 => ?_
  exact call_coreO hdd linkP0 w2 eF eH r S1 k
end
end Tm

set_option Elab.async false
set_option linter.all false
set_option maxRecDepth 100000
set_option maxHeartbeats 1000000
/-! d.get(k, []) of a dict of nested keys -/
namespace Tm
open PySem PySem.Spec
open PyProof.Rows L2
section
variable {X : Cx} {pins : List (Addr × Obj)} {σ : L2.St} {H : Hp} {s : Shared} {a : Addr} {A : Around} {E : Value → Shared → Prop} {ts : XT} {t : Bool} {k : NestedKey} {y z : V} {uk uz : Value}
theorem x_get2 {Q : Value → Shared → Prop} (hu : A.units + 64 < cLine) (I : Inv X pins σ H s) (e : H a = some (XO X.w a ts)) (g : KeyG H t ts) (ky : NKV H k y) (ok : okK t k = true) (ry : RelV y uk) (rz : RelV z uz) (h : ∀ w' s', Inv X pins σ H s' → RelV ((lookX ts k).getD z) w' → Q w' s') :
    wpAny (model X.prog X.w) A (call (.builtin "dict.get") [.ref a, uk, uz]) Q E s := by
  cases t with
  | true =>
    obtain ⟨zz, hd, xs, rel, dd⟩ := xo_t I.hok e g
    obtain ⟨b, rfl, rfl, ki⟩ := nk_key I ky ok ry
    exact call_meetsIn PySem.F.slot_dict_get dd.typeIs PySem.F.entry_dict_get (PySem.F.args_dict_get_3 _ _ _) (meetsH_dict_get_default (nestedKind X.prog X.w) a b hd uz) ⟨nk_room hu, k, xs, ki, dd, h _ _ (I.tok _) ((rel.look k).getD rz)⟩
  | false =>
    obtain ⟨zz, hd, xs, rel, dd⟩ := xo_f I.hok e g
    exact call_meetsIn PySem.F.slot_dict_get dd.typeIs PySem.F.entry_dict_get (PySem.F.args_dict_get_3 _ _ _) (meets_dict_get_default (vkKind X.prog X.w) a (vk_of ky (okK_is ok).2.2 ((okK_is ok).1 rfl) ry) hd uz) ⟨_, dd.mapOf, h _ _ (I.tok _) ((rel.look k).getD rz)⟩
end
def gXGetL : G2
  | .xd _ t ks ds, y, Q => ∃ k, y = kD k ∧ okK t k = true ∧ (∀ d, lookD ks ds k = some d → dirty d = false ∧ Q d) ∧ (lookD ks ds k = none → Q (.lst true []))
  | _, _, _ => False
theorem gXGetL_is {y : D} {o t : Bool} {ks : List NestedKey} {ds : List D} {Q : D → Prop} : gXGetL (.xd o t ks ds) y Q = ∃ k, y = kD k ∧ okK t k = true ∧ (∀ d, lookD ks ds k = some d → dirty d = false ∧ Q d) ∧ (lookD ks ds k = none → Q (.lst true [])) := rfl
def wXGetL (wa wb : WE) : WE := fun px env Q => wa px env fun a _ env1 => isXd a = true ∧ wb px env1 fun b _ env2 => gXGetL a b fun d => Q d false env2
def tXGet2 (W : World) (td ty tx : TE) : TE := fun σ H Q => td σ H fun x H1 => ∃ a ts, x = .ref a ∧ H1 a = some (XO W a ts) ∧ ty σ H1 fun y H2 => tx σ H2 fun z H3 => ∃ t ts k, H3 a = some (XO W a ts) ∧ KeyG H3 t ts ∧ NKV H3 k y ∧ okK t k = true ∧ Q ((lookX ts k).getD z) H3
theorem pe_xget2 {X : Cx} {o e f : Expr} {td ty tx : TE} {apos cpos : Pos} (hu : X.A.units + 64 < cLine) (ho : PE X o td) (he : PE X e ty) (hf : PE X f tx) (m : M2 X o "get" apos e f cpos) : PE X (.Call (.Attribute o "get" apos) [e, f] [] cpos) (tXGet2 X.w td ty tx) := by
  refine ⟨fun ps s σ H Q I h => ?_⟩
  refine wpAny_Call_method m.base m.few m.line PySem.F.plainAttrs_dict PySem.F.slot_dict_get PySem.F.type_dict_get (thn (ho.run ps s σ H _ I h) fun ud s1 ⟨x, H1, I1, rx, a, ts, ex, d, q1⟩ => ?_)
  subst ex
  obtain rfl : ud = Value.ref a := rx
  obtain ⟨_, _, ob, es, ep, e1, e2, _⟩ := xo_rd I1.hok d
  refine ⟨⟨ob, e1, e2.1⟩, fun b q => by cases q; exact ⟨ob, e1, e2.2.1⟩, ?_⟩
  rw [m.trees]
  refine Calls.callWith_builtin rfl (Calls.evalArgs_plain (Calls.spliced_cons (thn (he.run ps s1 σ H1 _ I1 q1) fun iv s2 ⟨y, H2, I2, ry, q2⟩ =>
    Calls.spliced_cons (thn (hf.run ps s2 σ H2 _ I2 q2) fun fv s3 ⟨z, H3, I3, rz, t, ts2, k, ea, g, ky, ok, q3⟩ => Calls.spliced_nil ?_))))
  exact x_get2 hu I3 ea g ky ok ry rz fun w' s4 I4 rw' => ⟨_, H3, I4, rw', q3⟩
theorem sim_xgetL {K : KW} {E : EX} {wa wb : WE} {ta tb : TE} (ha : Sim K E wa ta) (hb : Sim K E wb tb) : Sim K E (wXGetL wa wb) (tXGet2 K.w ta tb (tLst tNil)) := by
  intro px F0 H0 F H σ env pv pd L S Q' Q w k
  refine ha px F0 H0 F H σ env pv pd L S _ _ w fun a ba env1 x F1 H1 w1 eF1 eH1 R1 => ?_
  obtain ⟨⟨A, rx⟩, S1⟩ := R1.forget
  obtain ⟨hi, w1⟩ := w1
  cases a with
  | xd o t ks ds =>
    obtain ⟨a, ts, rfl, h1, h2, h3, h4, h5, h6⟩ := rep_xd S1.sub rx
    refine ⟨a, ts, rfl, h1, hb px F0 H0 F1 H1 σ env1 pv pd L S1 _ _ w1 fun b bb env2 y F2 H2 w2 eF2 eH2 R2 => ?_⟩
    obtain ⟨⟨B, ry⟩, S2⟩ := R2.forget
    rw [gXGetL_is] at w2
    obtain ⟨kk, rfl, ok, wf, wn⟩ := w2
    refine ⟨by rw [show ([] : List V).length = 0 from rfl]; exact Nat.zero_le _, fun p hp => ?_⟩
    have en := Ex.new (o := .lst []) hp
    have h1' := en _ _ (eH2 _ _ h1)
    have h6' := (h6.ex eF2 eH2).ex (Same.refl _) en
    refine ⟨t, ts, kk, h1', keyG_of h2 h4 ((h5.ex eF2 eH2).ex (Same.refl _) en), okK_nk (ry.ex (Same.refl _) en) ok, ok, ?_⟩
    rcases lookX_d (k := kk) h6' with ⟨z1, z2⟩ | ⟨v, d', C, e1, e2, r⟩
    · rw [h2] at wn
      rw [z1]
      obtain ⟨AA, rA, nA, put⟩ := Sta.gather (vs := []) (ds := []) rfl S2
      cases rA
      exact k (.lst true []) false env2 (.ref p) F2 _ (wn z2) (eF1.trans eF2) ((eH1.trans eH2).trans en) (put (.lst []) p (.lst true []) [p] hp en (.own upd_same .nil) (.inr rfl))
    · rw [h2] at wf
      obtain ⟨hd, q⟩ := wf d' e2
      have := r.clean hd
      subst this
      rw [e1]
      exact k _ false env2 _ F2 _ q (eF1.trans eF2) ((eH1.trans eH2).trans en) ((S2.grow en).clean r)
  | _ => cases hi
theorem d_xgetL {X : Cx} {E : EX} {a b : Expr} {wa wb : WE} {lpos apos cpos : Pos} (hu : X.A.units + 64 < cLine) (ha : DE X E a wa) (hb : DE X E b wb) (m : M2 X a "get" apos b (.List [] lpos) cpos := by exact ⟨rfl, rfl, rfl, rfl⟩) : DE X E (.Call (.Attribute a "get" apos) [b, .List [] lpos] [] cpos) (wXGetL wa wb) := by
  obtain ⟨ta, pa, sa⟩ := ha.ex
  obtain ⟨tb, pb, sb⟩ := hb.ex
  exact ⟨_, pe_xget2 hu pa pb (pe_lst pa_nil) m, sim_xgetL sa sb⟩
/-- a promise that is never asked for -/
theorem okM0 {P : Program} {K : KW} {mg : Str → Option Value} {base : Heap} {CX : CXT} {k : Nat} {f : Addr} {fd : FuncData} {ps : List Str} {spec : SpecM} (h : ∀ xs ds Q, ¬ spec xs ds Q) : FnOk P K.w K mg base CX k f fd ps (spM K spec) :=
  ⟨fun vs H Q E ⟨_, _, _, _, _, _, _, _, _, _, _, _, _, z, _⟩ => (h _ _ _ z).elim, fun A outer s H args us vs Q E _ _ _ _ ⟨_, _, _, _, _, _, _, _, _, _, _, _, _, z, _⟩ => (h _ _ _ z).elim⟩
theorem okD0 {P : Program} {K : KW} {mg : Str → Option Value} {base : Heap} {CX : CXT} {k : Nat} {f : Addr} {fd : FuncData} {ps : List Str} {spec : SpecT} (h : ∀ ds px Q, ¬ spec ds px Q) : FnOk P K.w K mg base CX k f fd ps (spD K spec) :=
  ⟨fun vs H Q E ⟨_, _, _, _, _, _, z, _⟩ => (h _ _ _ z).elim, fun A outer s H args us vs Q E _ _ _ _ ⟨_, _, _, _, _, _, z, _⟩ => (h _ _ _ z).elim⟩
end Tm

set_option Elab.async false
set_option linter.all false
set_option maxRecDepth 100000
set_option maxHeartbeats 1000000
/-! a walk over a frozen dict's items, its keys tuples -/
namespace L2
open PySem PySem.Spec PyProof.Rows
section
variable {X : Cx} {pins : List (Addr × Obj)} {σ : St} {H : Hp} {s : Shared} {d : Addr} {o : Obj}
theorem Inv.frzT2 {kvs : List (List Key × V)} (I : Inv X pins σ H s) (h : H d = some (.frz o (.dT kvs))) :
    (d == sysModules) = false ∧ s.heap.get? d = some o ∧ o.ExactDict ∧ ∃ (es : Array DictEntry) (ep : Nat), o.data = .dict es ep ∧ es.size = kvs.length ∧
      ∀ (i : Nat) (k : List Key) (v : V), kvs[i]? = some (k, v) → ∃ (en : DictEntry) (q : Addr), es[i]? = some en ∧ en.key = .ref q ∧ H q = some (.tup (k.map kV)) ∧ RelV v en.val := by
  obtain ⟨hd, z, hs, xs, pr, o', es, ep, ho, hx, hdt, he, _⟩ := I.hok d _ h
  rw [hd] at ho
  cases ho
  refine ⟨hs, hd, hx, es, ep, hdt, ?_, fun i k v e => ?_⟩
  · have l1 : es.size = xs.length := size_of_entries he
    have l2 : kvs.length = xs.length := Paired.length pr
    omega
  · obtain ⟨b, hb, e1, e2, e3⟩ := paired_get pr e
    have q := entry_at he i
    rw [hb] at q
    exact ⟨_, b.2.1, q, rfl, e2, e3⟩
end
/-- the pairs of a dict with tuple keys, each a new tuple -/
def ItiT (d : Addr) (o : Obj) (kvs : List (List Key × V)) : It :=
  ⟨fun i H => H d = some (.frz o (.dT kvs)) ∧ i < kvs.length, fun i H x H' => ∃ T k v q, kvs[i]? = some (k, v) ∧ x = .ref T ∧ H q = some (.tup (k.map kV)) ∧ H T = none ∧ H' = upd H T (.tup [.ref q, v]), fun i H => H d = some (.frz o (.dT kvs)) ∧ kvs.length ≤ i⟩
section
variable {P : Program} {w : World} {K : PySem.W.Frag} {tg : Expr} {d : Addr} {o : Obj} {es : Array DictEntry} {ep : Nat}
theorem turn_itemsT {kvs : List (List Key × V)} {elts : List Expr} {kk : Nat} {tpos : Pos} (it : Addr) (hod : o.data = .dict es ep) :
    Turn P w K (.Tuple elts kk tpos) (ItiT d o kvs) [it] it (fun i h => ∃ ok ov, IsItemIter h it d i kvs.length ep ok ov) where
  mem := by simp
  obj := fun i h st b hb => by
    have e : b = it := by simpa using hb
    subst e
    obtain ⟨ok, ov, e⟩ := st
    exact ⟨_, e, fun v z => nomatch z⟩
  keep := fun i h h' st k => let ⟨ok, ov, e⟩ := st; ⟨ok, ov, k it (by simp) _ e⟩
  item := by
    intro X hP hw hK hc i pins s σ H E I hf st hg
    subst hP hw hK
    obtain ⟨hd, hi⟩ := hg
    obtain ⟨hs, hgd, hx, es', ep', hdt, hsz, ent⟩ := I.frzT2 hd
    obtain ⟨rfl, rfl⟩ := dict_ep hod hdt
    obtain ⟨⟨k, v⟩, hkv⟩ : ∃ p, kvs[i]? = some p := ⟨kvs[i], List.getElem?_eq_getElem hi⟩
    obtain ⟨en, q, hen, hkey, hq, ru⟩ := ent i k v hkv
    obtain ⟨ok, ov, he⟩ := st
    rw [← hsz] at he
    have hlt : it < s.heap.objs.size := Heap.lt_size he
    have hie : i < es'.size := by rw [hsz]; exact hi
    have een : es'[i] = en := by
      have := Array.getElem?_eq_getElem hie
      rw [hen] at this
      exact (Option.some.inj this).symm
    refine DT.nextI he ⟨_, hgd, hx, hdt⟩ hie fun h' ho hT hz hk => ?_
    rw [een] at ho hT
    refine ⟨_, rfl, wpAny_letOwnedTupleGo_items (s := { s with heap := h' }) ho fun h'' he' sb => ?_⟩
    have hT2 : h''.get? s.heap.objs.size = some { cls := .type "tuple", data := .seq #[en.key, en.val] } := (sb.2 _ (Nat.ne_of_gt hlt)).trans hT
    have new : ObjOk X.prog X.w (upd H s.heap.objs.size (.tup [.ref q, v])) h'' s.heap.objs.size (.tup [.ref q, v]) :=
      ⟨by show 2 ≤ sizeLine; decide, [en.key, en.val], .cons (show RelV (.ref q) en.key from hkey) (.cons ru .nil), ⟨_, hT2, rfl, _, rfl⟩⟩
    have I1 : Inv X pins σ (upd H s.heap.objs.size (.tup [.ref q, v])) { s with heap := h'' } :=
      I.turnedNew (t' := s.toks) (ch := [it]) (fun b ob hb e => (sb.2 b (by simpa using hb)).trans (hk b ob (by simpa using hb) e)) hf (Nat.le_refl _) new
    refine ⟨.ref s.heap.objs.size, _, I1, rfl, ⟨_, k, v, q, hkv, rfl, hq, I.hok.fresh (Nat.le_refl _), rfl⟩, ⟨en.key, en.val, ?_⟩, fun b hb => ?_⟩
    · rw [← hsz]; exact he'
    · have e : b = it := by simpa using hb
      rw [e, upd_ne (Nat.ne_of_lt hlt)]
      exact (hf it (by simp)).1
  done := by
    intro X hP hw hK hc i pins s σ H E I hf st hg
    subst hP hw hK
    obtain ⟨hd, hi⟩ := hg
    obtain ⟨f0, f1, f2, f3, f4, f5⟩ := hf it (by simp)
    obtain ⟨hs, hgd, hx, es', ep', hdt, hsz, ent⟩ := I.frzT2 hd
    obtain ⟨rfl, rfl⟩ := dict_ep hod hdt
    obtain ⟨ok, ov, he⟩ := st
    rw [← hsz] at he
    exact DT.endI (I.ok.hd hc) he ⟨_, hgd, hx, hdt⟩ (by rw [hsz]; exact hi) fun h' eb => ⟨rfl, I.turned (t' := s.toks) (fun b ob hb e => eb b ob hb e) f0 f1 f3 f4 f5⟩
  self := fun A i s Q E st h => let ⟨_, _, e⟩ := st; PySem.W.kcp_self e h
end
def iItemsT (td : TE) : TI := fun σ H R => td σ H fun x H1 => ∃ d o kvs, x = .ref d ∧ H1 d = some (.frz o (.dT kvs)) ∧ R (ItiT d o kvs) H1
section
variable {X : Cx} {tg e : Expr} {td : TE} {apos cpos : Pos}
theorem pi_itemsT {elts : List Expr} {kk : Nat} {tpos : Pos} (he : PE X e td) (hbase : attributeBase e "items" X.env (eval e X.env) = eval e X.env := by rfl) (hline : (apos.endLine == cpos.line) = true := by rfl) :
    PI X (.Tuple elts kk tpos) (.Call (.Attribute e "items" apos) [] [] cpos) (iItemsT td) := by
  refine ⟨fun pins s σ H R I h => ?_⟩
  refine wpAny_Call_method (T := "dict") (id := "dict.items") hbase rfl hline F.plainAttrs_dict F.slot_dict_items F.type_dict_items (thn (he.run pins s σ H _ I h) fun u s1 ⟨x, H1, I1, rx, d, o, kvs, ex, hd, q⟩ => ?_)
  subst ex
  obtain rfl : u = Value.ref d := rx
  obtain ⟨hs, hgd, hx, es, ep, hdt, hsz, ent⟩ := I1.frzT2 hd
  have raw : DT.Raw s1.heap d es ep := ⟨o, hgd, hx, hdt⟩
  refine ⟨raw.typeIs, ?_, ?_⟩
  · intro b q
    cases q
    exact ⟨o, hgd, hx.2.1⟩
  have I2 : Inv X pins σ H1 { s1 with heap := s1.heap.push { cls := .type "dict_items", data := .fields #[.ref d] } } := I1.kept (t' := s1.toks) fun b ob q => Heap.get?_push_of_some _ q
  have fin : wpAny (model X.prog X.w) X.A (pyIter (.ref s1.heap.objs.size)) (PIE X pins σ (.Tuple elts kk tpos) R) X.xe { s1 with heap := s1.heap.push { cls := .type "dict_items", data := .fields #[.ref d] } } := by
    refine DT.iterI (d := d) (es := es) (ep := ep) ⟨_, Heap.get?_push_size _ rfl, rfl, rfl⟩ (raw.push _) (pi_one (tk := s1.toks) I2 _ (turn_itemsT _ hdt) ⟨.none, .none, ?_⟩ q)
    rw [← hsz]
    exact Heap.get?_push_size _ rfl
  show wpAny _ _ (callWith cpos (.builtin "dict.items") [.ref d] [] []) _ X.xe s1
  exact method_meetsIn F.slot_dict_items F.entry_dict_items rfl (PySem.evalArgs_none ⟨rfl, raw.typeIs, F.args_dict_items_1 _, _, DT.meetsItems (es := es) (ep := ep) hs, raw, fin⟩)
end
end L2
namespace Tm
open PySem PySem.Spec PyProof.Rows L2
def ktD (k : List Key) : D := .tup (k.map keyD)
def ktvD (p : List Key × D) : D := .tup [ktD p.1, p.2]
def kvtD (ks : List (List Key)) (ds : List D) : List D := (ks.zip ds).map ktvD
def wForIT (i : Nat) (g : WG) (b : WS) : WS := fun P px env => match env[i]? with
  | some (some (.dct false (.t ks) ds)) => dirtys ds = false ∧ ForW g b P px0 (kvtD ks ds) env
  | _ => False
theorem rep_ktv {K : KW} {F H : Hp} {T q : Addr} {k : List Key} {v : V} {d : D} (hT : H T = some (.tup [.ref q, v])) (hq : H q = some (.tup (k.map kV))) (r : Rep K F H v d []) : Rep K F H (.ref T) (ktvD (k, d)) [] :=
  .tup hT (.cons (A := []) (B := []) (.tup hq (reps_keys k)) (.cons (A := []) (B := []) r .nil rfl) rfl)
/-- the loop itself, the dict locked -/
theorem walkIT {K : KW} {E : EX} {i : Nat} {g : WG} {b : WS} {tg : TG} {tb : TS} (hg : SimG K g tg) (hb : SimS K E b tb) {F0 H0 F H : Hp} {σ : L2.St} {env : Env} {pv : List V} {pd : List D} {a : Addr} {od : Obj} {ks : List (List Key)} {vs : List V} {ds : List D} {P : PEnds} {D' : Ends}
    (hl : ks.length = vs.length) (hd : vs.length = ds.length) (hc : dirtys ds = false) (hZ : F0 a = some (.frz od (.dT (ks.zip vs)))) (hσ : σ[i]? = some (some (.ref a))) (S : Sta K F0 H0 F H σ env (vs ++ pv) (ds ++ pd)) (w : ForW g b P px0 (kvtD ks ds) env) (k : LinkD K F0 H0 pv pd P D') :
    tFor (iItemsT (tVar i)) tg tb D' σ H := by
  have atZ : ∀ {F2 H2 : Hp} {σ2 : L2.St} {env2 : Env}, Sta K F0 H0 F2 H2 σ2 env2 (vs ++ pv) (ds ++ pd) → H2 a = some (.frz od (.dT (ks.zip vs))) := fun S2 => S2.sub a _ (S2.exF a _ hZ)
  refine ⟨.ref a, hσ, a, od, ks.zip vs, rfl, atZ S, ?_⟩
  obtain ⟨I, i0, turn, done⟩ := w
  have nl : (kvtD ks ds).length = ds.length := by unfold kvtD; rw [List.length_map, List.length_zip]; omega
  have zl : (ks.zip vs).length = ds.length := by rw [List.length_zip]; omega
  refine ⟨fun n m σ' H' => m = ds.length - n ∧ n ≤ ds.length ∧ ∃ env' F', I n env' ∧ Sta K F0 H0 F' H' σ' env' (vs ++ pv) (ds ++ pd), ⟨ds.length, by simp, Nat.zero_le _, _, _, i0, S⟩, ?_⟩
  rintro n m σ2 H2 ⟨rfl, hle, env2, F2, i2, S2⟩
  obtain ⟨A, rs⟩ := S2.told hd
  by_cases hlt : n < ds.length
  · refine .inr ⟨⟨atZ S2, by rw [zl]; exact hlt⟩, fun σ' H' => ∃ env' F', I (n + 1) env' ∧ Sta K F0 H0 F' H' σ' env' (vs ++ pv) (ds ++ pd), fun σ' H' q => ⟨ds.length - (n + 1), by omega, rfl, hlt, q⟩, fun x H' y => ?_⟩
    obtain ⟨T, key, v, q, hkv, rfl, hq, hT, rfl⟩ := y
    obtain ⟨hk1, hk2⟩ := List.getElem?_zip_eq_some.mp hkv
    obtain ⟨d, hdn⟩ : ∃ d, ds[n]? = some d := ⟨_, List.getElem?_eq_getElem hlt⟩
    obtain ⟨v', C, hv', rx, _⟩ := rs.get hdn
    simp only at hk2
    rw [hk2] at hv'; cases hv'
    have cl := rx.clean (dirtys_false.mp hc d (List.mem_of_getElem? hdn))
    subst cl
    have en := Ex.new (o := .tup [.ref q, v]) hT
    have S3 := (S2.grow en).clean (rep_ktv upd_same (en _ _ hq) (rx.ex (Same.refl _) en))
    have item : (kvtD ks ds)[n]? = some (ktvD (key, d)) := by
      unfold kvtD
      have hz : (ks.zip ds)[n]? = some (key, d) := List.getElem?_zip_eq_some.mpr ⟨hk1, hdn⟩
      rw [List.getElem?_map, hz]; rfl
    refine hg F0 H0 F2 _ σ2 env2 _ _ _ _ S3 _ _ (turn n _ env2 item i2) fun env3 σ3 w3 S4 => ?_
    exact hb px0 F0 H0 F2 _ σ3 env3 _ _ link0 S4 _ _ w3 ⟨fun σ' env' F' H' q S' => ⟨env', F', q, S'⟩, fun d v F' H' σ' env' pv' pd' q S' => k.rt d v F' H' σ' env' pv' pd' q S', fun σ' env' F' H' q S' => k.nx _ _ _ _ q (Sta.drops hd S'), fun σ' env' F' H' q S' => ⟨env', F', q, S'⟩⟩
  · have en : n = ds.length := by omega
    subst en
    have q := done env2 (by rw [nl]; exact i2)
    exact .inl ⟨⟨atZ S2, by rw [zl]; exact Nat.le_refl _⟩, k.nx _ _ _ _ q (Sta.drops hd S2)⟩
theorem mut_t (kvs : List (List Key × V)) : Mut (some (.dT kvs)) := by
  first
    | trivial
    | rfl
    | (unfold Mut; trivial)
    | (unfold Mut; simp)
    | constructor
theorem simS_forIT {K : KW} {E : EX} {i : Nat} {g : WG} {b : WS} {tg : TG} {tb : TS} (hg : SimG K g tg) (hb : SimS K E b tb) : SimS K E (wForIT i g b) (fun D σ H => tFor (iItemsT (tVar i)) tg tb D σ H ∨ tLock (tFor (iItemsT (tVar i)) tg tb) D σ H) := by
  intro px F0 H0 F H σ env pv pd L S P D w k
  unfold wForIT at w
  split at w
  · rename_i ks ds e
    obtain ⟨hc, w⟩ := w
    obtain ⟨v, A, e1, r⟩ := S.slot e
    cases r with
    | dF h1 h2 h3 =>
      rename_i a vs
      have hX : DX (.dT (ks.zip vs)) (.dT (ks.zip vs)) := ⟨⟨.t ks, vs, rfl⟩, .inl rfl⟩
      refine .inr ⟨a, .dT (ks.zip vs), S.sub _ _ h1, mut_t _, fun od => ?_⟩
      have hY : DX (.dT (ks.zip vs)) (.frz od (.dT (ks.zip vs))) := ⟨⟨.t ks, vs, rfl⟩, .inr ⟨od, rfl⟩⟩
      have SL := (Sta.tell h3 S).lk hX hY h1
      refine walkIT hg hb h2 h3.length hc upd_same e1 SL w ⟨fun σ' env' F' H' q S' => ?_, fun d v F' H' σ' env' pv' pd' q S' => ?_, fun σ' env' F' H' q S' => ?_, fun σ' env' F' H' q S' => ?_⟩
      · obtain ⟨z1, z2⟩ := S.ul hX hY h1 S'
        exact ⟨z1, k.nx _ _ _ _ q z2⟩
      · obtain ⟨z1, z2⟩ := S.ul hX hY h1 S'
        exact ⟨z1, k.rt _ _ _ _ _ _ _ _ q z2⟩
      · obtain ⟨z1, z2⟩ := S.ul hX hY h1 S'
        exact ⟨z1, k.bk _ _ _ _ q z2⟩
      · obtain ⟨z1, z2⟩ := S.ul hX hY h1 S'
        exact ⟨z1, k.ct _ _ _ _ q z2⟩
    | dL h1 h2 h3 =>
      rename_i a od vs
      have hX : DX (.dT (ks.zip vs)) (.frz od (.dT (ks.zip vs))) := ⟨⟨.t ks, vs, rfl⟩, .inr ⟨od, rfl⟩⟩
      have idF : ∀ {G : Hp}, G a = some (.frz od (.dT (ks.zip vs))) → upd G a (.frz od (.dT (ks.zip vs))) = G := fun {G} hG => by
        funext x
        by_cases z : x = a
        · subst z; rw [upd_same, hG]
        · rw [upd_ne z]
      have SL := (Sta.tell h3 S).lk hX hX h1
      rw [idF h1, idF (S.sub _ _ h1)] at SL
      refine .inl (walkIT hg hb h2 h3.length hc upd_same e1 SL w ⟨fun σ' env' F' H' q S' => ?_, fun d v F' H' σ' env' pv' pd' q S' => ?_, fun σ' env' F' H' q S' => ?_, fun σ' env' F' H' q S' => ?_⟩)
      · obtain ⟨z1, z2⟩ := S.ul hX hX h1 S'
        rw [idF z1, idF (S'.exF a _ upd_same)] at z2
        exact k.nx _ _ _ _ q z2
      · obtain ⟨z1, z2⟩ := S.ul hX hX h1 S'
        rw [idF z1, idF (S'.exF a _ upd_same)] at z2
        exact k.rt _ _ _ _ _ _ _ _ q z2
      · obtain ⟨z1, z2⟩ := S.ul hX hX h1 S'
        rw [idF z1, idF (S'.exF a _ upd_same)] at z2
        exact k.bk _ _ _ _ q z2
      · obtain ⟨z1, z2⟩ := S.ul hX hX h1 S'
        rw [idF z1, idF (S'.exF a _ upd_same)] at z2
        exact k.ct _ _ _ _ q z2
  · exact w.elim
section
variable {X : Cx} {E : EX} {i : Nat} {x : Str}
theorem s_forIT {elts : List Expr} {kk : Nat} {tpos npos apos cpos pos : Pos} {body : List Stmt} {g : WG} {b : WS} (hp : PassesOwn (model X.prog X.w) X.A X.env X.xe) (hc : X.calm = true) (hg : DG X (.Tuple elts kk tpos) g) (hb : DSs X E body b)
    (hN : X.N[i]? = some x := by rfl) (hv : Vis X.env.scope x := by first | exact Or.inl rfl | exact Or.inr (Or.inl rfl) | exact Or.inr (Or.inr rfl)) (hd : (x == ("__debug__" : Str)) = false := by decide) (hcd : (x == ("__classdict__" : Str)) = false := by decide)
    (hbase : attributeBase (.Name x npos) "items" X.env (eval (.Name x npos) X.env) = eval (.Name x npos) X.env := by rfl) (hline : (apos.endLine == cpos.line) = true := by rfl) (hs : ∀ y, foldedSetIterable (.Call (.Attribute (.Name x npos) "items" apos) [] [] cpos) X.env y = pure y := by intro _; rfl) :
    DS X E (.For (.Tuple elts kk tpos) (.Call (.Attribute (.Name x npos) "items" apos) [] [] cpos) body [] pos) (wForIT i g b) := by
  obtain ⟨t2, p2, s2⟩ := hg.ex
  obtain ⟨t3, p3, s3⟩ := hb.ex
  have p : PS X (.For (.Tuple elts kk tpos) (.Call (.Attribute (.Name x npos) "items" apos) [] [] cpos) body [] pos) (tFor (iItemsT (tVar i)) t2 t3) := ps_for hp hc (pi_itemsT (pe_var hN hv hd hcd) hbase hline) p2 p3 hs
  exact ⟨_, ps_or p (ps_lock p), simS_forIT s2 s3⟩
end
end Tm

set_option Elab.async false
set_option linter.all false
set_option maxRecDepth 100000
set_option maxHeartbeats 1000000
namespace Tm
open PySem PySem.Spec PyProof.Rows L2
/-- what a law promises: of every script the answer is True -/
def specLaw : SpecT := fun ds _ Q => ∃ ns : List Int, ds = [.seq (ns.map D.int)] ∧ ns.length ≤ 63 ∧ (∀ z ∈ ns, Builtin.Int.intBits z ≤ 1048576) ∧ Q (.bl true)
theorem law_in {K : KW} {H : Hp} {a : Addr} {ns : List Int} {E : XK} (hl : ns.length ≤ 63) (hb : ∀ z ∈ ns, Builtin.Int.intBits z ≤ 1048576) (hS : SqL K H a (ns.map V.int)) :
    spD K specLaw [.ref a] H (fun v _ => v = .bl true) E := by
  refine ⟨H, [.seq (ns.map D.int)], px0, fun d => d = .bl true, Same.refl _, .cons (.seq hS (Reps.of_ints ns)) .nil rfl, ⟨ns, rfl, hl, hb, rfl⟩, linkP0, ?_⟩
  intro d v F' H' A hd _ _ _ _ r _ _
  subst hd
  exact rep_bl r
theorem len_specLaw : ∀ ds px Q, specLaw ds px Q → ds.length = 1 := by
  rintro ds px Q ⟨ns, rfl, _⟩
  rfl
theorem fzs_ints (ns : List Int) : fzs (ns.map D.int) = ns.map D.int := by
  rw [fzs_map, List.map_map]
  congr 1
theorem dirtys_ints (ns : List Int) : dirtys (ns.map D.int) = false := by
  rw [dirtys_false]
  intro d hd
  obtain ⟨n, _, rfl⟩ := List.mem_map.mp hd
  rfl
end Tm

set_option Elab.async false
set_option linter.all false
set_option maxRecDepth 100000
set_option maxHeartbeats 4000000
namespace Law
open PySem PySem.Spec PyProof.Rows L2 Tm
def clNames : List Str := ["Word", "Spot"]
def flNames : List Str := ["mark", "old", "new"]
theorem cl_Word : (("Word" : Str) ∈ clNames) = True := eq_true (by decide +kernel)
theorem cl_Spot : (("Spot" : Str) ∈ clNames) = True := eq_true (by decide +kernel)
def clm_facts : List Str := ["Word", "Spot"]
theorem cm_Word_facts : (("Word" : Str) ∈ clm_facts) = True := eq_true (by decide +kernel)
theorem cm_Spot_facts : (("Spot" : Str) ∈ clm_facts) = True := eq_true (by decide +kernel)
theorem nf_facts_markoldnew : (("facts" : Str) ∉ (["mark", "old", "new"] : List Str)) = True := eq_true (by decide +kernel)
def clm_fits : List Str := ["Word", "Spot"]
theorem cm_Word_fits : (("Word" : Str) ∈ clm_fits) = True := eq_true (by decide +kernel)
theorem cm_Spot_fits : (("Spot" : Str) ∈ clm_fits) = True := eq_true (by decide +kernel)
theorem nf_fits_markoldnew : (("fits" : Str) ∉ (["mark", "old", "new"] : List Str)) = True := eq_true (by decide +kernel)
def clm_put_on : List Str := ["Word", "Spot"]
theorem cm_Word_put_on : (("Word" : Str) ∈ clm_put_on) = True := eq_true (by decide +kernel)
theorem cm_Spot_put_on : (("Spot" : Str) ∈ clm_put_on) = True := eq_true (by decide +kernel)
theorem nf_put_on_markoldnew : (("put_on" : Str) ∉ (["mark", "old", "new"] : List Str)) = True := eq_true (by decide +kernel)
def clm_told : List Str := ["Word", "Spot"]
theorem cm_Word_told : (("Word" : Str) ∈ clm_told) = True := eq_true (by decide +kernel)
theorem cm_Spot_told : (("Spot" : Str) ∈ clm_told) = True := eq_true (by decide +kernel)
theorem nf_told_markoldnew : (("told" : Str) ∉ (["mark", "old", "new"] : List Str)) = True := eq_true (by decide +kernel)
theorem fd_markoldnew_mark {d0 d1 d2 : D} : fldD ["mark", "old", "new"] [d0, d1, d2] "mark" = some d0 := by rw [fldD, if_pos rfl]
theorem fd_markoldnew_old {d0 d1 d2 : D} : fldD ["mark", "old", "new"] [d0, d1, d2] "old" = some d1 := by rw [fldD, if_neg (by decide +kernel), fldD, if_pos rfl]
theorem fd_markoldnew_new {d0 d1 d2 : D} : fldD ["mark", "old", "new"] [d0, d1, d2] "new" = some d2 := by rw [fldD, if_neg (by decide +kernel), fldD, if_neg (by decide +kernel), fldD, if_pos rfl]
local macro_rules | `(tactic| walk_at "tmx") => `(tactic| simp only [↓wSeq, ↓wNext, ↓wBrk, ↓wCont, ↓wRet, ↓wRetN, ↓wIf, ↓wAsg, ↓wDrop, ↓wAug, ↓wFor, ↓wTest, ↓wAnd, ↓wOr, ↓wNot, ↓wIfE, ↓asB, ↓wAndV, ↓wOrV, ↓wNotV, ↓wChain,
  then_nx, then_rt, then_bk, then_ct, turn_nx, turn_rt, turn_bk, turn_ct, mid_nx, mid_rt, mid_bk, mid_ct, top_nx, top_rt,
  ↓wVar, ↓wMov, ↓wFrz, ↓wC, ↓wOp, ↓wUn, gI_int, gAdd_int, gAdd_str, gAdd_lst, gAdd_tup, gIadd_int, gIadd_str, gMinus_int, gFdiv_int, gMod_int, gPow_int, gMul_int, gMul_lst, gMul_str, ↓wM1, gJoin_str, isStr, gNeg_int, gLt_int, gLe_int, gGt_int, gGe_int, ↓gEq, ↓gNe, eqK_some, eqK_none,
  gIs_non, gIsnt_non, gIn_str, gIn_lst, gIn_seq, gIn_tup, gNotIn_str, gNotIn_lst, gNotIn_seq, gNotIn_tup, gIx_lst, gIx_seq, gIx_tup, gIx_str, atK_some, atC_some, atI_0, atI_1, atI_2, atI_3, gSl_lst, gSl_seq, gSl_tup, gSl_str, ↓wSl, ↓wNo, ↓wPart,
  ↓wNil, ↓wArg, ↓wItm, ↓wTup, ↓wLst, ↓wCall, ↓wCall0, ↓wCallO, ↓wB, gLen_str, gLen_lst, gLen_seq, gLen_tup, gMin2_int, gMax2_int, gInt_int, gInt_bl, gList_lst, gList_seq, gList_tup, gTuple_lst, gTuple_seq, gTuple_tup, gIsi_ty, isiK_some,
  ↓gtName, ↓gtTup, ↓gtCons, ↓itsL, ↓itsT, ↓its1, ↓its2, ↓its3, ↓itsE, ↓itsE1, ↓itsES, ↓itsZ, ↓itsZM, ↓itsR, ↓itsS, ↓wRevS, ↓wRevL, ↓wLc, ↓wLcV, ↓wYes, ↓wApp, ↓wExt, ↓wClear, ↓wPop, ↓wSetL, ↓wIns, ↓atLst, ↓wIxM, ↓wFzE, ↓wNever, ↓wTry, ↓wRaise, ↓wIsE, gone_nx, gone_rt, gone_bk, gone_ct, eq_self, atM_some, gIxM_lst, ↓wCut, gLtT_is, ↓gSum, ↓gMax, ↓gMin, ↓gAny, ↓gAll, ↓gSorted, ↓gSortP, gDGet_is, gIsB_bl, gIsntB_bl, gKget_some, getK_int, getK_str, getK_tup, Tm.keysOf, Tm.keyOf, ↓wDGet1, ↓wDGet2, isDct, gGetN_is, ↓gLenD, DKeys.len, gDIn_is, gDNotIn_is, bK_some, hasK_int, hasK_str, hasK_non, hasK_tup, ↓wDNew, ↓wDisp1, kDisp_int, kDisp_str, ↓wDPut, ↓wSetdT, ↓wFrS, keysD_k, keysD_t, tSetd_tup, tSet1_some, ↓atDct, putK2_int, putK2_str, putK2_tup, tPut_some, ↓gInD, ↓gNotInD, ↓gAddL, isLs, lsOf,
  ↓wFld, ↓wMk, ↓wMeth, methK_obj, ↓wIsO, isoK_obj, ↓wSorSet, ↓wDClear, Own.dirty, gEqL_is, gNeL_is, sameIts, ↓wXNew, ↓wXPut, ↓atXd, gXIn_is, gXNotIn_is, gXGet_is, ↓wXGet1, ↓wXGetL, gXGetL_is, isXd, gXGetN_is, ↓wForK, ↓wLcK, gDCopy_is, gDList_is, gDSort_is, gDEq_is, gDNe_is, ↓wDPopS, ↓atDk,
  ↓wDGetB, ↓wpSetd, ↓wForI, ↓wForIT, ↓wAugL, itI_some, ↓wForP, forV_some, backP_nx, backP_rt, backP_bk, backP_ct, ↓wIxB, gIxB_lst, gIxB_tup, bI_some, ↓wpVar, ↓wpIx, subE, setE, subP_nil, subP_lst, subP_tup, subP_dct, stepO_some, setP_nil, setP1_lst, setP1_tup, setP1_dct, onP_some, onJ_some, ownL_some, kidI_lst, kidI_tup, ↓wAppP, ↓wExtP, ↓wClearP, ↓wInsP, ↓wSetP, ↓wLR1, ↓wLR2, rgK_int, ↓wMI, ↓gIndex, gStripC_str, gLstripC_str, gPart_str, gFind_str, gRjust_str, ↓wPar, ↓gDictP, gIxB_pin, subP_pin, subP_objT, subP_objP, setP1_pin, setP1_obj, kidI_pin, ownL_pin, ↓wCallM, topM_nx,
  scEq_int, scEq_str, scEq_bl, scEq_nn, scEq_ni, scEq_in, scEq_ns, scEq_sn, scEq_lst, scEq_tup, scEq_seq, scEq_xlst, scEq_xtup, Tm.isNon, tyD, isiT, asL, dirty, dirtys, fz, fzs, fzs_ints, dirtys_ints, selfc, selfcs, envF_cons, envF_nil, Option.map_some, Option.map_none, wipeE, cleanE,
  List.getElem?_cons_zero, List.getElem?_cons_succ, List.set_cons_zero, List.set_cons_succ, List.length_cons, List.length_nil, List.length_map, List.append_nil, List.cons_append, List.nil_append,
  true_and, and_true, true_or, or_true, or_self, and_self, decide_eq_true_eq, Bool.not_eq_true', Bool.false_eq_true, if_true, if_false, ite_true, ite_false, Bool.not_true, Bool.not_false, decide_true, decide_false, false_or, or_false, false_and, and_false, ne_eq, not_true, not_false_eq_true, Bool.true_and, Bool.false_and, Bool.and_true, Bool.and_false, Bool.or_false, Bool.false_or, Bool.true_or, Bool.or_true, reduceCtorEq, CDivB, CMul, CPow, Int.reduceLT, Int.reduceLE, Int.reduceEq, Int.reduceAdd, Int.reduceSub, Int.reduceMul, Int.reduceNeg, Int.reducePow, Int.reduceToNat, Int.reduceAbs, Nat.reduceAdd, Nat.reduceLeDiff, Nat.reduceLT, Nat.reduceMul, Nat.reducePow, Nat.reduceEqDiff, Int.cast_ofNat_Int, Nat.zero_add, Int.zero_add, Int.natCast_add, Int.ofNat_eq_natCast, cl_Word, cl_Spot, cm_Word_facts, cm_Spot_facts, nf_facts_markoldnew, cm_Word_fits, cm_Spot_fits, nf_fits_markoldnew, cm_Word_put_on, cm_Spot_put_on, nf_put_on_markoldnew, cm_Word_told, cm_Spot_told, nf_told_markoldnew, fd_markoldnew_mark, fd_markoldnew_old, fd_markoldnew_new])
local macro_rules | `(tactic| walk_at "tm") => `(tactic| try walk_at "tmx")
theorem tmCheck : True ∧ True := by walk_at "tmx"
/-! kept trees -/
abbrev KRow := Str × Option Int × List Int
def oZ : Option Int → D
  | none => .non
  | some i => .int i
def keyT (ks : List Int) : D := .tup (ks.map D.int)
def krD (r : KRow) : D := .tup [.str r.1, oZ r.2.1, keyT r.2.2]
abbrev Kept := List (Int × KRow)
def kKs (K : Kept) : List L2.Key := K.map fun p => .inl p.1
def kVs (K : Kept) : List D := K.map fun p => krD p.2
def marksK (K : Kept) : List Int := K.map (·.1)
def getR : Kept → Int → Option KRow
  | [], _ => none
  | p :: K, m => if p.1 = m then some p.2 else getR K m
theorem look_kept : ∀ (K : Kept) (m : Int), lookD (kKs K) (kVs K) (.inl m) = (getR K m).map krD
  | [], m => rfl
  | p :: K, m => by
    show lookD (.inl p.1 :: kKs K) (krD p.2 :: kVs K) (.inl m) = _
    rw [lookD, getR]
    by_cases c : p.1 = m
    · rw [if_pos (by rw [c]), if_pos c]; rfl
    · rw [if_neg (fun z => c (by injection z)), if_neg c]; exact look_kept K m
theorem getR_mem : ∀ {K : Kept} {m : Int} {r : KRow}, getR K m = some r → (m, r) ∈ K
  | [], _, _, h => by cases h
  | p :: K, m, r, h => by
    rw [getR] at h
    split at h
    · rename_i c
      cases h
      rw [← c]; exact List.mem_cons_self
    · exact List.mem_cons_of_mem _ (getR_mem h)
theorem getR_in {K : Kept} {m : Int} {r : KRow} (h : getR K m = some r) : m ∈ marksK K := List.mem_map.mpr ⟨_, getR_mem h, rfl⟩
theorem getR_some : ∀ {K : Kept} {m : Int}, m ∈ marksK K → ∃ r, getR K m = some r
  | [], _, h => by cases h
  | p :: K, m, h => by
    rw [getR]
    by_cases c : p.1 = m
    · exact ⟨_, if_pos c⟩
    · rw [if_neg c]
      refine getR_some ?_
      rcases List.mem_cons.mp h with e | h
      · exact absurd e.symm c
      · exact h
theorem getR_of : ∀ {K : Kept} {m : Int} {r : KRow}, (marksK K).Nodup → (m, r) ∈ K → getR K m = some r
  | [], _, _, _, h => by cases h
  | p :: K, m, r, hn, h => by
    have hn2 := List.nodup_cons.mp (show (p.1 :: marksK K).Nodup from hn)
    rw [getR]
    rcases List.mem_cons.mp h with e | h
    · subst e; exact if_pos rfl
    · rw [if_neg fun c => hn2.1 (by rw [c]; exact List.mem_map.mpr ⟨_, h, rfl⟩)]
      exact getR_of hn2.2 h
theorem in_kept (K : Kept) (m : Int) : (lookD (kKs K) (kVs K) (.inl m)).isSome = decide (m ∈ marksK K) := by
  rw [look_kept, Option.isSome_map]
  by_cases c : m ∈ marksK K
  · obtain ⟨r, e⟩ := getR_some c
    rw [e, decide_eq_true c]; rfl
  · rw [decide_eq_false c]
    cases e : getR K m with
    | none => rfl
    | some r => exact absurd (getR_in e) c
theorem oZ_dirty (o : Option Int) : dirty (oZ o) = false := by cases o <;> rfl
theorem oZ_fz (o : Option Int) : fz (oZ o) = oZ o := by cases o <;> rfl
theorem keyT_dirty (ks : List Int) : dirty (keyT ks) = false := by unfold keyT; rw [dirty]; exact dirtys_ints ks
theorem keyT_fz (ks : List Int) : fz (keyT ks) = keyT ks := by unfold keyT; rw [fz, fzs_ints]
theorem krD_eq (r : KRow) : krD r = .tup [.str r.1, oZ r.2.1, keyT r.2.2] := rfl
theorem krD_dirty (r : KRow) : dirty (krD r) = false := by
  rw [krD_eq]; simp only [dirty, dirtys, oZ_dirty, keyT_dirty, Bool.or_self]
theorem krD_fz (r : KRow) : fz (krD r) = krD r := by
  rw [krD_eq]; simp only [fz, fzs, oZ_fz, keyT_fz]
theorem kVs_dirty (K : Kept) : dirtys (kVs K) = false := dirtys_mapI (f := fun p : Int × KRow => krD p.2) (fun p => krD_dirty p.2) K
theorem kVs_fz (K : Kept) : fzs (kVs K) = kVs K := fzs_mapI (f := fun p : Int × KRow => krD p.2) (fun p => krD_fz p.2) K
theorem kKs_len (K : Kept) : (kKs K).length = K.length := List.length_map ..
theorem isNon_oZ (o : Option Int) : Tm.isNon (oZ o) = o.isNone := by cases o <;> rfl
def elderK (K : Kept) (m : Int) : Option Int := (getR K m).bind (·.2.1)
def keyK (K : Kept) (m : Int) : List Int := ((getR K m).map (·.2.2)).getD []
def wordK (K : Kept) (m : Int) : Str := ((getR K m).map (·.1)).getD ⟨#[]⟩
theorem elderK_of {K : Kept} {m : Int} {r : KRow} (h : getR K m = some r) : elderK K m = r.2.1 := by unfold elderK; rw [h]; rfl
theorem keyK_of {K : Kept} {m : Int} {r : KRow} (h : getR K m = some r) : keyK K m = r.2.2 := by unfold keyK; rw [h]; rfl
theorem wordK_of {K : Kept} {m : Int} {r : KRow} (h : getR K m = some r) : wordK K m = r.1 := by unfold wordK; rw [h]; rfl
/-- an elder's elder and so on has none, in fewer than n steps -/
def upK (K : Kept) : Nat → Int → Bool
  | 0, _ => false
  | n + 1, m => match elderK K m with
    | none => true
    | some e => decide (e ∈ marksK K) && upK K n e
/-! the key of a spot -/
def oK : Option Int → NestedKey
  | none => .none
  | some i => .num i
def spotK (r : KRow) : NestedKey := .tup [oK r.2.1, .tup (r.2.2.map .num)]
theorem kDs_nums : ∀ (ks : List Int), kDs (ks.map .num) = ks.map D.int
  | [] => rfl
  | k :: ks => by
    show kD (.num k) :: kDs (ks.map .num) = _
    rw [kDs_nums ks]; rfl
theorem kD_oK (o : Option Int) : kD (oK o) = oZ o := by cases o <;> rfl
theorem spotK_D (r : KRow) : kD (spotK r) = .tup [oZ r.2.1, keyT r.2.2] := by
  unfold spotK keyT
  simp only [kD, kDs, kD_oK, kDs_nums]
theorem noTxs_nums : ∀ (ks : List Int), noTxs (ks.map .num) = true
  | [] => rfl
  | k :: ks => by
    show (noTx (.num k) && noTxs (ks.map .num)) = true
    rw [noTxs_nums ks]; rfl
theorem depth_nums : ∀ (ks : List Int), NestedKey.depthAll (ks.map .num) = 0
  | [] => rfl
  | k :: ks => by
    show max (NestedKey.depth (.num k)) (NestedKey.depthAll (ks.map .num)) = 0
    rw [depth_nums ks]; rfl
theorem spotK_ok (r : KRow) : okK true (spotK r) = true := by
  unfold okK spotK
  have e1 : noTx (oK r.2.1) = true := by cases r.2.1 <;> rfl
  have e2 : NestedKey.depth (oK r.2.1) = 0 := by cases r.2.1 <;> rfl
  simp only [noTx, noTxs, e1, noTxs_nums, NestedKey.depth, NestedKey.depthAll, e2, depth_nums, isTp]
  decide
theorem nums_inj {a b : List Int} (h : a.map NestedKey.num = b.map NestedKey.num) : a = b := by
  induction a generalizing b with
  | nil =>
    cases b with
    | nil => rfl
    | cons _ _ => simp at h
  | cons x a ih =>
    cases b with
    | nil => simp at h
    | cons y b =>
      rw [List.map_cons, List.map_cons] at h
      injection h with h1 h2
      injection h1 with h1
      rw [h1, ih h2]
theorem spotK_inj {r s : KRow} (h : spotK r = spotK s) : r.2 = s.2 := by
  unfold spotK at h
  simp only [NestedKey.tup.injEq, List.cons.injEq, and_true] at h
  obtain ⟨h1, h2⟩ := h
  have e1 : r.2.1 = s.2.1 := by
    cases a : r.2.1 <;> cases b : s.2.1 <;> rw [a, b] at h1 <;> simp [oK] at h1 ⊢
    exact h1
  exact Prod.ext e1 (nums_inj h2)
theorem spotK_of {r s : KRow} (h : r.2 = s.2) : spotK r = spotK s := by unfold spotK; rw [h]
theorem krD_spot (r : KRow) : D.tup (Tm.cutD [.str r.1, oZ r.2.1, keyT r.2.2] (some 1) none) = kD (spotK r) := by
  rw [spotK_D, show (1 : Int) = ((1 : Nat) : Int) from rfl, cutD_from]; rfl
/-- a kept tree -/
def isKept (K : Kept) : Prop := K ≠ [] ∧ K.length ≤ 200 ∧ (K.filter fun p => p.2.2.1.isNone).length = 1 ∧ (K.map fun p => p.2.2).Nodup ∧ ∀ p ∈ K, upK K 31 p.1 = true
open Classical in
noncomputable def keptB (K : Kept) : Bool := decide (isKept K)
open Classical in
theorem keptB_iff {K : Kept} : keptB K = true ↔ isKept K := by unfold keptB; exact decide_eq_true_iff
theorem kept_get {K : Kept} {n : Nat} {d : D} (h : (kvsD (kKs K) (kVs K))[n]? = some d) : ∃ p, K[n]? = some p ∧ d = .tup [.int p.1, krD p.2] := by
  unfold kvsD kKs kVs at h
  rw [List.zip_map', List.map_map, List.getElem?_map] at h
  obtain ⟨p, hp, rfl⟩ := Option.map_eq_some_iff.mp h
  exact ⟨p, hp, rfl⟩
theorem kvs_len (K : Kept) : (kvsD (kKs K) (kVs K)).length = K.length := by
  unfold kvsD kKs kVs
  rw [List.length_map, List.length_zip, List.length_map, List.length_map, Nat.min_self]

--@here
def ws_leads_up : WS := wSeq (wAsg (wVar 1) (gtName 2)) (wSeq (wFor (its1 (wArg (wOp gAdd (wC (.int 30)) (wC (.int 1))) (wNil))) (gtName 3) (wSeq (wIf (wTest (wOp gIs (wOp gIx (wOp gDGet (wVar 0) (wVar 2)) (wC (.int 1))) (wC .non))) (wRet (wC (.bl true))) (wNext)) (wSeq (wAsg (wOp gIx (wOp gDGet (wVar 0) (wVar 2)) (wC (.int 1))) (gtName 2)) (wIf (wTest (wOp gDNotIn (wVar 2) (wVar 0))) (wRet (wC (.bl false))) (wNext))))) (wRet (wC (.bl false))))
abbrev n_leads_up : Nat := 4
def spec_leads_up : SpecT := fun ds _ Q => ∃ (K : Kept) (m : Int), ds = [.dct false (.k (kKs K)) (kVs K), .int m] ∧ m ∈ marksK K ∧ Q (.bl (upK K 31 m))
theorem len_leads_up : ∀ ds px Q, spec_leads_up ds px Q → ds.length = 2 := by
  rintro ds px Q ⟨a, b, rfl, _⟩; rfl
theorem pure_leads_up : ∀ ds px Q, spec_leads_up ds px Q → ws_leads_up (PEnds.top Q) px (start0 n_leads_up ds) := by
  rintro ds px Q ⟨K, m, rfl, hm, q⟩
  show ws_leads_up (PEnds.top Q) px [some (.dct false (.k (kKs K)) (kVs K)), some (.int m), none, none]
  unfold ws_leads_up
  walk_at "tm"
  refine ⟨fun i env => ∃ (h : Int) (x3 : Option D), env = [some (.dct false (.k (kKs K)) (kVs K)), some (.int m), some (.int h), x3] ∧ h ∈ marksK K ∧ i ≤ 31 ∧ upK K 31 m = upK K (31 - i) h, ⟨m, none, rfl, hm, by omega, rfl⟩, ?_, ?_⟩
  · rintro i d env2 hd ⟨h, x3, rfl, hh, hi, e⟩
    obtain ⟨hi2, rfl⟩ := rngD_get hd
    obtain ⟨r, hr⟩ := getR_some hh
    have lk : lookD (kKs K) (kVs K) (.inl h) = some (krD r) := by rw [look_kept, hr]; rfl
    have up : upK K (31 - i) h = match r.2.1 with
      | none => true
      | some e => decide (e ∈ marksK K) && upK K (31 - (i + 1)) e := by
      rw [show 31 - i = (31 - (i + 1)) + 1 from by omega, upK, elderK_of hr]
      all_goals (cases r.2.1 <;> rfl)
    walk_at "tm"
    refine atK_of lk (krD_dirty r) ?_
    rw [krD_eq]
    cases eo : r.2.1 with
    | none =>
      rw [eo] at up
      simp only [oZ]
      walk_at "tm"
      rw [e, up] at q
      exact q
    | some x =>
      rw [eo] at up
      replace up : upK K (31 - i) h = (decide (x ∈ marksK K) && upK K (31 - (i + 1)) x) := up
      simp only [oZ]
      walk_at "tm"
      refine atK_of lk (krD_dirty r) ?_
      rw [krD_eq, eo]
      simp only [oZ]
      walk_at "tm"
      rw [in_kept]
      by_cases c : x ∈ marksK K
      · rw [decide_eq_true c] at up ⊢
        exact ⟨x, _, rfl, c, by omega, by rw [e, up]; rfl⟩
      · rw [decide_eq_false c] at up ⊢
        rw [e, up] at q
        exact q
  · rintro env2 ⟨h, x3, rfl, hh, hi, e⟩
    rw [rngD_len] at e
    walk_at "tm"
    rw [e] at q
    exact q
--@here
def ws_is_kept : WS := wSeq (wIf (wOr (wTest (wOp gEq (wB gLenD (wArg (wVar 0) (wNil))) (wC (.int 0)))) (wTest (wOp gGt (wB gLenD (wArg (wVar 0) (wNil))) (wC (.int 200))))) (wRet (wC (.bl false))) (wNext)) (wSeq (wIf (wTest (wOp gNe (wB gLen (wArg (wLcK 0 (gtName 2) (wTest (wOp gIs (wOp gIx (wOp gDGet (wVar 0) (wVar 2)) (wC (.int 1))) (wC .non))) (wVar 2) [2]) (wNil))) (wC (.int 1)))) (wRet (wC (.bl false))) (wNext)) (wSeq (wAsg (wXNew true) (gtName 1)) (wSeq (wForI 0 (gtTup 2 (gtCons (gtName 2) (gtCons (gtName 3) (fun ds env Q => ds = [] ∧ Q env)))) (wSeq (wIf (wOr (wTest (wOp gXIn (wSl (wVar 3) (wPart (wC (.int 1))) (wNo)) (wVar 1))) (wNot (wTest (wCall0 spec_leads_up [] (wArg (wVar 0) (wArg (wVar 2) (wNil))))))) (wRet (wC (.bl false))) (wNext)) (wXPut 1 (wC (.bl true)) (wSl (wVar 3) (wPart (wC (.int 1))) (wNo))))) (wRet (wC (.bl true))))))
abbrev n_is_kept : Nat := 4
def spec_is_kept : SpecT := fun ds _ Q => ∃ (K : Kept), ds = [.dct false (.k (kKs K)) (kVs K)] ∧ (marksK K).Nodup ∧ Q (.bl (keptB K))
theorem len_is_kept : ∀ ds px Q, spec_is_kept ds px Q → ds.length = 1 := by
  rintro ds px Q ⟨a, rfl, _⟩; rfl
theorem pure_is_kept : ∀ ds px Q, spec_is_kept ds px Q → ws_is_kept (PEnds.top Q) px (start0 n_is_kept ds) := by
  rintro ds px Q ⟨K, rfl, hn, q⟩
  show ws_is_kept (PEnds.top Q) px [some (.dct false (.k (kKs K)) (kVs K)), none, none, none]
  unfold ws_is_kept
  have no : ¬ isKept K → Q (.bl false) := fun h => by
    have e : keptB K = false := by
      cases c : keptB K with
      | false => rfl
      | true => exact absurd (keptB_iff.mp c) h
    rw [e] at q; exact q
  have ek : (kKs K).map keyD = K.map fun p => D.int p.1 := by unfold kKs; rw [List.map_map]; rfl
  walk_at "tm"
  rw [kKs_len]
  by_cases c0 : (K.length : Int) = 0
  · rw [if_pos c0]
    refine no fun h => h.1 ?_
    exact List.length_eq_zero_iff.mp (by omega)
  rw [if_neg c0]
  by_cases c1 : 200 < (K.length : Int)
  · rw [if_pos c1]
    exact no fun h => by have := h.2.1; omega
  rw [if_neg c1, ek, kVs_fz]
  refine ⟨kVs_dirty K, lcW_map (f := fun p : Int × KRow => D.int p.1) (fun p => p.2.2.1.isNone) (fun p => .int p.1) K [] (by rw [List.length_nil]; omega) ?_ ?_⟩
  · rintro p hp Y N hy hx
    have hr := getR_of hn (show (p.1, p.2) ∈ K from hp)
    have lk : lookD (kKs K) (kVs K) (.inl p.1) = some (krD p.2) := by rw [look_kept, hr]; rfl
    walk_at "tm"
    refine atK_of lk (krD_dirty _) ?_
    rw [krD_eq]
    cases eo : p.2.2.1 with
    | none =>
      simp only [oZ]
      walk_at "tm"
      exact hy (by rw [eo]; rfl)
    | some x =>
      simp only [oZ]
      walk_at "tm"
      exact hx (by rw [eo]; rfl)
  rw [List.nil_append, List.length_map]
  by_cases c2 : (K.filter fun p => p.2.2.1.isNone).length = 1
  rotate_left
  · rw [if_pos (by simpa using fun z => c2 (by omega))]
    exact no fun h => c2 h.2.2.1
  rw [if_neg (by simp [c2])]
  refine ⟨kVs_dirty K, fun n env => ∃ (ds : List D) (x2 x3 : Option D), env = [some (.dct false (.k (kKs K)) (kVs K)), some (.xd true true ((K.take n).map fun p => spotK p.2) ds), x2, x3] ∧ ((K.take n).map fun p => p.2.2).Nodup ∧ ∀ p ∈ K.take n, upK K 31 p.1 = true, ⟨[], _, _, rfl, by simp, by simp⟩, ?_, ?_⟩
  · rintro n d env2 hd ⟨ds, x2, x3, rfl, h1, h2⟩
    obtain ⟨p, hp, rfl⟩ := kept_get hd
    have hpm := List.mem_of_getElem? hp
    have hnl := (List.getElem?_eq_some_iff.mp hp).1
    have tk : K.take (n + 1) = K.take n ++ [p] := by rw [List.take_succ, hp]; rfl
    rw [krD_eq]
    walk_at "tm"
    refine ⟨by simp only [oZ_dirty, keyT_dirty, Bool.or_self], ?_⟩
    rw [krD_spot]
    refine ⟨_, rfl, spotK_ok _, ?_⟩
    walk_at "tm"
    have spot : spotK p.2 ∈ ((K.take n).map fun p => spotK p.2) ↔ p.2.2 ∈ (K.take n).map fun p => p.2.2 := by
      constructor
      · intro h
        obtain ⟨x, hx, e⟩ := List.mem_map.mp h
        exact List.mem_map.mpr ⟨x, hx, spotK_inj e⟩
      · intro h
        obtain ⟨x, hx, e⟩ := List.mem_map.mp h
        exact List.mem_map.mpr ⟨x, hx, spotK_of e⟩
    by_cases c3 : p.2.2 ∈ (K.take n).map fun p => p.2.2
    · rw [if_pos (spot.mpr c3)]
      refine no fun h => ?_
      have nd := h.2.2.2.1
      rw [← List.take_append_drop (n + 1) K, tk, List.append_assoc, List.map_append, List.map_append] at nd
      exact (List.nodup_append.mp nd).2.2 _ c3 _ (by simp) rfl
    rw [if_neg (fun z => c3 (spot.mp z))]
    simp only [kVs_fz]
    refine ⟨K, p.1, rfl, List.mem_map.mpr ⟨p, hpm, rfl⟩, ?_⟩
    walk_at "tm"
    cases c4 : upK K 31 p.1 with
    | false =>
      rw [if_pos rfl]
      exact no fun h => by
        have := h.2.2.2.2 p hpm
        rw [c4] at this; cases this
    | true =>
      rw [if_neg (by simp)]
      have e : putKs ((K.take n).map fun p => spotK p.2) (spotK p.2) = (K.take (n + 1)).map fun p => spotK p.2 := by
        unfold putKs
        rw [if_neg (fun z => c3 (spot.mp z)), tk, List.map_append]; rfl
      refine ⟨by simp only [oZ_dirty, keyT_dirty, Bool.or_self], by rw [List.length_take]; omega, spotK p.2, rfl, spotK_ok _, ?_⟩
      rw [e]
      refine ⟨_, _, _, rfl, ?_, ?_⟩
      · rw [tk, List.map_append, List.nodup_append]
        exact ⟨h1, by simp, fun a ha b hb z => by simp at hb; subst z; rw [hb] at ha; exact c3 ha⟩
      · intro x hx
        rw [tk] at hx
        rcases List.mem_append.mp hx with hx | hx
        · exact h2 x hx
        · rw [List.mem_singleton.mp hx]; exact c4
  · rintro env2 ⟨ds, x2, x3, rfl, h1, h2⟩
    rw [kvs_len, List.take_length] at h1 h2
    walk_at "tm"
    have e : keptB K = true := keptB_iff.mpr ⟨fun z => c0 (by rw [z]; rfl), by omega, c2, h1, h2⟩
    rw [e] at q
    exact q

--@here
/-! kept trees, compared -/
theorem sorted_uniq {a b : List Int} (h : a.Perm b) (ha : a.Pairwise (· ≤ ·)) (hb : b.Pairwise (· ≤ ·)) : a = b := h.eq_of_pairwise (fun x y _ _ h1 h2 => Int.le_antisymm h1 h2) ha hb
theorem rngD_ints (n : Nat) : rngD 0 n = ((List.range n).map fun k : Nat => (k : Int)).map D.int := by
  unfold rngD
  rw [List.map_map]
  refine List.map_congr_left fun k _ => ?_
  show D.int (0 + (k : Int)) = _
  rw [Int.zero_add]; rfl
theorem range_sorted (n : Nat) : ((List.range n).map fun k : Nat => (k : Int)).Pairwise (· ≤ ·) := List.pairwise_map.mpr (List.pairwise_lt_range.imp fun h => by omega)
theorem ints_shD {o : Bool} (ns : List Int) : shD (.lst o (ns.map D.int)) = true := shD_of 64 (by simp only [okd, okds_ints]; rfl) (by decide)
theorem ints_eqD {o p : Bool} (a b : List Int) : eqD (.lst o (a.map D.int)) (.lst p (b.map D.int)) = decide (a = b) := eqD_dec (noBs_ints a) (noBs_ints b) (by
  show D.lst false _ = D.lst false _ ↔ _
  rw [D.lst.injEq, cans_ints, cans_ints, ints_inj]; simp)
theorem krD_sh {r : KRow} (h : PyData.strOk r.1 = true) : okd (krD r) 60 = true := by
  rw [krD_eq]
  have e1 : okd (oZ r.2.1) 59 = true := by cases r.2.1 <;> rfl
  have e2 : okd (keyT r.2.2) 59 = true := by unfold keyT; simp only [okd, okds_ints]; rfl
  simp only [okd, okds, h, e1, e2]; rfl
theorem krD_noB (r : KRow) : noB (krD r) = true := by
  rw [krD_eq]
  have e1 : noB (oZ r.2.1) = true := by cases r.2.1 <;> rfl
  have e2 : noB (keyT r.2.2) = true := by unfold keyT; exact noBs_ints _
  simp only [noB, noBs, e1, e2]; rfl
theorem hits_self : ∀ (K J : Kept), (∀ p ∈ K, getR J p.1 = some p.2) → hitsD (kKs J) (kVs J) (kKs K) (kVs K) = true
  | [], J, _ => rfl
  | p :: K, J, h => by
    show (match lookD (kKs J) (kVs J) (.inl p.1) with | some e => eqD (krD p.2) e && hitsD (kKs J) (kVs J) (kKs K) (kVs K) | none => false) = true
    rw [look_kept, h p List.mem_cons_self]
    show (eqD (krD p.2) (krD p.2) && hitsD (kKs J) (kVs J) (kKs K) (kVs K)) = true
    rw [hits_self K J fun q hq => h q (List.mem_cons_of_mem _ hq), eqD_true (krD_noB _) (krD_noB _) rfl]; rfl
theorem dct_self {K : Kept} (h : (marksK K).Nodup) : eqDct (kKs K) (kVs K) (kKs K) (kVs K) = true := by
  unfold eqDct
  rw [hits_self K K fun p hp => getR_of h hp]
  simp
theorem kVs_sh {K : Kept} (h : ∀ p ∈ K, PyData.strOk p.2.1 = true) : ∀ d ∈ kVs K, shD d = true := fun d hd => by
  obtain ⟨p, hp, rfl⟩ := List.mem_map.mp hd
  exact shD_of 60 (krD_sh (h p hp)) (by decide)
theorem kKs_marks (K : Kept) : kKs K = (marksK K).map Sum.inl := by
  unfold kKs marksK
  rw [List.map_map]; rfl
theorem strs_sh {o : Bool} {ws : List Str} (h : ∀ w ∈ ws, PyData.strOk w = true) : shD (.lst o (ws.map D.str)) = true := shD_of 64 (by
  simp only [okd]
  rw [okds_mapI]
  · rfl
  · intro w hw; exact h w hw) (by decide)
theorem strs_eq {o p : Bool} (ws : List Str) : eqD (.lst o (ws.map D.str)) (.lst p (ws.map D.str)) = true := by
  have nb : ∀ o, noB (.lst o (ws.map D.str)) = true := fun o => noBs_mapI (f := D.str) (fun _ => rfl) ws
  exact eqD_true (nb o) (nb p) rfl
theorem upK_perm {K J : Kept} (h : ∀ m, getR K m = getR J m) (hm : ∀ m, m ∈ marksK K ↔ m ∈ marksK J) : ∀ n m, upK K n m = upK J n m
  | 0, m => rfl
  | n + 1, m => by
    have e : elderK K m = elderK J m := by unfold elderK; rw [h m]
    rw [upK, upK, e]
    cases elderK J m with
    | none => rfl
    | some x =>
      show (decide (x ∈ marksK K) && upK K n x) = (decide (x ∈ marksK J) && upK J n x)
      rw [upK_perm h hm n x]
      congr 1
      exact decide_eq_decide.mpr (hm x)

--@here
/-! deeds -/
abbrev Spot := Option Int × List Int
inductive Deed where
  | word (m : Int) (o n : Str)
  | spot (m : Int) (o n : Spot)
  | put (m : Int) (w : Str) (s : Spot)
  | take (m : Int) (w : Str) (s : Spot)
def spT (s : Spot) : D := .tup [oZ s.1, keyT s.2]
def deedD : Deed → D
  | .word m o n => .obj .f "Word" ["mark", "old", "new"] [.int m, .str o, .str n]
  | .spot m o n => .obj .f "Spot" ["mark", "old", "new"] [.int m, spT o, spT n]
  | .put m w s => .obj .f "Put" ["mark", "word", "spot"] [.int m, .str w, spT s]
  | .take m w s => .obj .f "Take" ["mark", "word", "spot"] [.int m, .str w, spT s]
def markOf : Deed → Int
  | .word m _ _ => m
  | .spot m _ _ => m
  | .put m _ _ => m
  | .take m _ _ => m
def toldD : Deed → D
  | .word m o n => .tup [.str "word", .int m, .str o, .str n]
  | .spot m o n => .tup [.str "spot", .int m, spT o, spT n]
  | .put m w s => .tup [.str "put", .int m, .str w, spT s]
  | .take m w s => .tup [.str "take", .int m, .str w, spT s]
/-- what a deed touches: true the word, false the spot -/
def factsL : Deed → List (Int × Bool)
  | .word m _ _ => [(m, true)]
  | .spot m _ _ => [(m, false)]
  | .put m _ _ => [(m, true), (m, false)]
  | .take m _ _ => [(m, true), (m, false)]
def factD (f : Int × Bool) : D := .tup [.int f.1, .str (if f.2 then "word" else "spot")]
def putR (K : Kept) (m : Int) (r : KRow) : Kept := if m ∈ marksK K then K.map (fun p => if p.1 = m then (m, r) else p) else K ++ [(m, r)]
def dropR (K : Kept) (m : Int) : Kept := K.filter fun p => decide (¬ p.1 = m)
/-- what a deed makes of its mark's row -/
def eff : Deed → Option KRow → Option (Option KRow)
  | .word _ _ n, some r => some (some (n, r.2))
  | .word _ _ _, none => none
  | .spot _ _ n, some r => some (some (r.1, n))
  | .spot _ _ _, none => none
  | .put _ w s, _ => some (some (w, s))
  | .take _ _ _, some _ => some none
  | .take _ _ _, none => none
def fitsB (K : Kept) : Deed → Bool
  | .word m o _ => (getR K m).any fun r => decide (r.1 = o)
  | .spot m o _ => (getR K m).any fun r => decide (r.2 = o)
  | .put m _ _ => decide (m ∉ marksK K)
  | .take m w s => decide (getR K m = some (w, s))
def putOn (K : Kept) : Deed → Kept
  | .word m _ n => match getR K m with
    | some r => putR K m (n, r.2)
    | none => K
  | .spot m _ n => match getR K m with
    | some r => putR K m (r.1, n)
    | none => K
  | .put m w s => putR K m (w, s)
  | .take m _ _ => dropR K m
def turn : Deed → Deed
  | .word m o n => .word m n o
  | .spot m o n => .spot m n o
  | .put m w s => .take m w s
  | .take m w s => .put m w s
theorem turn_turn (d : Deed) : turn (turn d) = d := by cases d <;> rfl
theorem spT_dirty (s : Spot) : dirty (spT s) = false := by unfold spT; simp only [dirty, dirtys, oZ_dirty, keyT_dirty, Bool.or_self]
theorem spT_fz (s : Spot) : fz (spT s) = spT s := by unfold spT; simp only [fz, fzs, oZ_fz, keyT_fz]
theorem deedD_dirty (d : Deed) : dirty (deedD d) = false := by cases d <;> rfl
theorem deedD_fz (d : Deed) : fz (deedD d) = deedD d := by cases d <;> simp only [deedD, fz, fzs, spT_fz]
theorem deeds_dirty (ds : List Deed) : dirtys (ds.map deedD) = false := dirtys_mapI (f := deedD) deedD_dirty ds
theorem deeds_fz (ds : List Deed) : fzs (ds.map deedD) = ds.map deedD := fzs_mapI (f := deedD) deedD_fz ds
theorem toldD_dirty (d : Deed) : dirty (toldD d) = false := by cases d <;> simp only [toldD, dirty, dirtys, spT_dirty, Bool.or_self]
theorem toldD_fz (d : Deed) : fz (toldD d) = toldD d := by cases d <;> simp only [toldD, fz, fzs, spT_fz]
theorem tolds_dirty (ds : List Deed) : dirtys (ds.map toldD) = false := dirtys_mapI (f := toldD) toldD_dirty ds
theorem oZ_selfc (o : Option Int) : selfc (oZ o) = true := by cases o <;> rfl
theorem selfcs_ints : ∀ (ns : List Int), selfcs (ns.map D.int) = true
  | [] => rfl
  | n :: ns => by
    show (selfc (.int n) && selfcs (ns.map D.int)) = true
    rw [selfcs_ints ns]; rfl
theorem keyT_selfc (ks : List Int) : selfc (keyT ks) = true := by unfold keyT; rw [selfc]; exact selfcs_ints ks
theorem spT_selfc (s : Spot) : selfc (spT s) = true := by unfold spT; simp only [selfc, selfcs, oZ_selfc, keyT_selfc, Bool.and_self]
theorem krD_selfc (r : KRow) : selfc (krD r) = true := by rw [krD_eq]; simp only [selfc, selfcs, oZ_selfc, keyT_selfc, Bool.and_self]
theorem kVs_selfc (K : Kept) : selfcs (kVs K) = true := selfcs_mapI (f := fun p : Int × KRow => krD p.2) (fun p => krD_selfc p.2) K
theorem toldD_selfc (d : Deed) : selfc (toldD d) = true := by cases d <;> simp only [toldD, selfc, selfcs, spT_selfc, Bool.and_self]
/-! a kept tree changed -/
theorem marks_map (K : Kept) (m : Int) (r : KRow) : marksK (K.map (fun p => if p.1 = m then (m, r) else p)) = marksK K := by
  unfold marksK
  rw [List.map_map]
  refine List.map_congr_left fun p _ => ?_
  show (if p.1 = m then (m, r) else p).1 = p.1
  split
  · rename_i h; exact h.symm
  · rfl
theorem putR_marks (K : Kept) (m : Int) (r : KRow) : marksK (putR K m r) = if m ∈ marksK K then marksK K else marksK K ++ [m] := by
  unfold putR
  split
  · exact marks_map K m r
  · unfold marksK; rw [List.map_append]; rfl
theorem putR_mem {K : Kept} {m x : Int} {r : KRow} : x ∈ marksK (putR K m r) ↔ x = m ∨ x ∈ marksK K := by
  rw [putR_marks]
  split
  · rename_i h
    exact ⟨.inr, fun z => z.elim (fun e => e ▸ h) id⟩
  · rw [List.mem_append, List.mem_singleton]; exact Or.comm
theorem putR_nd {K : Kept} (h : (marksK K).Nodup) (m : Int) (r : KRow) : (marksK (putR K m r)).Nodup := by
  rw [putR_marks]
  split
  · exact h
  · rename_i c
    rw [List.nodup_append]
    exact ⟨h, by simp, fun a ha b hb z => by rw [List.mem_singleton.mp hb] at z; exact c (z ▸ ha)⟩
theorem getR_app {K J : Kept} {m : Int} : getR (K ++ J) m = (getR K m).or (getR J m) := by
  induction K with
  | nil => rfl
  | cons p K ih =>
    rw [List.cons_append, getR, getR]
    split
    · rfl
    · exact ih
theorem getR_none {K : Kept} {m : Int} (h : m ∉ marksK K) : getR K m = none := by
  cases e : getR K m with
  | none => rfl
  | some r => exact absurd (getR_in e) h
theorem getR_map (m : Int) (r : KRow) (x : Int) : ∀ (K : Kept), getR (K.map (fun p => if p.1 = m then (m, r) else p)) x = if x = m ∧ m ∈ marksK K then some r else getR K x
  | [] => by simp [getR, marksK]
  | p :: K => by
    have ih := getR_map m r x K
    rw [List.map_cons, getR, getR]
    have mc : m ∈ marksK (p :: K) ↔ m = p.1 ∨ m ∈ marksK K := List.mem_cons
    by_cases c : p.1 = m
    · rw [if_pos c]
      by_cases e : m = x
      · rw [if_pos e, if_pos ⟨e.symm, mc.mpr (.inl c.symm)⟩]
      · rw [if_neg e, if_neg (fun z => e z.1.symm), if_neg (fun z => e (c.symm.trans z)), ih, if_neg (fun z => e z.1.symm)]
    · rw [if_neg c]
      by_cases e : p.1 = x
      · rw [if_pos e, if_pos e, if_neg (fun z => c (e.trans z.1))]
      · rw [if_neg e, if_neg e, ih]
        by_cases h : x = m ∧ m ∈ marksK K
        · rw [if_pos h, if_pos ⟨h.1, mc.mpr (.inr h.2)⟩]
        · rw [if_neg h, if_neg (fun z => h ⟨z.1, (mc.mp z.2).resolve_left fun q => c q.symm⟩)]
theorem getR_put (K : Kept) (m : Int) (r : KRow) (x : Int) : getR (putR K m r) x = if x = m then some r else getR K x := by
  unfold putR
  split
  · rename_i h
    rw [getR_map]
    by_cases e : x = m
    · rw [if_pos ⟨e, h⟩, if_pos e]
    · rw [if_neg (fun z => e z.1), if_neg e]
  · rename_i h
    rw [getR_app]
    by_cases e : x = m
    · subst e
      rw [getR_none h, if_pos rfl]
      show getR [(x, r)] x = _
      rw [getR, if_pos rfl]
    · rw [if_neg e]
      have : getR [(m, r)] x = none := by rw [getR, if_neg (fun z => e z.symm)]; rfl
      rw [this]
      cases getR K x <;> rfl
theorem dropR_mem {K : Kept} {m x : Int} : x ∈ marksK (dropR K m) ↔ x ∈ marksK K ∧ ¬ x = m := by
  unfold dropR marksK
  constructor
  · intro h
    obtain ⟨p, hp, rfl⟩ := List.mem_map.mp h
    have := List.mem_filter.mp hp
    exact ⟨List.mem_map.mpr ⟨p, this.1, rfl⟩, of_decide_eq_true this.2⟩
  · rintro ⟨h, hn⟩
    obtain ⟨p, hp, rfl⟩ := List.mem_map.mp h
    exact List.mem_map.mpr ⟨p, List.mem_filter.mpr ⟨hp, decide_eq_true hn⟩, rfl⟩
theorem dropR_nd {K : Kept} (h : (marksK K).Nodup) (m : Int) : (marksK (dropR K m)).Nodup := by
  unfold dropR marksK
  exact List.Nodup.sublist (List.Sublist.map _ List.filter_sublist) h
theorem getR_drop (m : Int) (x : Int) : ∀ (K : Kept), getR (dropR K m) x = if x = m then none else getR K x
  | [] => by simp [dropR, getR]
  | p :: K => by
    have ih := getR_drop m x K
    unfold dropR at ih ⊢
    rw [List.filter_cons]
    by_cases c : p.1 = m
    · rw [if_neg (by simp [c]), ih]
      by_cases e : x = m
      · rw [if_pos e, if_pos e]
      · rw [if_neg e, if_neg e, getR, if_neg (fun z => e (z.symm.trans c))]
    · rw [if_pos (by simp [c]), getR, getR, ih]
      by_cases e : p.1 = x
      · rw [if_pos e, if_pos e, if_neg (fun z => c (e.trans z))]
      · rw [if_neg e, if_neg e]
theorem key_inl {K : Kept} {m : Int} : (.inl m : L2.Key) ∈ kKs K ↔ m ∈ marksK K := by
  unfold kKs marksK
  rw [List.mem_map, List.mem_map]
  exact ⟨fun ⟨p, hp, e⟩ => ⟨p, hp, by injection e⟩, fun ⟨p, hp, e⟩ => ⟨p, hp, by rw [e]⟩⟩
theorem rep_map (m : Int) (r : KRow) : ∀ (K : Kept), repDs (kKs K) (kVs K) (.inl m) (krD r) = kVs (K.map (fun p => if p.1 = m then (m, r) else p))
  | [] => rfl
  | p :: K => by
    have ih := rep_map m r K
    show repDs (.inl p.1 :: kKs K) (krD p.2 :: kVs K) (.inl m) (krD r) = krD (if p.1 = m then (m, r) else p).2 :: kVs (K.map _)
    rw [repDs, ih]
    by_cases c : p.1 = m
    · rw [if_pos (by rw [c]), if_pos c]
    · rw [if_neg (fun z => c (by injection z)), if_neg c]
theorem kept_set (K : Kept) (m : Int) (r : KRow) : putKs (kKs K) (.inl m) = kKs (putR K m r) ∧ putDs (kKs K) (kVs K) (.inl m) (krD r) = kVs (putR K m r) := by
  by_cases c : m ∈ marksK K
  · unfold putKs putDs putR
    rw [if_pos (key_inl.mpr c), if_pos (key_inl.mpr c), if_pos c]
    refine ⟨?_, rep_map m r K⟩
    have e : ∀ J : Kept, kKs J = (marksK J).map Sum.inl := fun J => by unfold kKs marksK; rw [List.map_map]; rfl
    rw [e, e, marks_map]
  · unfold putKs putDs putR
    rw [if_neg (fun z => c (key_inl.mp z)), if_neg (fun z => c (key_inl.mp z)), if_neg c]
    unfold kKs kVs
    rw [List.map_append, List.map_append]
    exact ⟨rfl, rfl⟩
theorem kept_drop (m : Int) : ∀ (K : Kept), dropKs (kKs K) (.inl m) = kKs (dropR K m) ∧ dropDs (kKs K) (kVs K) (.inl m) = kVs (dropR K m)
  | [] => ⟨rfl, rfl⟩
  | p :: K => by
    obtain ⟨h1, h2⟩ := kept_drop m K
    unfold dropKs dropR at h1
    unfold dropR at h2
    show dropKs (.inl p.1 :: kKs K) (.inl m) = _ ∧ dropDs (.inl p.1 :: kKs K) (krD p.2 :: kVs K) (.inl m) = _
    unfold dropKs dropR
    rw [List.filter_cons, dropDs, List.filter_cons, h1, h2]
    by_cases c : p.1 = m
    · have n1 : ¬ decide ((.inl p.1 : L2.Key) ≠ .inl m) = true := by rw [c]; simp
      have n2 : ¬ decide (¬ p.1 = m) = true := by rw [c]; simp
      have n3 : ((.inl p.1 : L2.Key) = .inl m) := by rw [c]
      rw [if_neg n1, if_neg n2, if_pos n3]; exact ⟨rfl, rfl⟩
    · have n : ¬ ((.inl p.1 : L2.Key) = .inl m) := fun z => c (by injection z)
      have n1 : decide ((.inl p.1 : L2.Key) ≠ .inl m) = true := decide_eq_true n
      have n2 : decide (¬ p.1 = m) = true := decide_eq_true c
      rw [if_pos n1, if_pos n2, if_neg n]; exact ⟨rfl, rfl⟩

--@here
/-! the methods -/
def spec_facts : SpecT := fun ds _ Q => ∃ d : Deed, ds = [deedD d] ∧ Q (.lst true ((factsL d).map factD))
def spec_fits : SpecT := fun ds _ Q => ∃ (d : Deed) (K : Kept), ds = [deedD d, .dct false (.k (kKs K)) (kVs K)] ∧ (∀ p ∈ K, PyData.strOk p.2.1 = true) ∧ (∀ w s, d = .take (markOf d) w s → PyData.strOk w = true) ∧ K.length ≤ 10000 ∧ Q (.bl (fitsB K d))
def spec_put_on : SpecT := fun ds _ Q => ∃ (d : Deed) (K : Kept), ds = [deedD d, .dct false (.k (kKs K)) (kVs K)] ∧ K.length ≤ 10000 ∧ (eff d (getR K (markOf d))).isSome = true ∧ Q (.dct true (.k (kKs (putOn K d))) (kVs (putOn K d)))
def spec_told : SpecT := fun ds _ Q => ∃ d : Deed, ds = [deedD d] ∧ Q (toldD d)
theorem deed_cls {d : Deed} {o : Own} {c : Str} {ns : List Str} {es r : List D} {ds : List D} (h : deedD d :: ds = .obj o c ns es :: r) : (∃ m a b, d = .word m a b ∧ c = "Word") ∨ (∃ m a b, d = .spot m a b ∧ c = "Spot") ∨ (∃ m w s, d = .put m w s ∧ c = "Put") ∨ ∃ m w s, d = .take m w s ∧ c = "Take" := by
  injection h with h _
  cases d with
  | word m a b => injection h with _ h2; exact .inl ⟨m, a, b, rfl, h2.symm⟩
  | spot m a b => injection h with _ h2; exact .inr (.inl ⟨m, a, b, rfl, h2.symm⟩)
  | put m w s => injection h with _ h2; exact .inr (.inr (.inl ⟨m, w, s, rfl, h2.symm⟩))
  | take m w s => injection h with _ h2; exact .inr (.inr (.inr ⟨m, w, s, rfl, h2.symm⟩))
theorem cls_word {d : Deed} {ds : List D} (h : ∃ o c ns es r, deedD d :: ds = .obj o c ns es :: r ∧ c ∈ (["Word"] : List Str)) : ∃ m a b, d = .word m a b := by
  obtain ⟨o, c, ns, es, r, e, hc⟩ := h
  rw [List.mem_singleton] at hc
  subst hc
  rcases deed_cls e with ⟨m, a, b, h, _⟩ | ⟨_, _, _, _, h⟩ | ⟨_, _, _, _, h⟩ | ⟨_, _, _, _, h⟩
  · exact ⟨m, a, b, h⟩
  all_goals (exact absurd h (by decide +kernel))
theorem cls_spot {d : Deed} {ds : List D} (h : ∃ o c ns es r, deedD d :: ds = .obj o c ns es :: r ∧ c ∈ (["Spot"] : List Str)) : ∃ m a b, d = .spot m a b := by
  obtain ⟨o, c, ns, es, r, e, hc⟩ := h
  rw [List.mem_singleton] at hc
  subst hc
  rcases deed_cls e with ⟨_, _, _, _, h⟩ | ⟨m, a, b, h, _⟩ | ⟨_, _, _, _, h⟩ | ⟨_, _, _, _, h⟩
  · exact absurd h (by decide +kernel)
  · exact ⟨m, a, b, h⟩
  all_goals (exact absurd h (by decide +kernel))
theorem cls_put {d : Deed} {ds : List D} (h : ∃ o c ns es r, deedD d :: ds = .obj o c ns es :: r ∧ c ∈ (["Put"] : List Str)) : ∃ m w s, d = .put m w s := by
  obtain ⟨o, c, ns, es, r, e, hc⟩ := h
  rw [List.mem_singleton] at hc
  subst hc
  rcases deed_cls e with ⟨_, _, _, _, h⟩ | ⟨_, _, _, _, h⟩ | ⟨m, a, b, h, _⟩ | ⟨_, _, _, _, h⟩
  · exact absurd h (by decide +kernel)
  · exact absurd h (by decide +kernel)
  · exact ⟨m, a, b, h⟩
  · exact absurd h (by decide +kernel)
theorem cls_take {d : Deed} {ds : List D} (h : ∃ o c ns es r, deedD d :: ds = .obj o c ns es :: r ∧ c ∈ (["Take"] : List Str)) : ∃ m w s, d = .take m w s := by
  obtain ⟨o, c, ns, es, r, e, hc⟩ := h
  rw [List.mem_singleton] at hc
  subst hc
  rcases deed_cls e with ⟨_, _, _, _, h⟩ | ⟨_, _, _, _, h⟩ | ⟨_, _, _, _, h⟩ | ⟨m, a, b, h, _⟩
  · exact absurd h (by decide +kernel)
  · exact absurd h (by decide +kernel)
  · exact absurd h (by decide +kernel)
  · exact ⟨m, a, b, h⟩
theorem cls_pt {d : Deed} {ds : List D} (h : ∃ o c ns es r, deedD d :: ds = .obj o c ns es :: r ∧ c ∈ (["Put", "Take"] : List Str)) : ∃ m w s, d = .put m w s ∨ d = .take m w s := by
  obtain ⟨o, c, ns, es, r, e, hc⟩ := h
  rcases List.mem_cons.mp hc with h | h
  · subst h
    obtain ⟨m, w, s, e⟩ := cls_put ⟨o, _, ns, es, r, e, by simp⟩
    exact ⟨m, w, s, .inl e⟩
  · obtain ⟨m, w, s, e⟩ := cls_take ⟨o, c, ns, es, r, e, h⟩
    exact ⟨m, w, s, .inr e⟩
theorem row_tail (r : KRow) : D.tup (Tm.cutD [.str r.1, oZ r.2.1, keyT r.2.2] (some 1) none) = spT r.2 := by
  rw [show (1 : Int) = ((1 : Nat) : Int) from rfl, cutD_from]; rfl
theorem row_head (r : KRow) : Tm.cutD [.str r.1, oZ r.2.1, keyT r.2.2] none (some 1) = [.str r.1] := by
  rw [show (1 : Int) = ((1 : Nat) : Int) from rfl, cutD_to]; rfl
theorem kept_at {K : Kept} {m : Int} {r : KRow} (h : getR K m = some r) : lookD (kKs K) (kVs K) (.inl m) = some (.tup [.str r.1, oZ r.2.1, keyT r.2.2]) := by rw [look_kept, h]; rfl
theorem row_d (r : KRow) : dirty (.tup [.str r.1, oZ r.2.1, keyT r.2.2]) = false := krD_dirty r
theorem spT_ok (s : Spot) : okd (spT s) 62 = true := by
  unfold spT keyT
  have e : okd (oZ s.1) 61 = true := by cases s.1 <;> rfl
  simp only [okd, okds, e, okds_ints]; rfl
theorem spT_sh (s : Spot) : shD (spT s) = true := shD_of 62 (spT_ok s) (by decide)
theorem oZ_inj {a b : Option Int} (h : oZ a = oZ b) : a = b := by cases a <;> cases b <;> first | rfl | (cases h; rfl) | cases h
theorem can_oZ (o : Option Int) : can (oZ o) = oZ o := by cases o <;> rfl
theorem can_spT (s : Spot) : can (spT s) = spT s := by unfold spT keyT; simp only [can, cans, can_oZ, cans_ints]
theorem spT_noB (s : Spot) : noB (spT s) = true := by
  unfold spT keyT
  have e : noB (oZ s.1) = true := by cases s.1 <;> rfl
  simp only [noB, noBs, e, noBs_ints, Bool.and_self]
theorem spT_inj {a b : Spot} (h : spT a = spT b) : a = b := by
  unfold spT keyT at h
  injection h with h
  injection h with h1 h2
  injection h2 with h2 _
  injection h2 with h2
  exact Prod.ext (oZ_inj h1) (ints_inj.mp h2)
theorem spT_eq (a b : Spot) : eqD (spT a) (spT b) = decide (a = b) := eqD_dec (spT_noB a) (spT_noB b) (by
  rw [can_spT, can_spT]; exact ⟨spT_inj, fun h => by rw [h]⟩)
theorem od (o : Option Int) (k : List Int) : (dirty (oZ o) || dirty (keyT k)) = false := by rw [oZ_dirty, keyT_dirty]; rfl
theorem row_tailL (r : KRow) : Tm.cutD [.str r.1, oZ r.2.1, keyT r.2.2] (some 1) none = [oZ r.2.1, keyT r.2.2] := by
  rw [show (1 : Int) = ((1 : Nat) : Int) from rfl, cutD_from]; rfl
theorem can_krD (r : KRow) : can (krD r) = krD r := by
  rw [krD_eq]
  have e : can (keyT r.2.2) = keyT r.2.2 := by unfold keyT; simp only [can, cans_ints]
  simp only [can, cans, can_oZ, e]
theorem keyT_inj {a b : List Int} (h : keyT a = keyT b) : a = b := by
  unfold keyT at h
  injection h with h
  exact ints_inj.mp h
theorem krD_inj {r s : KRow} (h : krD r = krD s) : r = s := by
  rw [krD_eq, krD_eq] at h
  injection h with h
  injection h with h1 h2
  injection h2 with h2 h3
  injection h3 with h3 _
  injection h1 with h1
  exact Prod.ext h1 (Prod.ext (oZ_inj h2) (keyT_inj h3))
theorem krD_eqD (r s : KRow) : eqD (krD r) (krD s) = decide (r = s) := eqD_dec (krD_noB r) (krD_noB s) (by
  rw [can_krD, can_krD]; exact ⟨krD_inj, fun h => by rw [h]⟩)
/-- the deeds that this law has -/
def live : Deed → Bool
  | .word _ _ _ => true
  | .spot _ _ _ => true
  | .put _ _ _ => false
  | .take _ _ _ => false
abbrev LvIn (cl : List Str) : Prop := ("Word" : Str) ∈ cl ∧ ("Spot" : Str) ∈ cl
abbrev LvNo (m : Str) : Prop := m ∉ (["mark", "old", "new"] : List Str)
theorem methK_deed {cl : List Str} {m : Str} {sp : SpecT} {d : Deed} {w : (List D → Tm.Env → Prop) → Prop} {Q : D → Bool → Tm.Env → Prop} (hd : live d = true) (h1 : LvIn cl) (h2 : LvNo m)
    (h : w fun es env1 => sp (deedD d :: fzs es) px0 fun d => (dirtys es = false ∨ selfc d = true) ∧ Q d false env1) : methK cl m sp (some (some (deedD d))) w Q := by
  have e := deedD_fz d
  cases d with
  | word a o n => exact ⟨h1.1, h2, rfl, h⟩
  | spot a o n =>
    refine ⟨h1.2, h2, by simp only [dirtys, dirty, spT_dirty, Bool.or_self], ?_⟩
    simp only [fzs, spT_fz, fz]; exact h
  | put a x s => cases hd
  | take a x s => cases hd
theorem clf_all : LvIn clm_facts := by decide +kernel
theorem nfl_facts : LvNo "facts" := by decide +kernel
theorem clfit_all : LvIn clm_fits := by decide +kernel
theorem nfl_fits : LvNo "fits" := by decide +kernel
theorem clp_all : LvIn clm_put_on := by decide +kernel
theorem nfl_put_on : LvNo "put_on" := by decide +kernel
theorem cltd_all : LvIn clm_told := by decide +kernel
theorem nfl_told : LvNo "told" := by decide +kernel
def ws_Word_facts : WS := wRet (wLst (wItm (wTup (wItm (wFld clNames (wVar 0) "mark") (wItm (wC (.str "word")) (wNil)))) (wNil)))
abbrev n_Word_facts : Nat := 1
def spec_Word_facts : SpecT := clsIn ["Word"] spec_facts
theorem len_Word_facts : ∀ ds px Q, spec_Word_facts ds px Q → ds.length = 1 := by
  rintro ds px Q ⟨_, d, rfl, _⟩; rfl
theorem pure_Word_facts : ∀ ds px Q, spec_Word_facts ds px Q → ws_Word_facts (PEnds.top Q) px (start0 n_Word_facts ds) := by
  rintro ds px Q ⟨hc, d, rfl, q⟩
  obtain ⟨m, a, b, rfl⟩ := cls_word hc
  show ws_Word_facts (PEnds.top Q) px [some (.obj .f "Word" ["mark", "old", "new"] [.int m, .str a, .str b])]
  unfold ws_Word_facts
  walk_at "tm"
  exact q
def ws_Spot_facts : WS := wRet (wLst (wItm (wTup (wItm (wFld clNames (wVar 0) "mark") (wItm (wC (.str "spot")) (wNil)))) (wNil)))
abbrev n_Spot_facts : Nat := 1
def spec_Spot_facts : SpecT := clsIn ["Spot"] spec_facts
theorem len_Spot_facts : ∀ ds px Q, spec_Spot_facts ds px Q → ds.length = 1 := by
  rintro ds px Q ⟨_, d, rfl, _⟩; rfl
theorem pure_Spot_facts : ∀ ds px Q, spec_Spot_facts ds px Q → ws_Spot_facts (PEnds.top Q) px (start0 n_Spot_facts ds) := by
  rintro ds px Q ⟨hc, d, rfl, q⟩
  obtain ⟨m, a, b, rfl⟩ := cls_spot hc
  show ws_Spot_facts (PEnds.top Q) px [some (.obj .f "Spot" ["mark", "old", "new"] [.int m, spT a, spT b])]
  unfold ws_Spot_facts
  walk_at "tm"
  exact q
def ws_Word_told : WS := wRet (wTup (wItm (wC (.str "word")) (wItm (wFld clNames (wVar 0) "mark") (wItm (wFld clNames (wVar 0) "old") (wItm (wFld clNames (wVar 0) "new") (wNil))))))
abbrev n_Word_told : Nat := 1
def spec_Word_told : SpecT := clsIn ["Word"] spec_told
theorem len_Word_told : ∀ ds px Q, spec_Word_told ds px Q → ds.length = 1 := by
  rintro ds px Q ⟨_, d, rfl, _⟩; rfl
theorem pure_Word_told : ∀ ds px Q, spec_Word_told ds px Q → ws_Word_told (PEnds.top Q) px (start0 n_Word_told ds) := by
  rintro ds px Q ⟨hc, d, rfl, q⟩
  obtain ⟨m, a, b, rfl⟩ := cls_word hc
  show ws_Word_told (PEnds.top Q) px [some (.obj .f "Word" ["mark", "old", "new"] [.int m, .str a, .str b])]
  unfold ws_Word_told
  walk_at "tm"
  exact q
def ws_Spot_told : WS := wRet (wTup (wItm (wC (.str "spot")) (wItm (wFld clNames (wVar 0) "mark") (wItm (wFld clNames (wVar 0) "old") (wItm (wFld clNames (wVar 0) "new") (wNil))))))
abbrev n_Spot_told : Nat := 1
def spec_Spot_told : SpecT := clsIn ["Spot"] spec_told
theorem len_Spot_told : ∀ ds px Q, spec_Spot_told ds px Q → ds.length = 1 := by
  rintro ds px Q ⟨_, d, rfl, _⟩; rfl
theorem pure_Spot_told : ∀ ds px Q, spec_Spot_told ds px Q → ws_Spot_told (PEnds.top Q) px (start0 n_Spot_told ds) := by
  rintro ds px Q ⟨hc, d, rfl, q⟩
  obtain ⟨m, a, b, rfl⟩ := cls_spot hc
  show ws_Spot_told (PEnds.top Q) px [some (.obj .f "Spot" ["mark", "old", "new"] [.int m, spT a, spT b])]
  unfold ws_Spot_told
  walk_at "tm"
  simp only [spT_dirty, spT_fz, Bool.or_self, true_and]
  exact q
def ws_Word_fits : WS := wRet (wAndV (wOp gDIn (wFld clNames (wVar 0) "mark") (wVar 1)) (wOp gEq (wOp gIx (wOp gDGet (wVar 1) (wFld clNames (wVar 0) "mark")) (wC (.int 0))) (wFld clNames (wVar 0) "old")))
abbrev n_Word_fits : Nat := 2
def spec_Word_fits : SpecT := clsIn ["Word"] spec_fits
theorem len_Word_fits : ∀ ds px Q, spec_Word_fits ds px Q → ds.length = 2 := by
  rintro ds px Q ⟨_, d, K, rfl, _⟩; rfl
theorem pure_Word_fits : ∀ ds px Q, spec_Word_fits ds px Q → ws_Word_fits (PEnds.top Q) px (start0 n_Word_fits ds) := by
  rintro ds px Q ⟨hc, d, K, rfl, ok, okt, hl, q⟩
  obtain ⟨m, a, b, rfl⟩ := cls_word hc
  show ws_Word_fits (PEnds.top Q) px [some (.obj .f "Word" ["mark", "old", "new"] [.int m, .str a, .str b]), some (.dct false (.k (kKs K)) (kVs K))]
  unfold ws_Word_fits
  walk_at "tm"
  rw [in_kept]
  by_cases c : m ∈ marksK K
  · rw [if_pos (decide_eq_true c)]
    obtain ⟨r, hr⟩ := getR_some c
    refine atK_of (kept_at hr) (row_d r) ?_
    walk_at "tm"
    have e : fitsB K (.word m a b) = decide (r.1 = a) := by show (getR K m).any _ = _; rw [hr]; rfl
    rw [e] at q
    exact q
  · rw [if_neg (by simp [c])]
    have e : fitsB K (.word m a b) = false := by show (getR K m).any _ = _; rw [getR_none c]; rfl
    rw [e] at q
    exact q
def ws_Spot_fits : WS := wRet (wAndV (wOp gDIn (wFld clNames (wVar 0) "mark") (wVar 1)) (wOp gEq (wSl (wOp gDGet (wVar 1) (wFld clNames (wVar 0) "mark")) (wPart (wC (.int 1))) (wNo)) (wFld clNames (wVar 0) "old")))
abbrev n_Spot_fits : Nat := 2
def spec_Spot_fits : SpecT := clsIn ["Spot"] spec_fits
theorem len_Spot_fits : ∀ ds px Q, spec_Spot_fits ds px Q → ds.length = 2 := by
  rintro ds px Q ⟨_, d, K, rfl, _⟩; rfl
theorem pure_Spot_fits : ∀ ds px Q, spec_Spot_fits ds px Q → ws_Spot_fits (PEnds.top Q) px (start0 n_Spot_fits ds) := by
  rintro ds px Q ⟨hc, d, K, rfl, ok, okt, hl, q⟩
  obtain ⟨m, a, b, rfl⟩ := cls_spot hc
  show ws_Spot_fits (PEnds.top Q) px [some (.obj .f "Spot" ["mark", "old", "new"] [.int m, spT a, spT b]), some (.dct false (.k (kKs K)) (kVs K))]
  unfold ws_Spot_fits
  walk_at "tm"
  rw [in_kept]
  by_cases c : m ∈ marksK K
  · rw [if_pos (decide_eq_true c)]
    obtain ⟨r, hr⟩ := getR_some c
    refine atK_of (kept_at hr) (row_d r) ?_
    have e : fitsB K (.spot m a b) = decide (r.2 = a) := by show (getR K m).any _ = _; rw [hr]; rfl
    rw [e, ← spT_eq] at q
    have h1 := spT_sh r.2
    have h2 := spT_sh a
    have h3 := spT_dirty a
    rw [← row_tail] at h1 q
    rw [show spT a = .tup [oZ a.1, keyT a.2] from rfl] at h2 h3 q ⊢
    walk_at "tm"
    refine ⟨od _ _, od _ _, h1, h2, ?_⟩
    exact q
  · rw [if_neg (by simp [c])]
    have e : fitsB K (.spot m a b) = false := by show (getR K m).any _ = _; rw [getR_none c]; rfl
    rw [e] at q
    exact q
def ws_Word_put_on : WS := wSeq (wAsg (wB gDCopy (wArg (wVar 1) (wNil))) (gtName 2)) (wSeq (wDPut 2 (wOp gAdd (wTup (wItm (wFld clNames (wVar 0) "new") (wNil))) (wSl (wOp gDGet (wVar 1) (wFld clNames (wVar 0) "mark")) (wPart (wC (.int 1))) (wNo))) (wFld clNames (wVar 0) "mark")) (wRet (wMov 2)))
abbrev n_Word_put_on : Nat := 3
def spec_Word_put_on : SpecT := clsIn ["Word"] spec_put_on
theorem len_Word_put_on : ∀ ds px Q, spec_Word_put_on ds px Q → ds.length = 2 := by
  rintro ds px Q ⟨_, d, K, rfl, _⟩; rfl
theorem pure_Word_put_on : ∀ ds px Q, spec_Word_put_on ds px Q → ws_Word_put_on (PEnds.top Q) px (start0 n_Word_put_on ds) := by
  rintro ds px Q ⟨hc, d, K, rfl, hl, he, q⟩
  obtain ⟨m, a, b, rfl⟩ := cls_word hc
  show ws_Word_put_on (PEnds.top Q) px [some (.obj .f "Word" ["mark", "old", "new"] [.int m, .str a, .str b]), some (.dct false (.k (kKs K)) (kVs K)), none]
  unfold ws_Word_put_on
  walk_at "tm"
  have hs : ∃ r, getR K m = some r := by
    cases e : getR K m with
    | none => rw [show markOf (.word m a b) = m from rfl, e] at he; cases he
    | some r => exact ⟨r, rfl⟩
  obtain ⟨r, hr⟩ := hs
  have e : putOn K (.word m a b) = putR K m (b, r.2) := by show (match getR K m with | some r => putR K m (b, r.2) | none => K) = _; rw [hr]
  rw [e, ← (kept_set K m (b, r.2)).1, ← (kept_set K m (b, r.2)).2] at q
  refine ⟨kVs_dirty K, atK_of (kept_at hr) (row_d r) ?_⟩
  walk_at "tm"
  have el := row_tailL r
  rw [el]
  exact ⟨od _ _, by simp only [dirtys, oZ_dirty, keyT_dirty, Bool.or_self], by simp, by simp only [dirtys, oZ_dirty, keyT_dirty, Bool.or_self], kVs_dirty K, by rw [kKs_len]; omega, q⟩
def ws_Spot_put_on : WS := wSeq (wAsg (wB gDCopy (wArg (wVar 1) (wNil))) (gtName 2)) (wSeq (wDPut 2 (wOp gAdd (wSl (wOp gDGet (wVar 1) (wFld clNames (wVar 0) "mark")) (wNo) (wPart (wC (.int 1)))) (wFld clNames (wVar 0) "new")) (wFld clNames (wVar 0) "mark")) (wRet (wMov 2)))
abbrev n_Spot_put_on : Nat := 3
def spec_Spot_put_on : SpecT := clsIn ["Spot"] spec_put_on
theorem len_Spot_put_on : ∀ ds px Q, spec_Spot_put_on ds px Q → ds.length = 2 := by
  rintro ds px Q ⟨_, d, K, rfl, _⟩; rfl
theorem pure_Spot_put_on : ∀ ds px Q, spec_Spot_put_on ds px Q → ws_Spot_put_on (PEnds.top Q) px (start0 n_Spot_put_on ds) := by
  rintro ds px Q ⟨hc, d, K, rfl, hl, he, q⟩
  obtain ⟨m, a, b, rfl⟩ := cls_spot hc
  show ws_Spot_put_on (PEnds.top Q) px [some (.obj .f "Spot" ["mark", "old", "new"] [.int m, spT a, spT b]), some (.dct false (.k (kKs K)) (kVs K)), none]
  unfold ws_Spot_put_on
  walk_at "tm"
  have hs : ∃ r, getR K m = some r := by
    cases e : getR K m with
    | none => rw [show markOf (.spot m a b) = m from rfl, e] at he; cases he
    | some r => exact ⟨r, rfl⟩
  obtain ⟨r, hr⟩ := hs
  have e : putOn K (.spot m a b) = putR K m (r.1, b) := by show (match getR K m with | some r => putR K m (r.1, b) | none => K) = _; rw [hr]
  rw [e, ← (kept_set K m (r.1, b)).1, ← (kept_set K m (r.1, b)).2] at q
  refine ⟨kVs_dirty K, atK_of (kept_at hr) (row_d r) ?_⟩
  rw [show spT b = .tup [oZ b.1, keyT b.2] from rfl]
  walk_at "tm"
  rw [row_head]
  exact ⟨od _ _, od _ _, rfl, od _ _, by simp, by simp only [List.cons_append, List.nil_append, dirtys, dirty, oZ_dirty, keyT_dirty, Bool.or_self], kVs_dirty K, by rw [kKs_len]; omega, q⟩

--@here
def IsRoot (K : Kept) (r : Int) : Prop := (K.filter fun p => p.2.2.1.isNone).map (·.1) = [r]
def OkK (K : Kept) : Prop := ∀ p ∈ K, PyData.strOk p.2.1 = true
theorem OkK.get {K : Kept} (h : OkK K) {m : Int} {r : KRow} (e : getR K m = some r) : PyData.strOk r.1 = true := h (m, r) (getR_mem e)
def ws_root_mark : WS := wRet (wOp gIx (wLcK 0 (gtName 1) (wTest (wOp gIs (wOp gIx (wOp gDGet (wVar 0) (wVar 1)) (wC (.int 1))) (wC .non))) (wVar 1) [1]) (wC (.int 0)))
abbrev n_root_mark : Nat := 2
def spec_root_mark : SpecT := fun ds _ Q => ∃ (K : Kept) (r : Int), ds = [.dct false (.k (kKs K)) (kVs K)] ∧ (marksK K).Nodup ∧ K.length ≤ 10000 ∧ IsRoot K r ∧ Q (.int r)
theorem len_root_mark : ∀ ds px Q, spec_root_mark ds px Q → ds.length = 1 := by
  rintro ds px Q ⟨a, b, rfl, _⟩; rfl
theorem pure_root_mark : ∀ ds px Q, spec_root_mark ds px Q → ws_root_mark (PEnds.top Q) px (start0 n_root_mark ds) := by
  rintro ds px Q ⟨K, r, rfl, hn, hl, hr, q⟩
  show ws_root_mark (PEnds.top Q) px [some (.dct false (.k (kKs K)) (kVs K)), none]
  unfold ws_root_mark
  have ek : (kKs K).map keyD = K.map fun p => D.int p.1 := by unfold kKs; rw [List.map_map]; rfl
  walk_at "tm"
  rw [ek, kVs_fz]
  refine ⟨kVs_dirty K, lcW_map (f := fun p : Int × KRow => D.int p.1) (fun p => p.2.2.1.isNone) (fun p => .int p.1) K [] (by rw [List.length_nil]; omega) ?_ ?_⟩
  · rintro p hp Y N hy hx
    have lk := kept_at (getR_of hn (show (p.1, p.2) ∈ K from hp))
    walk_at "tm"
    refine atK_of lk (row_d _) ?_
    cases eo : p.2.2.1 with
    | none =>
      simp only [oZ]
      walk_at "tm"
      exact hy (by rw [eo]; rfl)
    | some x =>
      simp only [oZ]
      walk_at "tm"
      exact hx (by rw [eo]; rfl)
  have e : (K.filter fun p => p.2.2.1.isNone).map (fun p => D.int p.1) = [.int r] := by
    have := congrArg (List.map D.int) hr
    rw [List.map_map] at this
    exact this
  rw [List.nil_append, e]
  exact ⟨rfl, q⟩
def factK (f : Int × Bool) : List L2.Key := [.inl f.1, .inr (if f.2 then "word" else "spot")]
theorem factK_inj {f g : Int × Bool} (h : factK f = factK g) : f = g := by
  unfold factK at h
  injection h with h1 h2
  injection h1 with h1
  injection h2 with h2 _
  injection h2 with h2
  refine Prod.ext h1 ?_
  have ne : ¬ (("word" : Str) = "spot") := by decide +kernel
  cases e1 : f.2 <;> cases e2 : g.2 <;> rw [e1, e2] at h2 <;> first | rfl | exact absurd h2 ne | exact absurd h2.symm ne
theorem lookD_no {κ : Type} [DecidableEq κ] : ∀ {ks : List κ} {ds : List D} {k : κ}, k ∉ ks → lookD ks ds k = none
  | [], _, _, _ => by simp [lookD]
  | _ :: _, [], _, _ => by simp [lookD]
  | a :: ks, d :: ds, k, h => by
    rw [List.mem_cons, not_or] at h
    rw [lookD, if_neg (fun z => h.1 z.symm)]
    exact lookD_no h.2
theorem flat_len {α β : Type} {f : α → List β} (h : ∀ a, (f a).length ≤ 2) : ∀ (xs : List α), (xs.flatMap f).length ≤ 2 * xs.length
  | [] => Nat.zero_le _
  | x :: xs => by
    have := flat_len h xs
    have := h x
    rw [List.flatMap_cons, List.length_append, List.length_cons]; omega
def ws_check_facts : WS := wSeq (wAsg (wDNew (.t [])) (gtName 1)) (wFor (itsL (wVar 0)) (gtName 2) (wFor (itsL (wMeth clm_facts "facts" spec_facts 2 wNil)) (gtName 3) (wSeq (wIf (wTest (wOp gDIn (wVar 3) (wVar 1))) (wNever) (wNext)) (wDPut 1 (wC (.bl true)) (wVar 3)))))
abbrev n_check_facts : Nat := 4
def spec_check_facts : SpecT := fun ds _ Q => ∃ (xs : List Deed), ds = [.lst false (xs.map deedD)] ∧ (∀ d ∈ xs, live d = true) ∧ (xs.flatMap factsL).Nodup ∧ xs.length ≤ 1000 ∧ Q .non
theorem len_check_facts : ∀ ds px Q, spec_check_facts ds px Q → ds.length = 1 := by
  rintro ds px Q ⟨a, rfl, _⟩; rfl
theorem pure_check_facts : ∀ ds px Q, spec_check_facts ds px Q → ws_check_facts (PEnds.top Q) px (start0 n_check_facts ds) := by
  rintro ds px Q ⟨xs, rfl, hv, hn, hl, q⟩
  show ws_check_facts (PEnds.top Q) px [some (.lst false (xs.map deedD)), none, none, none]
  unfold ws_check_facts
  walk_at "tm"
  refine ⟨deeds_dirty _, fun i env => ∃ (ds : List D) (x2 x3 : Option D), env = [some (.lst false (xs.map deedD)), some (.dct true (.t (((xs.take i).flatMap factsL).map factK)) ds), x2, x3] ∧ dirtys ds = false, ⟨_, _, _, rfl, rfl⟩, ?_, ?_⟩
  · rintro i d env2 hd ⟨ds, x2, x3, rfl, hds⟩
    obtain ⟨x, hx, rfl⟩ := map_get hd
    walk_at "tm"
    refine methK_deed (hv x (List.mem_of_getElem? hx)) clf_all nfl_facts ?_
    walk_at "tm"
    refine ⟨x, rfl, ?_⟩
    walk_at "tm"
    have hpre : (xs.take (i + 1)).flatMap factsL = (xs.take i).flatMap factsL ++ factsL x := by
      rw [List.take_succ, hx, List.flatMap_append]; simp
    have hnd : ((xs.take i).flatMap factsL ++ factsL x).Nodup := by
      rw [← hpre]
      refine List.Nodup.sublist ?_ hn
      rw [← List.take_append_drop (i + 1) xs, List.flatMap_append, List.take_append_drop]
      exact List.sublist_append_left _ _
    refine ⟨dirtys_mapI (f := factD) (fun _ => rfl) _, fun j env => ∃ (ds : List D) (x3 : Option D), env = [some (.lst false (xs.map deedD)), some (.dct true (.t (((xs.take i).flatMap factsL ++ (factsL x).take j).map factK)) ds), some (deedD x), x3] ∧ dirtys ds = false, ⟨ds, x3, by rw [List.take_zero, List.append_nil], hds⟩, ?_, ?_⟩
    · rintro j d env3 hd2 ⟨ds, x3, rfl, hds⟩
      obtain ⟨f, hf, rfl⟩ := map_get hd2
      rw [show factD f = .tup [.int f.1, .str (if f.2 then "word" else "spot")] from rfl]
      walk_at "tm"
      have hj := (List.getElem?_eq_some_iff.mp hf).1
      have htk : (factsL x).take (j + 1) = (factsL x).take j ++ [f] := by rw [List.take_succ, hf]; rfl
      have hnew : factK f ∉ ((xs.take i).flatMap factsL ++ (factsL x).take j).map factK := fun h => by
        obtain ⟨g, hg, e⟩ := List.mem_map.mp h
        have e := factK_inj e
        subst e
        have nd2 : (((xs.take i).flatMap factsL ++ (factsL x).take j) ++ [g]).Nodup := by
          refine List.Nodup.sublist ?_ hnd
          rw [List.append_assoc, ← htk]
          exact List.Sublist.append (List.Sublist.refl _) (List.take_sublist _ _)
        exact (List.nodup_append.mp nd2).2.2 g hg g (by simp) rfl
      have ek : [Sum.inl f.1, Sum.inr (if f.2 = true then Str.ofString "word" else Str.ofString "spot")] = factK f := rfl
      rw [ek, lookD_no hnew, if_neg (by simp), show putKs (((xs.take i).flatMap factsL ++ (factsL x).take j).map factK) (factK f) = (((xs.take i).flatMap factsL ++ (factsL x).take (j + 1)).map factK) from by
        unfold putKs; rw [if_neg hnew, htk, ← List.append_assoc, List.map_append (l₂ := [f])]; rfl]
      have fl2 : (factsL x).length ≤ 2 := by cases x <;> simp [factsL]
      have fl := flat_len (f := factsL) (fun d => by cases d <;> simp [factsL]) (xs.take i)
      have ti : (xs.take i).length ≤ 1000 := by rw [List.length_take]; omega
      refine ⟨hds, by rw [List.length_append, List.length_take]; omega, _, _, rfl, ?_⟩
      unfold putDs
      rw [if_neg hnew, dirtys_app, hds]; rfl
    · rintro env3 ⟨ds, x3, rfl, hds⟩
      rw [List.length_map, List.take_length, ← hpre]
      walk_at "tm"
      exact ⟨_, _, _, rfl, hds⟩
  · rintro env2 ⟨ds, x2, x3, rfl, hds⟩
    walk_at "tm"
    exact q
def ws_done_on : WS := wSeq (wDrop (wCall0 spec_check_facts [] (wArg (wVar 1) (wNil)))) (wSeq (wFor (itsL (wVar 1)) (gtName 2) (wIf (wNot (wTest (wMeth clm_fits "fits" spec_fits 2 (wArg (wVar 0) (wNil))))) (wNever) (wNext))) (wSeq (wAsg (wB gDCopy (wArg (wVar 0) (wNil))) (gtName 3)) (wSeq (wFor (itsL (wVar 1)) (gtName 2) (wAsg (wMeth clm_put_on "put_on" spec_put_on 2 (wArg (wVar 3) (wNil))) (gtName 3))) (wSeq (wIf (wOr (wNot (wTest (wCall0 spec_is_kept [] (wArg (wVar 3) (wNil))))) (wTest (wOp gNe (wCall0 spec_root_mark [] (wArg (wVar 3) (wNil))) (wCall0 spec_root_mark [] (wArg (wVar 0) (wNil)))))) (wNever) (wNext)) (wRet (wMov 3))))))
abbrev n_done_on : Nat := 4
def spec_done_on : SpecT := fun ds _ Q => ∃ (A : Kept) (r : Int) (xs : List Deed), ds = [.dct false (.k (kKs A)) (kVs A), .lst false (xs.map deedD)] ∧ (∀ d ∈ xs, live d = true) ∧ (marksK A).Nodup ∧ OkK A ∧ IsRoot A r ∧ A.length ≤ 1000 ∧ xs.length ≤ 1000 ∧ (xs.flatMap factsL).Nodup ∧ (∀ d ∈ xs, fitsB A d = true) ∧ (∀ d ∈ xs, ∀ m w s, d = .take m w s → PyData.strOk w = true) ∧
  (∀ i, i < xs.length → ∀ d, xs[i]? = some d → (eff d (getR ((xs.take i).foldl putOn A) (markOf d))).isSome = true) ∧ isKept (xs.foldl putOn A) ∧ (marksK (xs.foldl putOn A)).Nodup ∧ IsRoot (xs.foldl putOn A) r ∧ Q (.dct true (.k (kKs (xs.foldl putOn A))) (kVs (xs.foldl putOn A)))
theorem len_done_on : ∀ ds px Q, spec_done_on ds px Q → ds.length = 2 := by
  rintro ds px Q ⟨a, b, c, rfl, _⟩; rfl
theorem put_len (K : Kept) (d : Deed) : (putOn K d).length ≤ K.length + 1 := by
  have hp : ∀ m r, (putR K m r).length ≤ K.length + 1 := fun m r => by
    unfold putR
    split
    · rw [List.length_map]; omega
    · rw [List.length_append, List.length_singleton]; exact Nat.le_refl _
  cases d with
  | word m o n => show (match getR K m with | some r => putR K m (n, r.2) | none => K).length ≤ _; split <;> first | exact hp _ _ | omega
  | spot m o n => show (match getR K m with | some r => putR K m (r.1, n) | none => K).length ≤ _; split <;> first | exact hp _ _ | omega
  | put m w s => exact hp _ _
  | take m w s => exact Nat.le_trans (List.length_filter_le _ K) (by omega)
theorem fold_len (A : Kept) : ∀ (xs : List Deed), (xs.foldl putOn A).length ≤ A.length + xs.length := by
  intro xs
  induction xs generalizing A with
  | nil => exact Nat.le_refl _
  | cons x xs ih =>
    have h1 := ih (putOn A x)
    have h2 := put_len A x
    rw [List.foldl_cons, List.length_cons]; omega
theorem pure_done_on : ∀ ds px Q, spec_done_on ds px Q → ws_done_on (PEnds.top Q) px (start0 n_done_on ds) := by
  rintro ds px Q ⟨A, r, xs, rfl, hv, na, oka, ra, la, lx, nf, fit, okt, hstep, kept, nb, rb, q⟩
  show ws_done_on (PEnds.top Q) px [some (.dct false (.k (kKs A)) (kVs A)), some (.lst false (xs.map deedD)), none, none]
  unfold ws_done_on
  walk_at "tm"
  simp only [deeds_fz, kVs_fz]
  refine ⟨xs, rfl, hv, nf, lx, ?_⟩
  refine ⟨deeds_dirty _, fun i env => ∃ (x2 x3 : Option D), env = [some (.dct false (.k (kKs A)) (kVs A)), some (.lst false (xs.map deedD)), x2, x3], ⟨_, _, rfl⟩, ?_, ?_⟩
  · rintro i d env2 hd ⟨x2, x3, rfl⟩
    obtain ⟨x, hx, rfl⟩ := map_get hd
    have hxm := List.mem_of_getElem? hx
    walk_at "tm"
    refine methK_deed (hv x hxm) clfit_all nfl_fits ?_
    walk_at "tm"
    simp only [kVs_fz]
    refine ⟨x, A, rfl, oka, fun w s e => okt x hxm _ w s e, by omega, ?_⟩
    rw [fit x hxm]
    exact ⟨_, _, rfl⟩
  rintro env2 ⟨x2, x3, rfl⟩
  walk_at "tm"
  refine ⟨kVs_dirty A, deeds_dirty _, fun i env => ∃ (x2 : Option D), env = [some (.dct false (.k (kKs A)) (kVs A)), some (.lst false (xs.map deedD)), x2, some (.dct true (.k (kKs ((xs.take i).foldl putOn A))) (kVs ((xs.take i).foldl putOn A)))], ⟨_, rfl⟩, ?_, ?_⟩
  · rintro i d env2 hd ⟨x2, rfl⟩
    obtain ⟨x, hx, rfl⟩ := map_get hd
    have hi := (List.getElem?_eq_some_iff.mp hx).1
    have hs := hstep i hi x hx
    have fl := fold_len A (xs.take i)
    have tl : (xs.take i).length ≤ xs.length := by rw [List.length_take]; omega
    have e1 : (xs.take (i + 1)).foldl putOn A = putOn ((xs.take i).foldl putOn A) x := by
      rw [List.take_succ, hx, List.foldl_append]; rfl
    walk_at "tm"
    rw [e1]
    generalize (xs.take i).foldl putOn A = B at hs fl
    refine methK_deed (hv x (List.mem_of_getElem? hx)) clp_all nfl_put_on ?_
    walk_at "tm"
    simp only [kVs_fz]
    refine ⟨x, B, rfl, by omega, hs, ?_⟩
    walk_at "tm"
    exact ⟨kVs_selfc _, _, rfl⟩
  rintro env2 ⟨x2, rfl⟩
  rw [List.length_map, List.take_length]
  have fl := fold_len A xs
  generalize xs.foldl putOn A = B at kept nb rb q fl
  walk_at "tm"
  simp only [kVs_fz]
  refine ⟨B, rfl, nb, ?_⟩
  rw [keptB_iff.mpr kept]
  walk_at "tm"
  refine ⟨B, r, rfl, nb, by omega, rb, ?_⟩
  refine ⟨rfl, A, r, rfl, na, by omega, ra, ?_⟩
  walk_at "tm"
  exact q

--@here
/-! what a list of deeds leads to -/
def effs : List Deed → Option KRow → Option (Option KRow)
  | [], a => some a
  | d :: ds, a => (eff d a).bind (effs ds)
theorem effs_app (xs ys : List Deed) (a : Option KRow) : effs (xs ++ ys) a = (effs xs a).bind (effs ys) := by
  induction xs generalizing a with
  | nil => rfl
  | cons x xs ih =>
    show (eff x a).bind (effs (xs ++ ys)) = ((eff x a).bind (effs xs)).bind (effs ys)
    cases eff x a with
    | none => rfl
    | some b => exact ih b
def ofM (m : Int) (xs : List Deed) : List Deed := xs.filter fun d => decide (markOf d = m)
theorem ofM_app (m : Int) (xs ys : List Deed) : ofM m (xs ++ ys) = ofM m xs ++ ofM m ys := List.filter_append ..
theorem ofM_cons (m : Int) (x : Deed) (xs : List Deed) : ofM m (x :: xs) = if markOf x = m then x :: ofM m xs else ofM m xs := by
  unfold ofM
  rw [List.filter_cons]
  by_cases c : markOf x = m
  · rw [if_pos (decide_eq_true c), if_pos c]
  · rw [if_neg (by simp [c]), if_neg c]
theorem put_step {A : Kept} (h : (marksK A).Nodup) {x : Deed} {o : Option KRow} (e : eff x (getR A (markOf x)) = some o) : (marksK (putOn A x)).Nodup ∧ ∀ m, getR (putOn A x) m = if m = markOf x then o else getR A m := by
  cases x with
  | word m a n =>
    rw [show markOf (.word m a n) = m from rfl] at e ⊢
    cases g : getR A m with
    | none => rw [g] at e; cases e
    | some r =>
      rw [g] at e
      have e : some (n, r.2) = o := by injection e
      have ep : putOn A (.word m a n) = putR A m (n, r.2) := by show (match getR A m with | some r => putR A m (n, r.2) | none => A) = _; rw [g]
      rw [ep, ← e]
      exact ⟨putR_nd h _ _, fun m' => getR_put A m _ m'⟩
  | spot m a n =>
    rw [show markOf (.spot m a n) = m from rfl] at e ⊢
    cases g : getR A m with
    | none => rw [g] at e; cases e
    | some r =>
      rw [g] at e
      have e : some (r.1, n) = o := by injection e
      have ep : putOn A (.spot m a n) = putR A m (r.1, n) := by show (match getR A m with | some r => putR A m (r.1, n) | none => A) = _; rw [g]
      rw [ep, ← e]
      exact ⟨putR_nd h _ _, fun m' => getR_put A m _ m'⟩
  | put m w s =>
    have e : some (w, s) = o := by injection e
    rw [← e]
    exact ⟨putR_nd h _ _, fun m' => getR_put A m _ m'⟩
  | take m w s =>
    rw [show markOf (.take m w s) = m from rfl] at e ⊢
    cases g : getR A m with
    | none => rw [g] at e; cases e
    | some r =>
      rw [g] at e
      have e : none = o := by injection e
      rw [← e]
      exact ⟨dropR_nd h _, fun m' => getR_drop m m' A⟩
theorem fold_effs : ∀ (xs : List Deed) (A : Kept), (marksK A).Nodup → (∀ m, (effs (ofM m xs) (getR A m)).isSome = true) → (marksK (xs.foldl putOn A)).Nodup ∧ ∀ m, effs (ofM m xs) (getR A m) = some (getR (xs.foldl putOn A) m)
  | [], A, h, _ => ⟨h, fun m => rfl⟩
  | x :: xs, A, h, hs => by
    have h0 := hs (markOf x)
    rw [ofM_cons, if_pos rfl] at h0
    have h0 : ((eff x (getR A (markOf x))).bind (effs (ofM (markOf x) xs))).isSome = true := h0
    cases e : eff x (getR A (markOf x)) with
    | none => rw [e] at h0; cases h0
    | some o =>
      obtain ⟨n1, g1⟩ := put_step h e
      have next : ∀ m, effs (ofM m (x :: xs)) (getR A m) = effs (ofM m xs) (getR (putOn A x) m) := fun m => by
        rw [ofM_cons, g1]
        by_cases c : markOf x = m
        · rw [if_pos c, if_pos c.symm]
          show (eff x (getR A m)).bind (effs (ofM m xs)) = _
          rw [← c, e]; rfl
        · rw [if_neg c, if_neg (fun z => c z.symm)]
      obtain ⟨a1, a2⟩ := fold_effs xs (putOn A x) n1 fun m => by rw [← next]; exact hs m
      exact ⟨a1, fun m => by rw [next]; exact a2 m⟩
/-- each step can be done -/
theorem steps_ok {A : Kept} {xs : List Deed} (h : (marksK A).Nodup) (hs : ∀ m, (effs (ofM m xs) (getR A m)).isSome = true) : ∀ i, i < xs.length → ∀ d, xs[i]? = some d → (eff d (getR ((xs.take i).foldl putOn A) (markOf d))).isSome = true := by
  intro i hi d hd
  have split : xs = xs.take i ++ (d :: xs.drop (i + 1)) := by
    obtain ⟨h1, h2⟩ := List.getElem?_eq_some_iff.mp hd
    rw [← h2, ← List.drop_eq_getElem_cons h1, List.take_append_drop]
  have pre : ∀ m, (effs (ofM m (xs.take i)) (getR A m)).isSome = true := fun m => by
    have := hs m
    rw [split, ofM_app, effs_app] at this
    cases e : effs (ofM m (xs.take i)) (getR A m) with
    | none => rw [e] at this; cases this
    | some _ => rfl
  obtain ⟨_, g⟩ := fold_effs (xs.take i) A h pre
  have := hs (markOf d)
  rw [split, ofM_app, effs_app, g] at this
  have this : (effs (ofM (markOf d) (d :: xs.drop (i + 1))) (getR ((xs.take i).foldl putOn A) (markOf d))).isSome = true := this
  rw [ofM_cons, if_pos rfl] at this
  have this : ((eff d (getR ((xs.take i).foldl putOn A) (markOf d))).bind (effs (ofM (markOf d) (xs.drop (i + 1))))).isSome = true := this
  cases e : eff d (getR ((xs.take i).foldl putOn A) (markOf d)) with
  | none => rw [e] at this; cases this
  | some _ => rfl
/-! the same kept tree in another order -/
structure Same (K J : Kept) : Prop where
  nk : (marksK K).Nodup
  nj : (marksK J).Nodup
  get : ∀ m, getR K m = getR J m
theorem Same.symm {K J : Kept} (h : Same K J) : Same J K := ⟨h.nj, h.nk, fun m => (h.get m).symm⟩
theorem Same.perm {K J : Kept} (h : Same K J) : K.Perm J := by
  have nd : ∀ {L : Kept}, (marksK L).Nodup → L.Nodup := fun {L} hL => (List.pairwise_map.mp hL).imp fun h e => h (by rw [e])
  refine (List.perm_ext_iff_of_nodup (nd h.nk) (nd h.nj)).mpr fun p => ⟨fun hp => ?_, fun hp => ?_⟩
  · have := getR_of h.nk (show (p.1, p.2) ∈ K from hp)
    rw [h.get] at this
    exact getR_mem this
  · have := getR_of h.nj (show (p.1, p.2) ∈ J from hp)
    rw [← h.get] at this
    exact getR_mem this
theorem Same.mem {K J : Kept} (h : Same K J) (m : Int) : m ∈ marksK K ↔ m ∈ marksK J := (h.perm.map _).mem_iff
theorem Same.kept {K J : Kept} (h : Same K J) (k : isKept J) : isKept K := by
  obtain ⟨k1, k2, k3, k4, k5⟩ := k
  have p := h.perm
  refine ⟨fun z => k1 ?_, by rw [p.length_eq]; exact k2, ?_, (p.map _).nodup_iff.mpr k4, fun q hq => ?_⟩
  · rw [z] at p; exact p.symm.eq_nil
  · rw [(p.filter _).length_eq]; exact k3
  · rw [upK_perm h.get h.mem]; exact k5 q (p.mem_iff.mp hq)
theorem Same.root {K J : Kept} (h : Same K J) {r : Int} (k : IsRoot J r) : IsRoot K r := by
  have p := (h.perm.filter fun p => p.2.2.1.isNone).map (·.1)
  unfold IsRoot at k ⊢
  rw [k] at p
  exact p.eq_singleton
theorem Same.ok {K J : Kept} (h : Same K J) (k : OkK J) : OkK K := fun p hp => k p (h.perm.mem_iff.mp hp)
theorem hits_two {J : Kept} : ∀ (K : Kept), (∀ p ∈ K, getR J p.1 = some p.2) → hitsD (kKs J) (kVs J) (kKs K) (kVs K) = true := fun K h => hits_self K J h
theorem Same.dct {K J : Kept} (h : Same K J) : eqDct (kKs K) (kVs K) (kKs J) (kVs J) = true := by
  unfold eqDct
  rw [hits_two K fun p hp => by rw [← h.get]; exact getR_of h.nk hp, kKs_len, kKs_len, h.perm.length_eq]
  simp
/-- a list of deeds that may be done on A, and leads to B -/
structure Leads (A B : Kept) (xs : List Deed) : Prop where
  nf : (xs.flatMap factsL).Nodup
  fit : ∀ d ∈ xs, fitsB A d = true
  to : ∀ m, effs (ofM m xs) (getR A m) = some (getR B m)
theorem Leads.same {A B : Kept} {xs : List Deed} (h : Leads A B xs) (na : (marksK A).Nodup) (nb : (marksK B).Nodup) : Same (xs.foldl putOn A) B := by
  obtain ⟨n, g⟩ := fold_effs xs A na fun m => by rw [h.to]; rfl
  refine ⟨n, nb, fun m => ?_⟩
  have := g m
  rw [h.to] at this
  injection this with this
  exact this.symm

--@here
def okW (d : Deed) : Prop := match d with
  | .word _ o n => PyData.strOk o = true ∧ PyData.strOk n = true
  | .spot _ _ _ => True
  | .put _ w _ => PyData.strOk w = true
  | .take _ w _ => PyData.strOk w = true
theorem toldD_ok {d : Deed} (h : okW d) : okd (toldD d) 63 = true := by
  have s := spT_ok
  have t1 : PyData.strOk (Str.ofString "word") = true ∧ PyData.strOk (Str.ofString "spot") = true ∧ PyData.strOk (Str.ofString "put") = true ∧ PyData.strOk (Str.ofString "take") = true := by decide +kernel
  cases d with
  | word m o n => simp only [toldD, okd, okds, h.1, h.2, t1.1]; rfl
  | spot m o n => simp only [toldD, okd, okds, s, t1.2.1]; rfl
  | put m w p =>
    have h : PyData.strOk w = true := h
    simp only [toldD, okd, okds, h, s, t1.2.2.1]; rfl
  | take m w p =>
    have h : PyData.strOk w = true := h
    simp only [toldD, okd, okds, h, s, t1.2.2.2]; rfl
theorem toldD_noB (d : Deed) : noB (toldD d) = true := by cases d <;> simp only [toldD, noB, noBs, spT_noB, Bool.and_self]

theorem done_spec {A B : Kept} {r : Int} {xs : List Deed} {px : PX} {Q : D → Prop} (L : Leads A B xs) (na : (marksK A).Nodup) (nb : (marksK B).Nodup) (oka : OkK A) (ra : IsRoot A r) (la : A.length ≤ 1000) (lx : xs.length ≤ 1000) (okx : ∀ d ∈ xs, okW d) (hv : ∀ d ∈ xs, live d = true) (kb : isKept B) (rb : IsRoot B r)
    (q : ∀ K, Same K B → Q (.dct true (.k (kKs K)) (kVs K))) : spec_done_on [.dct false (.k (kKs A)) (kVs A), .lst false (xs.map deedD)] px Q := by
  have sm := L.same na nb
  refine ⟨A, r, xs, rfl, hv, na, oka, ra, la, lx, L.nf, L.fit, fun d hd m w s e => ?_, steps_ok na (fun m => by rw [L.to]; rfl), sm.kept kb, sm.nk, sm.root rb, q _ sm⟩
  have := okx d hd
  rw [e] at this
  exact this

/-! what is told, as a key -/
def spK (s : Spot) : NestedKey := .tup [oK s.1, .tup (s.2.map .num)]
def toldK : Deed → NestedKey
  | .word m o n => .tup [.text "word", .num m, .text o, .text n]
  | .spot m o n => .tup [.text "spot", .num m, spK o, spK n]
  | .put m w s => .tup [.text "put", .num m, .text w, spK s]
  | .take m w s => .tup [.text "take", .num m, .text w, spK s]
theorem spK_D (s : Spot) : kD (spK s) = spT s := by
  unfold spK spT keyT
  simp only [kD, kDs, kD_oK, kDs_nums]
theorem toldK_D (d : Deed) : kD (toldK d) = toldD d := by
  cases d <;> simp only [toldK, toldD, kD, kDs, spK_D]
theorem spK_dep (s : Spot) : NestedKey.depth (spK s) ≤ 3 := by
  unfold spK
  have e2 : NestedKey.depth (oK s.1) = 0 := by cases s.1 <;> rfl
  simp only [NestedKey.depth, NestedKey.depthAll, e2, depth_nums]; decide
theorem toldK_ok (d : Deed) : okK true (toldK d) = true := by
  have h : NestedKey.depth (toldK d) ≤ 8 := by
    cases d with
    | word m o n => simp only [toldK, NestedKey.depth, NestedKey.depthAll]; decide
    | spot m o n =>
      have h1 := spK_dep o
      have h2 := spK_dep n
      simp only [toldK, NestedKey.depth, NestedKey.depthAll]; omega
    | put m w s =>
      have h1 := spK_dep s
      simp only [toldK, NestedKey.depth, NestedKey.depthAll]; omega
    | take m w s =>
      have h1 := spK_dep s
      simp only [toldK, NestedKey.depth, NestedKey.depthAll]; omega
  have t : isTp (toldK d) = true := by cases d <;> rfl
  unfold okK
  rw [decide_eq_true h, t, Bool.or_true]; rfl
theorem told_ne : ¬ (Str.ofString "word" = Str.ofString "spot") ∧ ¬ (Str.ofString "word" = Str.ofString "put") ∧ ¬ (Str.ofString "word" = Str.ofString "take") ∧ ¬ (Str.ofString "spot" = Str.ofString "put") ∧ ¬ (Str.ofString "spot" = Str.ofString "take") ∧ ¬ (Str.ofString "put" = Str.ofString "take") := by decide +kernel
theorem toldD_inj {d e : Deed} (h : toldD d = toldD e) : d = e := by
  obtain ⟨n1, n2, n3, n4, n5, n6⟩ := told_ne
  cases d <;> cases e <;> simp only [toldD, D.tup.injEq, List.cons.injEq, D.str.injEq, D.int.injEq, and_true] at h
  · obtain ⟨_, h1, h2, h3⟩ := h; rw [h1, h2, h3]
  · exact absurd h.1 n1
  · exact absurd h.1 n2
  · exact absurd h.1 n3
  · exact absurd h.1.symm n1
  · obtain ⟨_, h1, h2, h3⟩ := h; rw [h1, spT_inj h2, spT_inj h3]
  · exact absurd h.1 n4
  · exact absurd h.1 n5
  · exact absurd h.1.symm n2
  · exact absurd h.1.symm n4
  · obtain ⟨_, h1, h2, h3⟩ := h; rw [h1, h2, spT_inj h3]
  · exact absurd h.1 n6
  · exact absurd h.1.symm n3
  · exact absurd h.1.symm n5
  · exact absurd h.1.symm n6
  · obtain ⟨_, h1, h2, h3⟩ := h; rw [h1, h2, spT_inj h3]
theorem toldK_inj {d e : Deed} (h : toldK d = toldK e) : d = e := toldD_inj (by rw [← toldK_D, ← toldK_D, h])
instance : DecidableEq Deed := fun d e => decidable_of_iff (toldK d = toldK e) ⟨toldK_inj, fun h => by rw [h]⟩
theorem putKs_more {κ : Type} [DecidableEq κ] (ks : List κ) (k : κ) : (putKs ks k).length ≤ ks.length + 1 := by
  unfold putKs
  split
  · omega
  · simp
theorem mem_putKs {κ : Type} [DecidableEq κ] {ks : List κ} {k x : κ} : x ∈ putKs ks k ↔ x ∈ ks ∨ x = k := by
  unfold putKs
  split
  · rename_i h
    exact ⟨.inl, fun z => z.elim id fun e => e ▸ h⟩
  · rw [List.mem_append, List.mem_singleton]
def ws_deeds_beyond : WS := wSeq (wAsg (wXNew true) (gtName 2)) (wSeq (wFor (itsL (wVar 0)) (gtName 3) (wXPut 2 (wC (.bl true)) (wMeth clm_told "told" spec_told 3 wNil))) (wFrS 2 (wRet (wLc (itsL (wVar 1)) (gtName 3) (wTest (wOp gXNotIn (wMeth clm_told "told" spec_told 3 wNil) (wVar 2))) (wVar 3) [3]))))
abbrev n_deeds_beyond : Nat := 4
def spec_deeds_beyond : SpecT := fun ds _ Q => ∃ (xs ys : List Deed), ds = [.lst false (xs.map deedD), .lst false (ys.map deedD)] ∧ (∀ d ∈ xs, live d = true) ∧ (∀ d ∈ ys, live d = true) ∧ xs.length ≤ 1000 ∧ ys.length ≤ 1000 ∧ Q (.lst true ((ys.filter fun d => decide (d ∉ xs)).map deedD))
theorem len_deeds_beyond : ∀ ds px Q, spec_deeds_beyond ds px Q → ds.length = 2 := by
  rintro ds px Q ⟨a, b, rfl, _⟩; rfl
theorem pure_deeds_beyond : ∀ ds px Q, spec_deeds_beyond ds px Q → ws_deeds_beyond (PEnds.top Q) px (start0 n_deeds_beyond ds) := by
  rintro ds px Q ⟨xs, ys, rfl, hvx, hvy, lx, ly, q⟩
  show ws_deeds_beyond (PEnds.top Q) px [some (.lst false (xs.map deedD)), some (.lst false (ys.map deedD)), none, none]
  unfold ws_deeds_beyond
  walk_at "tm"
  refine ⟨deeds_dirty _, fun i env => ∃ (ks : List NestedKey) (vs : List D) (x3 : Option D), env = [some (.lst false (xs.map deedD)), some (.lst false (ys.map deedD)), some (.xd true true ks vs), x3] ∧ ks.length ≤ i ∧ cleanE [x3] = true ∧ ∀ d : Deed, toldK d ∈ ks ↔ d ∈ xs.take i, ⟨[], [], _, rfl, by simp, rfl, fun d => by simp⟩, ?_, ?_⟩
  · rintro i d env2 hd ⟨ks, vs, x3, rfl, lk, hc, hk⟩
    obtain ⟨x, hx, rfl⟩ := map_get hd
    walk_at "tm"
    refine methK_deed (hvx x (List.mem_of_getElem? hx)) cltd_all nfl_told ?_
    walk_at "tm"
    refine ⟨x, rfl, ?_⟩
    have l1 := putKs_more ks (toldK x)
    have hi := (List.getElem?_eq_some_iff.mp hx).1
    walk_at "tm"
    refine ⟨by omega, toldK x, (toldK_D x).symm, toldK_ok x, _, _, _, rfl, by omega, ?_, fun d => ?_⟩
    · simp only [cleanE, deedD_dirty]; rfl
    rw [mem_putKs, hk, List.take_succ, hx, List.mem_append]
    exact or_congr Iff.rfl ⟨fun h => by rw [toldK_inj h]; simp, fun h => by rw [show d = x by simpa using h]⟩
  · rintro env2 ⟨ks, vs, x3, rfl, lk, hc, hk⟩
    rw [List.length_map, List.take_length] at hk
    walk_at "tm"
    simp only [deeds_fz]
    refine ⟨deeds_dirty _, lcW_map (f := deedD) (fun d => decide (d ∉ xs)) deedD ys [] (by simp; omega) ?_ ?_⟩
    · rintro d hd Y N hy hn
      walk_at "tm"
      refine methK_deed (hvy d hd) cltd_all nfl_told ?_
      walk_at "tm"
      refine ⟨d, rfl, ?_⟩
      walk_at "tm"
      refine ⟨toldK d, (toldK_D d).symm, toldK_ok d, ?_⟩
      walk_at "tm"
      by_cases c : d ∈ xs
      · rw [if_neg (by rw [decide_eq_true ((hk d).mpr c)]; simp)]
        exact hn (by simp [c])
      · rw [if_pos (decide_eq_false fun z => c ((hk d).mp z))]
        exact ⟨deedD_dirty _, .inl hc, hy (by simp [c])⟩
    · rw [List.nil_append]; exact q

--@here
/-! what each fact is touched by -/
def fxs (xs : List Deed) : List ((Int × Bool) × Deed) := xs.flatMap fun d => (factsL d).map fun f => (f, d)
theorem fxs_facts (xs : List Deed) : (fxs xs).map (·.1) = xs.flatMap factsL := by
  unfold fxs
  rw [List.map_flatMap]
  congr 1
  funext d
  rw [List.map_map]
  exact List.map_id _
theorem fxs_mem {xs : List Deed} {f : Int × Bool} {d : Deed} : (f, d) ∈ fxs xs ↔ d ∈ xs ∧ f ∈ factsL d := by
  unfold fxs
  rw [List.mem_flatMap]
  constructor
  · rintro ⟨e, he, h⟩
    obtain ⟨g, hg, z⟩ := List.mem_map.mp h
    cases z
    exact ⟨he, hg⟩
  · rintro ⟨h1, h2⟩
    exact ⟨d, h1, List.mem_map.mpr ⟨f, h2, rfl⟩⟩
theorem fxs_len (xs : List Deed) : (fxs xs).length ≤ 2 * xs.length := by
  have h := congrArg List.length (fxs_facts xs)
  rw [List.length_map] at h
  rw [h]
  exact flat_len (f := factsL) (fun d => by cases d <;> simp [factsL]) xs
def fKs (l : List ((Int × Bool) × Deed)) : List (List L2.Key) := l.map fun p => factK p.1
def fVs (l : List ((Int × Bool) × Deed)) : List D := l.map fun p => toldD p.2
theorem fVs_dirty (l : List ((Int × Bool) × Deed)) : dirtys (fVs l) = false := dirtys_mapI (f := fun p : (Int × Bool) × Deed => toldD p.2) (fun p => toldD_dirty p.2) l
theorem fVs_fz (l : List ((Int × Bool) × Deed)) : fzs (fVs l) = fVs l := fzs_mapI (f := fun p : (Int × Bool) × Deed => toldD p.2) (fun p => toldD_fz p.2) l
theorem fVs_selfc (l : List ((Int × Bool) × Deed)) : selfcs (fVs l) = true := selfcs_mapI (f := fun p : (Int × Bool) × Deed => toldD p.2) (fun p => toldD_selfc p.2) l
theorem look_fx : ∀ {l : List ((Int × Bool) × Deed)} {f : Int × Bool} {d : Deed}, (l.map (·.1)).Nodup → (f, d) ∈ l → lookD (fKs l) (fVs l) (factK f) = some (toldD d)
  | p :: l, f, d, hn, h => by
    have hn2 := List.nodup_cons.mp (show (p.1 :: l.map (·.1)).Nodup from hn)
    show lookD (factK p.1 :: fKs l) (toldD p.2 :: fVs l) (factK f) = _
    rw [lookD]
    rcases List.mem_cons.mp h with e | h
    · subst e; rw [if_pos rfl]
    · rw [if_neg fun z => hn2.1 (by rw [factK_inj z]; exact List.mem_map.mpr ⟨_, h, rfl⟩)]
      exact look_fx hn2.2 h
theorem look_fxN {l : List ((Int × Bool) × Deed)} {f : Int × Bool} (h : f ∉ l.map (·.1)) : lookD (fKs l) (fVs l) (factK f) = none := by
  refine lookD_no fun z => h ?_
  unfold fKs at z
  obtain ⟨p, hp, e⟩ := List.mem_map.mp z
  exact List.mem_map.mpr ⟨p, hp, factK_inj e⟩
def ws_facts_of : WS := wSeq (wAsg (wDNew (.t [])) (gtName 1)) (wSeq (wFor (itsL (wVar 0)) (gtName 2) (wFor (itsL (wMeth clm_facts "facts" spec_facts 2 wNil)) (gtName 3) (wDPut 1 (wMeth clm_told "told" spec_told 2 wNil) (wVar 3)))) (wRet (wMov 1)))
abbrev n_facts_of : Nat := 4
def spec_facts_of : SpecT := fun ds _ Q => ∃ (xs : List Deed), ds = [.lst false (xs.map deedD)] ∧ (∀ d ∈ xs, live d = true) ∧ (xs.flatMap factsL).Nodup ∧ xs.length ≤ 1000 ∧ Q (.dct true (.t (fKs (fxs xs))) (fVs (fxs xs)))
theorem len_facts_of : ∀ ds px Q, spec_facts_of ds px Q → ds.length = 1 := by
  rintro ds px Q ⟨a, rfl, _⟩; rfl
theorem pure_facts_of : ∀ ds px Q, spec_facts_of ds px Q → ws_facts_of (PEnds.top Q) px (start0 n_facts_of ds) := by
  rintro ds px Q ⟨xs, rfl, hv, hn, hl, q⟩
  show ws_facts_of (PEnds.top Q) px [some (.lst false (xs.map deedD)), none, none, none]
  unfold ws_facts_of
  walk_at "tm"
  refine ⟨deeds_dirty _, fun i env => ∃ (x2 x3 : Option D), env = [some (.lst false (xs.map deedD)), some (.dct true (.t (fKs (fxs (xs.take i)))) (fVs (fxs (xs.take i)))), x2, x3], ⟨_, _, rfl⟩, ?_, ?_⟩
  · rintro i d env2 hd ⟨x2, x3, rfl⟩
    obtain ⟨x, hx, rfl⟩ := map_get hd
    have hvx := hv x (List.mem_of_getElem? hx)
    walk_at "tm"
    refine methK_deed hvx clf_all nfl_facts ?_
    walk_at "tm"
    refine ⟨x, rfl, ?_⟩
    walk_at "tm"
    have hpre : fxs (xs.take (i + 1)) = fxs (xs.take i) ++ (factsL x).map fun f => (f, x) := by
      unfold fxs
      rw [List.take_succ, hx, List.flatMap_append]; simp
    have hnd : ((fxs (xs.take i)).map (·.1) ++ factsL x).Nodup := by
      have e : (xs.take (i + 1)).flatMap factsL = (fxs (xs.take i)).map (·.1) ++ factsL x := by
        rw [fxs_facts, List.take_succ, hx, List.flatMap_append]; simp
      rw [← e]
      refine List.Nodup.sublist ?_ hn
      rw [← List.take_append_drop (i + 1) xs, List.flatMap_append, List.take_append_drop]
      exact List.sublist_append_left _ _
    have lf := fxs_len (xs.take i)
    rw [hpre]
    generalize fxs (xs.take i) = l at hnd lf
    have tl : l.length ≤ 2000 := by rw [List.length_take] at lf; omega
    have fl2 : (factsL x).length ≤ 2 := by cases x <;> simp [factsL]
    refine ⟨dirtys_mapI (f := factD) (fun _ => rfl) _, fun j env => ∃ (x3 : Option D), env = [some (.lst false (xs.map deedD)), some (.dct true (.t (fKs (l ++ ((factsL x).take j).map fun f => (f, x)))) (fVs (l ++ ((factsL x).take j).map fun f => (f, x)))), some (deedD x), x3], ⟨x3, by rw [List.take_zero, List.map_nil, List.append_nil]⟩, ?_, ?_⟩
    · rintro j d env3 hd2 ⟨x3, rfl⟩
      obtain ⟨f, hf, rfl⟩ := map_get hd2
      have hj := (List.getElem?_eq_some_iff.mp hf).1
      have htk : (factsL x).take (j + 1) = (factsL x).take j ++ [f] := by rw [List.take_succ, hf]; rfl
      rw [show factD f = .tup [.int f.1, .str (if f.2 then "word" else "spot")] from rfl]
      walk_at "tm"
      refine methK_deed hvx cltd_all nfl_told ?_
      walk_at "tm"
      refine ⟨x, rfl, ?_⟩
      walk_at "tm"
      have hnew : factK f ∉ fKs (l ++ ((factsL x).take j).map fun f => (f, x)) := fun h => by
        unfold fKs at h
        obtain ⟨g, hg, e⟩ := List.mem_map.mp h
        have e := factK_inj e
        have mg : f ∈ l.map (·.1) ++ (factsL x).take j := by
          rw [← e]
          rcases List.mem_append.mp hg with hg | hg
          · exact List.mem_append_left _ (List.mem_map.mpr ⟨g, hg, rfl⟩)
          · obtain ⟨y, hy, rfl⟩ := List.mem_map.mp hg
            exact List.mem_append_right _ hy
        have nd2 : ((l.map (·.1) ++ (factsL x).take j) ++ [f]).Nodup := by
          refine List.Nodup.sublist ?_ hnd
          rw [List.append_assoc, ← htk]
          exact List.Sublist.append (List.Sublist.refl _) (List.take_sublist _ _)
        exact (List.nodup_append.mp nd2).2.2 f mg f (by simp) rfl
      have ek : [Sum.inl f.1, Sum.inr (if f.2 = true then Str.ofString "word" else Str.ofString "spot")] = factK f := rfl
      rw [ek]
      unfold putKs putDs
      rw [if_neg hnew, if_neg hnew]
      refine ⟨toldD_dirty x, fVs_dirty _, by unfold fKs; rw [List.length_map, List.length_append, List.length_map, List.length_take]; omega, some (factD f), ?_⟩
      rw [htk, List.map_append, ← List.append_assoc]
      have e1 : ∀ l2 : List ((Int × Bool) × Deed), fKs (l2 ++ [(f, x)]) = fKs l2 ++ [factK f] := fun l2 => by unfold fKs; rw [List.map_append]; rfl
      have e2 : ∀ l2 : List ((Int × Bool) × Deed), fVs (l2 ++ [(f, x)]) = fVs l2 ++ [toldD x] := fun l2 => by unfold fVs; rw [List.map_append]; rfl
      rw [show (List.map (fun f => (f, x)) [f]) = [(f, x)] from rfl, e1, e2]
      rfl
    · rintro env3 ⟨x3, rfl⟩
      rw [List.length_map, List.take_length]
      walk_at "tm"
      exact ⟨_, _, rfl⟩
  · rintro env2 ⟨x2, x3, rfl⟩
    rw [List.length_map, List.take_length]
    walk_at "tm"
    exact q
--@here
theorem toldD_can : ∀ d : Deed, can (toldD d) = toldD d := fun d => by
  cases d <;> simp only [toldD, can, cans, can_spT]
theorem toldD_sh {d : Deed} (h : okW d) : shD (toldD d) = true := shD_of 63 (toldD_ok h) (by decide)
theorem toldD_eqD (d e : Deed) : eqD (toldD d) (toldD e) = decide (d = e) := eqD_dec (toldD_noB d) (toldD_noB e) (by
  rw [toldD_can, toldD_can]; exact ⟨toldD_inj, fun h => by rw [h]⟩)
theorem scEq_told (a b : Deed) : scEq (toldD a) (toldD b) = none := by cases a <;> cases b <;> exact scEq_tup
/-- a fact that both touch by deeds that are not alike -/
def Clash (xs ys : List Deed) (m : Int) : Prop := ∃ f d e, f.1 = m ∧ (f, d) ∈ fxs xs ∧ (f, e) ∈ fxs ys ∧ d ≠ e
def ws_both_marks : WS := wSeq (wAsg (wFzE (wCall0 spec_facts_of [] (wArg (wVar 0) (wNil)))) (gtName 2)) (wSeq (wAsg (wCall0 spec_facts_of [] (wArg (wVar 1) (wNil))) (gtName 3)) (wSeq (wAsg (wDNew (.k [])) (gtName 4)) (wSeq (wForIT 2 (gtTup 2 (gtCons (gtName 5) (gtCons (gtName 6) (fun ds env Q => ds = [] ∧ Q env)))) (wIf (wTest (wOp gNe (wDGet2 (wVar 3) (wVar 5) (wVar 6)) (wVar 6))) (wDPut 4 (wC (.bl true)) (wOp gIx (wVar 5) (wC (.int 0)))) (wNext))) (wRet (wB gDList (wArg (wVar 4) (wNil)))))))
abbrev n_both_marks : Nat := 7
def spec_both_marks : SpecT := fun ds _ Q => ∃ (xs ys : List Deed), ds = [.lst false (xs.map deedD), .lst false (ys.map deedD)] ∧ (∀ d ∈ xs, live d = true) ∧ (∀ d ∈ ys, live d = true) ∧ (xs.flatMap factsL).Nodup ∧ (ys.flatMap factsL).Nodup ∧ xs.length ≤ 1000 ∧ ys.length ≤ 1000 ∧ (∀ d ∈ xs, okW d) ∧ (∀ d ∈ ys, okW d) ∧
  ∀ ms : List Int, ms.Nodup → (∀ m, m ∈ ms ↔ Clash xs ys m) → ms.length ≤ 2000 → Q (.lst true (ms.map D.int))
theorem len_both_marks : ∀ ds px Q, spec_both_marks ds px Q → ds.length = 2 := by
  rintro ds px Q ⟨a, b, rfl, _⟩; rfl
theorem kvt_get {l : List ((Int × Bool) × Deed)} {n : Nat} {d : D} (h : (kvtD (fKs l) (fVs l))[n]? = some d) : ∃ p, l[n]? = some p ∧ d = .tup [factD p.1, toldD p.2] := by
  unfold kvtD fKs fVs at h
  rw [List.zip_map', List.map_map, List.getElem?_map] at h
  obtain ⟨p, hp, rfl⟩ := Option.map_eq_some_iff.mp h
  exact ⟨p, hp, rfl⟩
theorem kvt_len (l : List ((Int × Bool) × Deed)) : (kvtD (fKs l) (fVs l)).length = l.length := by
  unfold kvtD fKs fVs
  rw [List.length_map, List.length_zip, List.length_map, List.length_map, Nat.min_self]
theorem pure_both_marks : ∀ ds px Q, spec_both_marks ds px Q → ws_both_marks (PEnds.top Q) px (start0 n_both_marks ds) := by
  rintro ds px Q ⟨xs, ys, rfl, hvx, hvy, nx, ny, lx, ly, okx, oky, q⟩
  show ws_both_marks (PEnds.top Q) px [some (.lst false (xs.map deedD)), some (.lst false (ys.map deedD)), none, none, none, none, none]
  unfold ws_both_marks
  walk_at "tm"
  simp only [deeds_fz]
  refine ⟨xs, rfl, hvx, nx, lx, ?_⟩
  walk_at "tm"
  refine ⟨ys, rfl, hvy, ny, ly, ?_⟩
  walk_at "tm"
  rw [fVs_fz]
  have nx2 : ((fxs xs).map (·.1)).Nodup := by rw [fxs_facts]; exact nx
  have ny2 : ((fxs ys).map (·.1)).Nodup := by rw [fxs_facts]; exact ny
  have lfx := fxs_len xs
  refine ⟨fVs_dirty _, fun i env => ∃ (ms : List Int) (vs : List D) (x5 x6 : Option D), env = [some (.lst false (xs.map deedD)), some (.lst false (ys.map deedD)), some (.dct false (.t (fKs (fxs xs))) (fVs (fxs xs))), some (.dct true (.t (fKs (fxs ys))) (fVs (fxs ys))), some (.dct true (.k (ms.map Sum.inl)) vs), x5, x6] ∧ ms.Nodup ∧ dirtys vs = false ∧ ms.length ≤ i ∧ ∀ m, m ∈ ms ↔ ∃ f d e, f.1 = m ∧ (f, d) ∈ (fxs xs).take i ∧ (f, e) ∈ fxs ys ∧ d ≠ e, ⟨[], [], none, none, rfl, List.nodup_nil, rfl, Nat.le_refl _, fun m => by simp⟩, ?_, ?_⟩
  · rintro i d env2 hd ⟨ms, vs, x5, x6, rfl, nms, dvs, lms, hms⟩
    obtain ⟨⟨f, d⟩, hp, rfl⟩ := kvt_get hd
    have hi := (List.getElem?_eq_some_iff.mp hp).1
    have hfd := List.mem_of_getElem? hp
    have okd := okx d (fxs_mem.mp hfd).1
    have htk : (fxs xs).take (i + 1) = (fxs xs).take i ++ [(f, d)] := by rw [List.take_succ, hp]; rfl
    have val : ∃ e', (lookD (fKs (fxs ys)) (fVs (fxs ys)) (factK f)).getD (toldD d) = toldD e' ∧ okW e' ∧ (e' ≠ d ↔ ∃ e, (f, e) ∈ fxs ys ∧ d ≠ e) := by
      by_cases h : ∃ e, (f, e) ∈ fxs ys
      · obtain ⟨e, he⟩ := h
        rw [look_fx ny2 he]
        refine ⟨e, rfl, oky e (fxs_mem.mp he).1, fun z => ⟨e, he, fun w => z w.symm⟩, ?_⟩
        rintro ⟨e2, he2, z⟩ w
        have h1 := look_fx ny2 he
        rw [look_fx ny2 he2] at h1
        have := toldD_inj (Option.some.inj h1)
        exact z (by rw [this]; exact w.symm)
      · have hn : f ∉ (fxs ys).map (·.1) := fun z => by
          obtain ⟨p, hp, e⟩ := List.mem_map.mp z
          exact h ⟨p.2, by rw [← e]; exact hp⟩
        rw [look_fxN hn]
        refine ⟨d, rfl, okd, fun z => absurd rfl z, ?_⟩
        rintro ⟨e2, he2, _⟩
        exact absurd ⟨e2, he2⟩ h
    obtain ⟨e', ev, oke, iff⟩ := val
    rw [show factD f = .tup [.int f.1, .str (if f.2 then "word" else "spot")] from rfl]
    walk_at "tm"
    have ek : [Sum.inl f.1, Sum.inr (if f.2 = true then Str.ofString "word" else Str.ofString "spot")] = factK f := rfl
    rw [ek, ev, scEq_told, eqK_none, toldD_eqD]
    refine ⟨toldD_dirty _, toldD_sh oke, toldD_sh okd, ?_⟩
    by_cases c : e' = d
    · rw [decide_eq_true c]
      walk_at "tm"
      refine ⟨ms, vs, _, _, rfl, nms, dvs, by omega, fun m => ?_⟩
      rw [hms, htk]
      constructor
      · rintro ⟨g, a, b, h1, h2, h3⟩
        exact ⟨g, a, b, h1, List.mem_append_left _ h2, h3⟩
      · rintro ⟨g, a, b, h1, h2, h3, h4⟩
        rcases List.mem_append.mp h2 with h2 | h2
        · exact ⟨g, a, b, h1, h2, h3, h4⟩
        · rw [List.mem_singleton] at h2
          cases h2
          exact absurd c (iff.mpr ⟨b, h3, h4⟩)
    · rw [decide_eq_false c]
      walk_at "tm"
      obtain ⟨b0, hb0, nb0⟩ := iff.mp c
      have kput : putKs (ms.map (Sum.inl : Int → L2.Key)) (Sum.inl f.1) = (if f.1 ∈ ms then ms else ms ++ [f.1]).map Sum.inl := by
        unfold putKs
        have e : (Sum.inl f.1 : L2.Key) ∈ ms.map (Sum.inl : Int → L2.Key) ↔ f.1 ∈ ms := by
          rw [List.mem_map]
          exact ⟨fun ⟨y, h1, h2⟩ => by injection h2 with h2; rw [← h2]; exact h1, fun h => ⟨_, h, rfl⟩⟩
        by_cases z : f.1 ∈ ms
        · rw [if_pos (e.mpr z), if_pos z]
        · rw [if_neg (fun y => z (e.mp y)), if_neg z, List.map_append]; rfl
      rw [kput]
      refine ⟨dvs, by omega, _, _, _, _, rfl, ?_, putDs_dirty dvs rfl, by split <;> first | omega | (rw [List.length_append, List.length_singleton]; omega), fun m => ?_⟩
      · split
        · exact nms
        · rename_i z
          rw [List.nodup_append]
          exact ⟨nms, by simp, fun a ha b hb w => by simp at hb; subst w; rw [hb] at ha; exact z ha⟩
      · have e : m ∈ (if f.1 ∈ ms then ms else ms ++ [f.1]) ↔ m ∈ ms ∨ m = f.1 := by
          split
          · rename_i z
            exact ⟨.inl, fun h => h.elim id fun w => w ▸ z⟩
          · rw [List.mem_append, List.mem_singleton]
        rw [e, hms, htk]
        constructor
        · rintro (⟨g, a, b, h1, h2, h3⟩ | rfl)
          · exact ⟨g, a, b, h1, List.mem_append_left _ h2, h3⟩
          · exact ⟨f, d, b0, rfl, List.mem_append_right _ (by simp), hb0, nb0⟩
        · rintro ⟨g, a, b, h1, h2, h3, h4⟩
          rcases List.mem_append.mp h2 with h2 | h2
          · exact .inl ⟨g, a, b, h1, h2, h3, h4⟩
          · rw [List.mem_singleton] at h2
            cases h2
            exact .inr h1.symm
  · rintro env2 ⟨ms, vs, x5, x6, rfl, nms, dvs, lms, hms⟩
    rw [kvt_len, List.take_length] at hms
    rw [kvt_len] at lms
    walk_at "tm"
    rw [List.map_map]
    exact q ms nms hms (by omega)
--@here
/-! what comes of both -/
def lostB (K : Kept) (m : Int) : Bool := match elderK K m with
  | none => false
  | some e => decide (e ∉ marksK K)
def ws_is_lost : WS := wSeq (wAsg (wOp gIx (wOp gDGet (wVar 0) (wVar 1)) (wC (.int 1))) (gtName 2)) (wRet (wAndV (wOp gIsnt (wVar 2) (wC .non)) (wOp gDNotIn (wVar 2) (wVar 0))))
abbrev n_is_lost : Nat := 3
def spec_is_lost : SpecT := fun ds _ Q => ∃ (K : Kept) (m : Int), ds = [.dct false (.k (kKs K)) (kVs K), .int m] ∧ m ∈ marksK K ∧ Q (.bl (lostB K m))
theorem len_is_lost : ∀ ds px Q, spec_is_lost ds px Q → ds.length = 2 := by
  rintro ds px Q ⟨a, b, rfl, _⟩; rfl
theorem pure_is_lost : ∀ ds px Q, spec_is_lost ds px Q → ws_is_lost (PEnds.top Q) px (start0 n_is_lost ds) := by
  rintro ds px Q ⟨K, m, rfl, hm, q⟩
  show ws_is_lost (PEnds.top Q) px [some (.dct false (.k (kKs K)) (kVs K)), some (.int m), none]
  unfold ws_is_lost
  obtain ⟨r, hr⟩ := getR_some hm
  walk_at "tm"
  refine atK_of (kept_at hr) (row_d r) ?_
  unfold lostB at q
  rw [elderK_of hr] at q
  cases e : r.2.1 with
  | none =>
    rw [e] at q
    simp only [oZ]
    walk_at "tm"
    exact q
  | some x =>
    rw [e] at q
    simp only [oZ]
    walk_at "tm"
    rw [in_kept]
    have : decide (x ∉ marksK K) = !decide (x ∈ marksK K) := by by_cases c : x ∈ marksK K <;> simp [c]
    rw [← this]
    exact q
def ws_lost_marks : WS := wRet (wLcK 0 (gtName 1) (wTest (wCall0 spec_is_lost [] (wArg (wVar 0) (wArg (wVar 1) (wNil))))) (wVar 1) [1])
abbrev n_lost_marks : Nat := 2
def spec_lost_marks : SpecT := fun ds _ Q => ∃ (K : Kept), ds = [.dct false (.k (kKs K)) (kVs K)] ∧ (marksK K).Nodup ∧ K.length ≤ 10000 ∧ Q (.lst true (((marksK K).filter (lostB K)).map D.int))
theorem len_lost_marks : ∀ ds px Q, spec_lost_marks ds px Q → ds.length = 1 := by
  rintro ds px Q ⟨a, rfl, _⟩; rfl
theorem pure_lost_marks : ∀ ds px Q, spec_lost_marks ds px Q → ws_lost_marks (PEnds.top Q) px (start0 n_lost_marks ds) := by
  rintro ds px Q ⟨K, rfl, hn, hl, q⟩
  show ws_lost_marks (PEnds.top Q) px [some (.dct false (.k (kKs K)) (kVs K)), none]
  unfold ws_lost_marks
  have ek : (kKs K).map keyD = (marksK K).map D.int := by unfold kKs marksK; rw [List.map_map, List.map_map]; rfl
  walk_at "tm"
  rw [ek, kVs_fz]
  refine ⟨kVs_dirty K, lcW_map (f := D.int) (lostB K) D.int (marksK K) [] (by rw [List.length_nil]; unfold marksK; rw [List.length_map]; omega) ?_ ?_⟩
  · rintro m hm Y N hy hx
    walk_at "tm"
    simp only [kVs_fz]
    refine ⟨K, m, rfl, hm, ?_⟩
    walk_at "tm"
    cases c : lostB K m with
    | true =>
      rw [if_pos rfl]
      exact hy c
    | false =>
      rw [if_neg (by simp)]
      exact hx c
  · rw [List.nil_append]
    exact q
def ws_key_marks : WS := wSeq (wAsg (wXNew true) (gtName 1)) (wSeq (wAsg (wLst (wNil)) (gtName 2)) (wSeq (wFor (itsL (wB gSorted (wArg (wB gDList (wArg (wVar 0) (wNil))) (wNil)))) (gtName 3) (wSeq (wIf (wTest (wCall0 spec_is_lost [] (wArg (wVar 0) (wArg (wVar 3) (wNil))))) (wCont) (wNext)) (wSeq (wIf (wTest (wOp gXIn (wSl (wOp gDGet (wVar 0) (wVar 3)) (wPart (wC (.int 1))) (wNo)) (wVar 1))) (wApp 2 (wVar 3)) (wNext)) (wXPut 1 (wC (.bl true)) (wSl (wOp gDGet (wVar 0) (wVar 3)) (wPart (wC (.int 1))) (wNo)))))) (wRet (wMov 2))))
abbrev n_key_marks : Nat := 4
def spotR (K : Kept) (m : Int) : Option Spot := (getR K m).map (·.2)
open Classical in
noncomputable def keyB (K : Kept) (m : Int) : Bool := decide (lostB K m = false ∧ ∃ x ∈ marksK K, x < m ∧ lostB K x = false ∧ spotR K x = spotR K m)
def spec_key_marks : SpecT := fun ds _ Q => ∃ (K : Kept), ds = [.dct false (.k (kKs K)) (kVs K)] ∧ (marksK K).Nodup ∧ K.length ≤ 10000 ∧ ∀ ms : List Int, ms.Perm (marksK K) → ms.Pairwise (· ≤ ·) → Q (.lst true ((ms.filter (keyB K)).map D.int))
theorem len_key_marks : ∀ ds px Q, spec_key_marks ds px Q → ds.length = 1 := by
  rintro ds px Q ⟨a, rfl, _⟩; rfl
theorem pure_key_marks : ∀ ds px Q, spec_key_marks ds px Q → ws_key_marks (PEnds.top Q) px (start0 n_key_marks ds) := by
  rintro ds px Q ⟨K, rfl, hn, hl, q⟩
  show ws_key_marks (PEnds.top Q) px [some (.dct false (.k (kKs K)) (kVs K)), none, none, none]
  unfold ws_key_marks
  have ek : (kKs K).map keyD = (marksK K).map D.int := by unfold kKs marksK; rw [List.map_map, List.map_map]; rfl
  walk_at "tm"
  refine ⟨marksK K, by rw [ek], fun ms hp hs => ?_⟩
  have nms : ms.Nodup := hp.nodup_iff.mpr hn
  have lms : ms.length = K.length := by rw [hp.length_eq]; unfold marksK; rw [List.length_map]
  have slt : ∀ (i j : Nat) a b, i < j → ms[i]? = some a → ms[j]? = some b → a < b := fun i j a b hij ha hb => by
    obtain ⟨h1, rfl⟩ := List.getElem?_eq_some_iff.mp ha
    obtain ⟨h2, rfl⟩ := List.getElem?_eq_some_iff.mp hb
    have l1 := List.pairwise_iff_getElem.mp hs i j h1 h2 hij
    have l2 := List.pairwise_iff_getElem.mp nms i j h1 h2 hij
    omega
  refine ⟨fun i env => ∃ (ks : List NestedKey) (vs : List D) (x3 : Option D), env = [some (.dct false (.k (kKs K)) (kVs K)), some (.xd true true ks vs), some (.lst true (((ms.take i).filter (keyB K)).map D.int)), x3] ∧ ks.length ≤ i ∧ ∀ s : Spot, spK s ∈ ks ↔ ∃ x ∈ ms.take i, lostB K x = false ∧ spotR K x = some s, ⟨[], [], none, rfl, Nat.le_refl _, fun s => by simp⟩, ?_, ?_⟩
  · rintro i d env2 hd ⟨ks, vs, x3, rfl, lks, hks⟩
    obtain ⟨m, hm, rfl⟩ := map_get hd
    have hi := (List.getElem?_eq_some_iff.mp hm).1
    have mm := hp.mem_iff.mp (List.mem_of_getElem? hm)
    obtain ⟨r, hr⟩ := getR_some mm
    have htk : ms.take (i + 1) = ms.take i ++ [m] := by rw [List.take_succ, hm]; rfl
    have sp : spotR K m = some r.2 := by unfold spotR; rw [hr]; rfl
    have lfl : ((ms.take i).filter (keyB K)).length ≤ 10000 := by
      have := List.length_filter_le (keyB K) (ms.take i)
      rw [List.length_take] at this
      omega
    have kb : keyB K m = true ↔ lostB K m = false ∧ spK r.2 ∈ ks := by
      unfold keyB
      rw [decide_eq_true_iff, hks]
      refine and_congr_right fun _ => ⟨?_, ?_⟩
      · rintro ⟨x, h1, h2, h3, h4⟩
        refine ⟨x, ?_, h3, by rw [h4, sp]⟩
        obtain ⟨j, hj⟩ := List.mem_iff_getElem?.mp (hp.mem_iff.mpr h1)
        have hji : j < i := by
          by_cases c : i < j
          · have := slt i j m x c hm hj; omega
          · by_cases z : j = i
            · rw [z, hm] at hj
              cases hj
              omega
            · omega
        exact List.mem_iff_getElem?.mpr ⟨j, by rw [List.getElem?_take, if_pos hji]; exact hj⟩
      · rintro ⟨x, h1, h2, h3⟩
        obtain ⟨j, hj⟩ := List.mem_iff_getElem?.mp h1
        rw [List.getElem?_take] at hj
        split at hj
        · rename_i hji
          exact ⟨x, hp.mem_iff.mp (List.mem_of_getElem? hj), slt j i x m hji hj hm, h2, by rw [h3, sp]⟩
        · cases hj
    walk_at "tm"
    simp only [kVs_fz]
    refine ⟨K, m, rfl, mm, ?_⟩
    walk_at "tm"
    cases cl : lostB K m with
    | true =>
      rw [if_pos rfl]
      have kf : keyB K m = false := by
        cases z : keyB K m with
        | false => rfl
        | true => have := (kb.mp z).1; rw [cl] at this; cases this
      refine ⟨ks, vs, some (.int m), ?_, by omega, fun s => ?_⟩
      · rw [htk, List.filter_append, List.filter_cons, if_neg (by rw [kf]; simp)]
        simp
      · rw [hks, htk]
        constructor
        · rintro ⟨x, h1, h2⟩
          exact ⟨x, List.mem_append_left _ h1, h2⟩
        · rintro ⟨x, h1, h2, h3⟩
          rcases List.mem_append.mp h1 with h1 | h1
          · exact ⟨x, h1, h2, h3⟩
          · rw [List.mem_singleton.mp h1, cl] at h2
            cases h2
    | false =>
      rw [if_neg (by simp)]
      refine atK_of (kept_at hr) (row_d r) ?_
      walk_at "tm"
      rw [row_tail]
      have okS : okK true (spK r.2) = true := spotK_ok r
      have next : ∀ s : Spot, spK s ∈ putKs ks (spK r.2) ↔ ∃ x ∈ ms.take (i + 1), lostB K x = false ∧ spotR K x = some s := fun s => by
        rw [mem_putKs, hks, htk]
        constructor
        · rintro (⟨x, h1, h2⟩ | h)
          · exact ⟨x, List.mem_append_left _ h1, h2⟩
          · refine ⟨m, List.mem_append_right _ (by simp), cl, ?_⟩
            have : spT s = spT r.2 := by rw [← spK_D, ← spK_D, h]
            rw [sp, spT_inj this]
        · rintro ⟨x, h1, h2, h3⟩
          rcases List.mem_append.mp h1 with h1 | h1
          · exact .inl ⟨x, h1, h2, h3⟩
          · rw [List.mem_singleton.mp h1, sp] at h3
            cases h3
            exact .inr rfl
      have lp := putKs_more ks (spK r.2)
      refine ⟨od _ _, spK r.2, (spK_D _).symm, okS, ?_⟩
      by_cases c : spK r.2 ∈ ks
      · rw [if_pos c]
        refine ⟨by omega, atK_of (kept_at hr) (row_d r) ?_⟩
        walk_at "tm"
        rw [row_tail]
        refine ⟨od _ _, by omega, spK r.2, (spK_D _).symm, okS, _, putDs ks vs (spK r.2) (.bl true), some (.int m), ?_, by omega, next⟩
        rw [htk, List.filter_append, List.filter_cons, if_pos (kb.mpr ⟨cl, c⟩), List.map_append]
        rfl
      · rw [if_neg c]
        refine atK_of (kept_at hr) (row_d r) ?_
        walk_at "tm"
        rw [row_tail]
        refine ⟨od _ _, by omega, spK r.2, (spK_D _).symm, okS, _, putDs ks vs (spK r.2) (.bl true), some (.int m), ?_, by omega, next⟩
        rw [htk, List.filter_append, List.filter_cons, if_neg (fun z => c (kb.mp z).2)]
        simp
  · rintro env2 ⟨ks, vs, x3, rfl, lks, hks⟩
    rw [List.length_map, List.take_length]
    walk_at "tm"
    exact q ms hp hs
--@here
theorem sub_len : ∀ {l m : List Int}, l.Nodup → (∀ x ∈ l, x ∈ m) → l.length ≤ m.length
  | [], m, _, _ => Nat.zero_le _
  | x :: l, m, hn, hs => by
    obtain ⟨h1, h2⟩ := List.nodup_cons.mp hn
    have hx := hs x List.mem_cons_self
    have ih := sub_len (m := m.erase x) h2 fun y hy => (List.mem_erase_of_ne fun e => h1 (by rw [← e]; exact hy)).mpr (hs y (List.mem_cons_of_mem _ hy))
    have := List.length_erase_of_mem hx
    have := List.length_pos_of_mem hx
    rw [List.length_cons]; omega
theorem eqk_no {d : D} {m0 : Int} {F : Bool → Prop} (h : d = .non ∨ ∃ x, d = .int x ∧ x ≠ m0) (g : F false) : eqK (scEq d (.int m0)) d (.int m0) F := by
  rcases h with rfl | ⟨x, rfl, hx⟩
  · exact g
  · have e : scEq (.int x) (.int m0) = some (decide (x = m0)) := rfl
    rw [e, decide_eq_false hx]
    exact g
def ws_ring_marks : WS := wSeq (wAsg (wXNew false) (gtName 1)) (wSeq (wAsg (wLst (wNil)) (gtName 2)) (wSeq (wForK 0 (gtName 3) (wSeq (wAsg (wLst (wNil)) (gtName 4)) (wSeq (wAsg (wVar 3) (gtName 5)) (wSeq (wWhile (wAnd (wTest (wOp gDIn (wVar 5) (wVar 0))) (wTest (wOp gXNotIn (wVar 5) (wVar 1)))) (wSeq (wXPut 1 (wVar 3) (wVar 5)) (wSeq (wApp 4 (wVar 5)) (wAsg (wOp gIx (wOp gDGet (wVar 0) (wVar 5)) (wC (.int 1))) (gtName 5))))) (wIf (wAnd (wTest (wOp gEq (wXGet1 (wVar 1) (wVar 5)) (wVar 3))) (wTest (wOp gIn (wVar 5) (wVar 4)))) (wApp 2 (wB gMin (wArg (wSl (wVar 4) (wPart (wMI (wVar 4) (wVar 5))) (wNo)) (wNil)))) (wNext)))))) (wRet (wMov 2))))
abbrev n_ring_marks : Nat := 6
/-- no mark's elders lead back to it -/
def Flow (K : Kept) : Prop := ∃ rk : Int → Nat, ∀ m e, m ∈ marksK K → elderK K m = some e → e ∈ marksK K → rk e < rk m
def spec_ring_marks : SpecT := fun ds _ Q => ∃ (K : Kept), ds = [.dct false (.k (kKs K)) (kVs K)] ∧ (marksK K).Nodup ∧ K.length ≤ 10000 ∧ Flow K ∧ Q (.lst true [])
theorem len_ring_marks : ∀ ds px Q, spec_ring_marks ds px Q → ds.length = 1 := by
  rintro ds px Q ⟨a, rfl, _⟩; rfl
theorem pure_ring_marks : ∀ ds px Q, spec_ring_marks ds px Q → ws_ring_marks (PEnds.top Q) px (start0 n_ring_marks ds) := by
  rintro ds px Q ⟨K, rfl, hn, hl, ⟨rk, hrk⟩, q⟩
  show ws_ring_marks (PEnds.top Q) px [some (.dct false (.k (kKs K)) (kVs K)), none, none, none, none, none]
  unfold ws_ring_marks
  have ek : (kKs K).map keyD = (marksK K).map D.int := by unfold kKs marksK; rw [List.map_map, List.map_map]; rfl
  walk_at "tm"
  have ml : (marksK K).length = K.length := by unfold marksK; rw [List.length_map]
  refine ⟨kVs_dirty K, ?_⟩
  rw [ek]
  refine ⟨fun i env => ∃ (ws : List Int) (vs : List D) (x3 x4 x5 : Option D), env = [some (.dct false (.k (kKs K)) (kVs K)), some (.xd true false (ws.map NestedKey.num) vs), some (.lst true []), x3, x4, x5] ∧ ws.Nodup ∧ ws.length = vs.length ∧ (∀ w ∈ ws, w ∈ marksK K) ∧ ∀ w d, lookD (ws.map NestedKey.num) vs (.num w) = some d → ∃ x ∈ (marksK K).take i, d = .int x, ⟨[], [], none, none, none, rfl, List.nodup_nil, rfl, fun w h => by simp at h, fun w d h => by cases h⟩, ?_, ?_⟩
  · rintro i d env2 hd ⟨ws, vs, x3, x4, x5, rfl, nws, lws, mws, look⟩
    obtain ⟨m0, hm0, rfl⟩ := map_get hd
    have mm0 := List.mem_of_getElem? hm0
    have htk : (marksK K).take (i + 1) = (marksK K).take i ++ [m0] := by rw [List.take_succ, hm0]; rfl
    have m0new : ∀ x ∈ (marksK K).take i, x ≠ m0 := fun x hx z => by
      subst z
      have nd : ((marksK K).take (i + 1)).Nodup := hn.sublist (List.take_sublist _ _)
      rw [htk] at nd
      exact (List.nodup_append.mp nd).2.2 x hx x (by simp) rfl
    walk_at "tm"
    refine ⟨fun n env => ∃ (ws way : List Int) (vs : List D) (h : Option Int), env = [some (.dct false (.k (kKs K)) (kVs K)), some (.xd true false (ws.map NestedKey.num) vs), some (.lst true []), some (.int m0), some (.lst true (way.map D.int)), some (oZ h)] ∧ ws.Nodup ∧ ws.length = vs.length ∧ (∀ w ∈ ws, w ∈ marksK K) ∧ (∀ w d, lookD (ws.map NestedKey.num) vs (.num w) = some d → (∃ x ∈ (marksK K).take i, d = .int x) ∨ (d = .int m0 ∧ w ∈ way)) ∧ way.length ≤ ws.length ∧ (∀ w ∈ way, w ∈ marksK K) ∧ (∀ w ∈ way, ∀ e, h = some e → e ∈ marksK K → rk e < rk w) ∧ n = K.length - ws.length, ⟨_, ws, [], vs, some m0, rfl, nws, lws, mws, fun w d hw => .inl (look w d hw), Nat.zero_le _, (fun w h => by simp at h), (fun w h => by simp at h), rfl⟩, ?_⟩
    rintro n env3 ⟨ws, way, vs, h, rfl, nws, lws, mws, look, lway, mway, rway, rfl⟩
    have wsl : ws.length ≤ K.length := by
      rw [← ml]
      exact sub_len nws mws
    -- behind the loop
    have out : (∀ e, h = some e → e ∈ marksK K → e ∈ ws) → ∀ d, (lookD (ws.map NestedKey.num) vs (oK h)).getD .non = d → d = .non ∨ ∃ x, d = .int x ∧ x ≠ m0 := fun hh d hd => by
      subst hd
      cases h with
      | none =>
        have : lookD (ws.map NestedKey.num) vs (oK none) = none := lookD_no fun z => by
          obtain ⟨w, _, e⟩ := List.mem_map.mp z
          cases e
        rw [this]; exact .inl rfl
      | some e =>
        rw [show oK (some e) = NestedKey.num e from rfl]
        cases z : lookD (ws.map NestedKey.num) vs (.num e) with
        | none => exact .inl rfl
        | some d =>
          rcases look e d z with ⟨x, hx, rfl⟩ | ⟨rfl, hw⟩
          · exact .inr ⟨x, rfl, m0new x hx⟩
          · have := rway e hw e rfl (mway e hw)
            omega
    have fin : ws.Nodup ∧ ws.length = vs.length ∧ (∀ w ∈ ws, w ∈ marksK K) ∧ ∀ w d, lookD (ws.map NestedKey.num) vs (.num w) = some d → ∃ x ∈ (marksK K).take (i + 1), d = .int x := ⟨nws, lws, mws, fun w d hw => by
      rw [htk]
      rcases look w d hw with ⟨x, hx, e⟩ | ⟨e, _⟩
      · exact ⟨x, List.mem_append_left _ hx, e⟩
      · exact ⟨m0, List.mem_append_right _ (by simp), e⟩⟩
    walk_at "tm"
    have kD_o : ∀ h : Option Int, oZ h = kD (oK h) := fun h => by cases h <;> rfl
    cases h with
    | none =>
      simp only [oZ]
      walk_at "tm"
      refine ⟨oK none, rfl, rfl, ?_⟩
      have o := out (fun e he => by cases he) _ rfl
      have dz : dirty ((lookD (ws.map NestedKey.num) vs (oK none)).getD .non) = false := by
        rcases o with e | ⟨x, e, _⟩ <;> rw [e] <;> rfl
      refine ⟨dz, eqk_no o ?_⟩
      walk_at "tm"
      exact ⟨ws, vs, _, _, _, rfl, fin⟩
    | some e =>
      simp only [oZ]
      walk_at "tm"
      rw [in_kept]
      by_cases ce : e ∈ marksK K
      · rw [if_pos (decide_eq_true ce)]
        have mem : (NestedKey.num e) ∈ ws.map NestedKey.num ↔ e ∈ ws := by
          rw [List.mem_map]
          exact ⟨fun ⟨y, h1, h2⟩ => by injection h2 with h2; rw [← h2]; exact h1, fun h => ⟨_, h, rfl⟩⟩
        refine ⟨.num e, rfl, rfl, ?_⟩
        by_cases cw : e ∈ ws
        · rw [decide_eq_true (mem.mpr cw), if_neg (by simp)]
          refine ⟨oK (some e), rfl, rfl, ?_⟩
          have o := out (fun e2 he _ => by cases he; exact cw) _ rfl
          have dz : dirty ((lookD (ws.map NestedKey.num) vs (oK (some e))).getD .non) = false := by
            rcases o with e | ⟨x, e, _⟩ <;> rw [e] <;> rfl
          refine ⟨dz, eqk_no o ?_⟩
          walk_at "tm"
          exact ⟨ws, vs, _, _, _, rfl, fin⟩
        · rw [decide_eq_false (fun z => cw (mem.mp z)), if_pos rfl]
          obtain ⟨r, hr⟩ := getR_some ce
          have nk : (NestedKey.num e) ∉ ws.map NestedKey.num := fun z => cw (mem.mp z)
          have pk : putKs (ws.map NestedKey.num) (.num e) = (ws ++ [e]).map NestedKey.num := by
            unfold putKs
            rw [if_neg nk, List.map_append]; rfl
          have pd : putDs (ws.map NestedKey.num) vs (.num e) (.int m0) = vs ++ [.int m0] := by
            unfold putDs
            rw [if_neg nk]
          have nws2 : (ws ++ [e]).Nodup := by
            rw [List.nodup_append]
            exact ⟨nws, by simp, fun a ha b hb w => by simp at hb; subst w; rw [hb] at ha; exact cw ha⟩
          have mws2 : ∀ w ∈ ws ++ [e], w ∈ marksK K := fun w hw => by
            rcases List.mem_append.mp hw with hw | hw
            · exact mws w hw
            · rw [List.mem_singleton.mp hw]; exact ce
          have wsl2 := sub_len nws2 mws2
          rw [List.length_append, List.length_singleton, ml] at wsl2
          refine ⟨by omega, .num e, rfl, rfl, by omega, atK_of (kept_at hr) (row_d r) ?_⟩
          walk_at "tm"
          rw [pk, pd]
          refine ⟨oZ_dirty _, K.length - (ws ++ [e]).length, by rw [List.length_append, List.length_singleton]; omega, ws ++ [e], way ++ [e], vs ++ [.int m0], r.2.1, ?_, nws2, by rw [List.length_append, List.length_append, lws]; rfl, mws2, fun w d hw => ?_, by simp only [List.length_append, List.length_singleton]; omega, fun w hw => ?_, fun w hw e2 he2 ce2 => ?_, rfl⟩
          · rw [List.map_append (l₁ := way)]; rfl
          · have hl2 : (ws.map NestedKey.num).length = vs.length := by rw [List.length_map]; exact lws
            rw [List.map_append, show [e].map NestedKey.num = [NestedKey.num e] from rfl, lookD_snoc _ _ _ _ _ hl2 nk] at hw
            split at hw
            · rename_i z
              cases z
              cases hw
              exact .inr ⟨rfl, List.mem_append_right _ (by simp)⟩
            · rcases look w d hw with h | ⟨h1, h2⟩
              · exact .inl h
              · exact .inr ⟨h1, List.mem_append_left _ h2⟩
          · rcases List.mem_append.mp hw with hw | hw
            · exact mway w hw
            · rw [List.mem_singleton.mp hw]; exact ce
          · have step : rk e2 < rk e := hrk e e2 ce (by rw [elderK_of hr]; exact he2) ce2
            rcases List.mem_append.mp hw with hw | hw
            · have := rway w hw e rfl ce
              omega
            · rw [List.mem_singleton.mp hw]; exact step
      · rw [if_neg (by simp [ce])]
        refine ⟨oK (some e), rfl, rfl, ?_⟩
        have o := out (fun e2 he c2 => by cases he; exact absurd c2 ce) _ rfl
        have dz : dirty ((lookD (ws.map NestedKey.num) vs (oK (some e))).getD .non) = false := by
          rcases o with e | ⟨x, e, _⟩ <;> rw [e] <;> rfl
        refine ⟨dz, eqk_no o ?_⟩
        walk_at "tm"
        exact ⟨ws, vs, _, _, _, rfl, fin⟩
  · rintro env2 ⟨ws, vs, x3, x4, x5, rfl, _⟩
    walk_at "tm"
    exact q
--@here
def ws_meet_of : WS := wSeq (wAsg (wCall0 spec_done_on [] (wArg (wVar 0) (wArg (wVar 1) (wNil)))) (gtName 3)) (wSeq (wAsg (wCall0 spec_done_on [] (wArg (wVar 0) (wArg (wVar 2) (wNil)))) (gtName 4)) (wSeq (wAsg (wB gDCopy (wArg (wVar 3) (wNil))) (gtName 5)) (wSeq (wAsg (wLc (itsL (wCall0 spec_both_marks [] (wArg (wVar 1) (wArg (wVar 2) (wNil))))) (gtName 8) wYes (wTup (wItm (wVar 8) (wItm (wC (.str "both")) (wNil)))) [8]) (gtName 6)) (wSeq (wIf (wTest (wOp gEq (wVar 6) (wLst (wNil)))) (wSeq (wFor (itsL (wCall0 spec_deeds_beyond [] (wArg (wVar 1) (wArg (wVar 2) (wNil))))) (gtName 7) (wAsg (wMeth clm_put_on "put_on" spec_put_on 7 (wArg (wVar 5) (wNil))) (gtName 5))) (wSeq (wExt 6 (wLc (itsL (wCall0 spec_lost_marks [] (wArg (wVar 5) (wNil)))) (gtName 8) wYes (wTup (wItm (wVar 8) (wItm (wC (.str "lost")) (wNil)))) [8])) (wSeq (wExt 6 (wLc (itsL (wCall0 spec_key_marks [] (wArg (wVar 5) (wNil)))) (gtName 8) wYes (wTup (wItm (wVar 8) (wItm (wC (.str "key")) (wNil)))) [8])) (wExt 6 (wLc (itsL (wCall0 spec_ring_marks [] (wArg (wVar 5) (wNil)))) (gtName 8) wYes (wTup (wItm (wVar 8) (wItm (wC (.str "ring")) (wNil)))) [8]))))) (wNext)) (wSeq (wIf (wTest (wOp gEq (wVar 6) (wLst (wNil)))) (wRet (wTup (wItm (wMov 5) (wItm (wLst (wNil)) (wNil))))) (wNext)) (wRet (wTup (wItm (wC .non) (wItm (wLc (itsL (wB gSorted (wArg (wVar 6) (wNil)))) (gtTup 2 (gtCons (gtName 8) (gtCons (gtName 9) (fun ds env Q => ds = [] ∧ Q env)))) wYes (wTup (wItm (wVar 9) (wItm (wVar 8) (wItm (wDGet1 (wVar 3) (wVar 8)) (wItm (wDGet1 (wVar 4) (wVar 8)) (wNil)))))) [8, 9]) (wNil))))))))))
abbrev n_meet_of : Nat := 10
/-- both changes lead to kept trees, touch no fact by deeds that are not alike, and B comes of both -/
structure Meet (A B1 B2 B : Kept) (r : Int) (xs ys : List Deed) : Prop where
  na : (marksK A).Nodup
  n1 : (marksK B1).Nodup
  n2 : (marksK B2).Nodup
  nb : (marksK B).Nodup
  oka : OkK A
  ra : IsRoot A r
  la : A.length ≤ 200
  lx : xs.length ≤ 400
  ly : ys.length ≤ 400
  okx : ∀ d ∈ xs, okW d
  oky : ∀ d ∈ ys, okW d
  vx : ∀ d ∈ xs, live d = true
  vy : ∀ d ∈ ys, live d = true
  l1 : Leads A B1 xs
  l2 : Leads A B2 ys
  k1 : isKept B1
  k2 : isKept B2
  r1 : IsRoot B1 r
  r2 : IsRoot B2 r
  no : ∀ m, ¬ Clash xs ys m
  to : ∀ m, effs (ofM m (ys.filter fun d => decide (d ∉ xs))) (getR B1 m) = some (getR B m)
  kb : isKept B
theorem kept_lost {K : Kept} (h : isKept K) {m : Int} (hm : m ∈ marksK K) : lostB K m = false := by
  obtain ⟨p, hp, rfl⟩ := List.mem_map.mp hm
  have := h.2.2.2.2 p hp
  unfold lostB
  cases e : elderK K p.1 with
  | none => rfl
  | some x =>
    rw [upK, e] at this
    replace this : (decide (x ∈ marksK K) && upK K 30 x) = true := this
    rw [Bool.and_eq_true] at this
    show decide (x ∉ marksK K) = false
    simpa using this.1
theorem kept_key {K : Kept} (h : isKept K) (hn : (marksK K).Nodup) {m : Int} (hm : m ∈ marksK K) : keyB K m = false := by
  unfold keyB
  refine decide_eq_false ?_
  rintro ⟨_, x, hx, hl, _, e⟩
  obtain ⟨r, hr⟩ := getR_some hm
  obtain ⟨s, hs⟩ := getR_some hx
  unfold spotR at e
  rw [hr, hs] at e
  have e : s.2 = r.2 := Option.some.inj e
  have nd := h.2.2.2.1
  obtain ⟨i, hi⟩ := List.mem_iff_getElem?.mp (getR_mem hr)
  obtain ⟨j, hj⟩ := List.mem_iff_getElem?.mp (getR_mem hs)
  have h1 : (K.map fun p => p.2.2)[i]? = some r.2 := by rw [List.getElem?_map, hi]; rfl
  have h2 : (K.map fun p => p.2.2)[j]? = some s.2 := by rw [List.getElem?_map, hj]; rfl
  have : i = j := (List.getElem?_inj (List.getElem?_eq_some_iff.mp h1).1 nd).mp (by rw [h1, h2, e])
  subst this
  rw [hi] at hj
  cases hj
  omega
theorem up_flow {K : Kept} (h : ∀ m ∈ marksK K, ∃ n, upK K n m = true) : Flow K := by
  classical
  have least : ∀ m ∈ marksK K, ∃ n, upK K n m = true ∧ ∀ k, k < n → ¬ upK K k m = true := fun m hm => by
    obtain ⟨n, hn⟩ := h m hm
    induction n using Nat.strongRecOn with
    | ind n ih =>
      by_cases c : ∃ k, k < n ∧ upK K k m = true
      · obtain ⟨k, h1, h2⟩ := c
        exact ih k h1 h2
      · exact ⟨n, hn, fun k hk z => c ⟨k, hk, z⟩⟩
  refine ⟨fun m => if hm : m ∈ marksK K then (least m hm).choose else 0, fun m e hm he ce => ?_⟩
  simp only [dif_pos hm, dif_pos ce]
  obtain ⟨a1, a2⟩ := (least m hm).choose_spec
  obtain ⟨b1, b2⟩ := (least e ce).choose_spec
  generalize (least m hm).choose = n at a1 a2
  generalize (least e ce).choose = k at b1 b2
  cases n with
  | zero => cases a1
  | succ n =>
    rw [upK, he] at a1
    replace a1 : (decide (e ∈ marksK K) && upK K n e) = true := a1
    rw [Bool.and_eq_true] at a1
    by_cases c : k ≤ n
    · omega
    · exact absurd a1.2 (b2 n (by omega))
--@here
def spec_meet_of : SpecT := fun ds _ Q => ∃ (A B1 B2 B : Kept) (r : Int) (xs ys : List Deed), ds = [.dct false (.k (kKs A)) (kVs A), .lst false (xs.map deedD), .lst false (ys.map deedD)] ∧ Meet A B1 B2 B r xs ys ∧ ∀ K, Same K B → Q (.tup [.dct true (.k (kKs K)) (kVs K), .lst true []])
theorem len_meet_of : ∀ ds px Q, spec_meet_of ds px Q → ds.length = 3 := by
  rintro ds px Q ⟨a, b, c, d, e, f, g, rfl, _⟩; rfl
theorem pure_meet_of : ∀ ds px Q, spec_meet_of ds px Q → ws_meet_of (PEnds.top Q) px (start0 n_meet_of ds) := by
  rintro ds px Q ⟨A, B1, B2, B, r, xs, ys, rfl, h, q⟩
  show ws_meet_of (PEnds.top Q) px [some (.dct false (.k (kKs A)) (kVs A)), some (.lst false (xs.map deedD)), some (.lst false (ys.map deedD)), none, none, none, none, none, none, none]
  unfold ws_meet_of
  have la := h.la
  have lx := h.lx
  have ly := h.ly
  walk_at "tm"
  simp only [kVs_fz, deeds_fz]
  refine done_spec h.l1 h.na h.n1 h.oka h.ra (by omega) (by omega) h.okx h.vx h.k1 h.r1 fun K1 s1 => ?_
  walk_at "tm"
  simp only [kVs_fz, deeds_fz]
  refine done_spec h.l2 h.na h.n2 h.oka h.ra (by omega) (by omega) h.oky h.vy h.k2 h.r2 fun K2 s2 => ?_
  walk_at "tm"
  simp only [kVs_fz, deeds_fz]
  refine ⟨kVs_dirty K1, ?_⟩
  refine ⟨xs, ys, rfl, h.vx, h.vy, h.l1.nf, h.l2.nf, by omega, by omega, h.okx, h.oky, fun ms nms hms lms => ?_⟩
  have ms0 : ms = [] := List.eq_nil_iff_forall_not_mem.mpr fun m hm => h.no m ((hms m).mp hm)
  subst ms0
  walk_at "tm"
  have q1 : shD (.lst true []) = true := shD_of 64 rfl (by decide)
  have q2 : eqD (.lst true []) (.lst true []) = true := eqD_true rfl rfl rfl
  have lv : ∀ d ∈ ys.filter (fun d => decide (d ∉ xs)), live d = true := fun d hd => h.vy d (List.mem_filter.mp hd).1
  have lz : (ys.filter fun d => decide (d ∉ xs)).length ≤ 400 := Nat.le_trans (List.length_filter_le _ ys) ly
  have zto : ∀ m, effs (ofM m (ys.filter fun d => decide (d ∉ xs))) (getR K1 m) = some (getR B m) := fun m => by rw [s1.get]; exact h.to m
  have l1 : K1.length ≤ 200 := by rw [s1.perm.length_eq]; exact h.k1.2.1
  show shD (.lst true []) = true ∧ shD (.lst true []) = true ∧ _
  rw [q2, if_pos rfl]
  refine ⟨q1, q1, xs, ys, rfl, h.vx, h.vy, by omega, by omega, ?_⟩
  generalize (ys.filter fun d => decide (d ∉ xs)) = zs at lv lz zto
  have stp := steps_ok s1.nk (xs := zs) (fun m => by rw [zto]; rfl)
  obtain ⟨nF, gF⟩ := fold_effs zs K1 s1.nk (fun m => by rw [zto]; rfl)
  have sF : Same (zs.foldl putOn K1) B := ⟨nF, h.nb, fun m => by have := gF m; rw [zto] at this; exact (Option.some.inj this).symm⟩
  refine ⟨deeds_dirty _, fun i env => ∃ (x7 x8 x9 : Option D), env = [some (.dct false (.k (kKs A)) (kVs A)), some (.lst false (xs.map deedD)), some (.lst false (ys.map deedD)), some (.dct true (.k (kKs K1)) (kVs K1)), some (.dct true (.k (kKs K2)) (kVs K2)), some (.dct true (.k (kKs ((zs.take i).foldl putOn K1))) (kVs ((zs.take i).foldl putOn K1))), some (.lst true []), x7, x8, x9], ⟨_, _, _, rfl⟩, ?_, ?_⟩
  · rintro i d env2 hd ⟨x7, x8, x9, rfl⟩
    obtain ⟨x, hx, rfl⟩ := map_get hd
    have hi := (List.getElem?_eq_some_iff.mp hx).1
    have hs := stp i hi x hx
    have fl := fold_len K1 (zs.take i)
    have tl : (zs.take i).length ≤ zs.length := by rw [List.length_take]; omega
    have e1 : (zs.take (i + 1)).foldl putOn K1 = putOn ((zs.take i).foldl putOn K1) x := by
      rw [List.take_succ, hx, List.foldl_append]; rfl
    walk_at "tm"
    rw [e1]
    generalize (zs.take i).foldl putOn K1 = C at hs fl
    refine methK_deed (lv x (List.mem_of_getElem? hx)) clp_all nfl_put_on ?_
    walk_at "tm"
    simp only [kVs_fz]
    refine ⟨x, C, rfl, by omega, hs, ?_⟩
    walk_at "tm"
    exact ⟨kVs_selfc _, _, _, _, rfl⟩
  rintro env2 ⟨x7, x8, x9, rfl⟩
  rw [List.length_map, List.take_length]
  have fl := fold_len K1 zs
  have kF := sF.kept h.kb
  generalize zs.foldl putOn K1 = C at sF fl kF
  walk_at "tm"
  simp only [kVs_fz]
  have lost0 : (marksK C).filter (lostB C) = [] := List.filter_eq_nil_iff.mpr fun m hm z => by rw [kept_lost kF hm] at z; cases z
  have flow : Flow C := up_flow fun m hm => by
    obtain ⟨p, hp, rfl⟩ := List.mem_map.mp hm
    exact ⟨31, kF.2.2.2.2 p hp⟩
  refine ⟨C, rfl, sF.nk, by omega, ?_⟩
  rw [lost0]
  refine ⟨rfl, rfl, rfl, Nat.zero_le _, C, rfl, sF.nk, by omega, fun ms hp hs => ?_⟩
  have key0 : ms.filter (keyB C) = [] := List.filter_eq_nil_iff.mpr fun m hm z => by rw [kept_key kF sF.nk (hp.mem_iff.mp hm)] at z; cases z
  rw [key0]
  refine ⟨rfl, rfl, rfl, rfl, Nat.zero_le _, C, rfl, sF.nk, by omega, flow, rfl, rfl, rfl, rfl, Nat.zero_le _, ?_⟩
  show shD (.lst true []) = true ∧ shD (.lst true []) = true ∧ _
  rw [show ([] ++ [] ++ [] : List D) = [] from rfl, q2, if_pos rfl]
  exact ⟨q1, q1, q C sF⟩

--@here
def SG : Str := "abcdefghijklmnopqrstuvwxyz0123456789+-*=<"
def Sg (w : Str) : Prop := ∀ c ∈ w.cps.toList, c ∈ SG.cps.toList
def Wd (w : Str) : Prop := Sg w ∧ 1 ≤ w.length ∧ w.length ≤ 12
theorem Sg.app {v w : Str} (h : Sg v) (k : Sg w) : Sg (v ++ w) := fun c hc => by
  rw [show (v ++ w).cps.toList = v.cps.toList ++ w.cps.toList from Array.toList_append] at hc
  rcases List.mem_append.mp hc with hc | hc
  · exact h c hc
  · exact k c hc
theorem Sg.one {c : Nat} (h : c ∈ SG.cps.toList) : Sg ⟨#[c]⟩ := fun d hd => by
  simp at hd; subst hd; exact h
theorem Sg.rev {w : Str} (h : Sg w) : Sg (revS w) := fun c hc => h c (by simpa [revS] using hc)
theorem rev_length {w : Str} : (revS w).length = w.length := by
  show (w.cps.toList.reverse.toArray).size = w.cps.size
  simp
theorem Sg.strOk {w : Str} (h : Sg w) : PyData.strOk w = true := by
  unfold PyData.strOk
  rw [Array.all_eq_true_iff_forall_mem]
  intro c hc
  have hm := h c (by simpa using hc)
  have all : SG.cps.toList.all (fun c => decide (c < 0x110000)) = true := by decide +kernel
  exact List.all_eq_true.mp all c hm

theorem atI_ints {ns : List Int} {k : Int} (h0 : 0 ≤ k) (h : k < ns.length) : atI (ns.map D.int) k = some (.int (ns.getD k.toNat 0)) := by
  have hk : k.toNat < ns.length := by omega
  have e : k = ((k.toNat : Nat) : Int) := by omega
  rw [e]
  refine atI_nat ?_
  rw [List.getElem?_map, List.getElem?_eq_getElem hk]
  rw [List.getD_eq_getElem?_getD, Int.toNat_natCast, List.getElem?_eq_getElem hk]; rfl
theorem atI_some {α : Type} {ds : List α} {k : Int} (h0 : 0 ≤ k) (h : k < ds.length) : ∃ d, atI ds k = some d := by
  have hk : k.toNat < ds.length := by omega
  have e : k = ((k.toNat : Nat) : Int) := by omega
  rw [e]
  exact ⟨_, atI_nat (List.getElem?_eq_getElem hk)⟩
theorem atI_mem {α : Type} {ds : List α} {k : Int} (h0 : 0 ≤ k) (h : k < ds.length) : ∃ d, atI ds k = some d ∧ d ∈ ds := by
  have hk : k.toNat < ds.length := by omega
  have e : k = ((k.toNat : Nat) : Int) := by omega
  rw [e]
  exact ⟨_, atI_nat (List.getElem?_eq_getElem hk), List.getElem_mem hk⟩
theorem Str.length_append1 (w : Str) (c : Nat) : (w ++ (⟨#[c]⟩ : Str)).length = w.length + 1 := by
  rw [Str.length_append]
  rfl

/-! what is changed -/
def lkA {α : Type} : List (Int × α) → Int → Option α
  | [], _ => none
  | p :: l, m => if p.1 = m then some p.2 else lkA l m
def aKs {α : Type} (l : List (Int × α)) : List L2.Key := l.map fun p => .inl p.1
def aVs {α : Type} (f : α → D) (l : List (Int × α)) : List D := l.map fun p => f p.2
def aMs {α : Type} (l : List (Int × α)) : List Int := l.map (·.1)
section
variable {α : Type}
theorem lkA_look (f : α → D) : ∀ (l : List (Int × α)) (m : Int), lookD (aKs l) (aVs f l) (.inl m) = (lkA l m).map f
  | [], m => rfl
  | p :: l, m => by
    show lookD (.inl p.1 :: aKs l) (f p.2 :: aVs f l) (.inl m) = _
    rw [lookD, lkA]
    by_cases c : p.1 = m
    · rw [if_pos (by rw [c]), if_pos c]; rfl
    · rw [if_neg (fun z => c (by injection z)), if_neg c]; exact lkA_look f l m
theorem lkA_mem : ∀ {l : List (Int × α)} {m : Int} {a : α}, lkA l m = some a → (m, a) ∈ l
  | [], _, _, h => by cases h
  | p :: l, m, a, h => by
    rw [lkA] at h
    split at h
    · rename_i c
      cases h
      rw [← c]; exact List.mem_cons_self
    · exact List.mem_cons_of_mem _ (lkA_mem h)
theorem lkA_none : ∀ {l : List (Int × α)} {m : Int}, m ∉ aMs l → lkA l m = none
  | [], _, _ => rfl
  | p :: l, m, h => by
    have h : ¬ (m = p.1 ∨ m ∈ aMs l) := fun z => h (List.mem_cons.mpr z)
    rw [lkA, if_neg fun z => h (.inl z.symm)]
    exact lkA_none fun z => h (.inr z)
theorem lkA_some : ∀ {l : List (Int × α)} {m : Int}, m ∈ aMs l → ∃ a, lkA l m = some a
  | [], _, h => by cases h
  | p :: l, m, h => by
    rw [lkA]
    by_cases c : p.1 = m
    · exact ⟨_, if_pos c⟩
    · rw [if_neg c]
      exact lkA_some ((List.mem_cons.mp h).resolve_left fun z => c z.symm)
theorem lkA_of {l : List (Int × α)} (hn : (aMs l).Nodup) {m : Int} {a : α} (h : (m, a) ∈ l) : lkA l m = some a := by
  induction l with
  | nil => cases h
  | cons p l ih =>
    have hn2 := List.nodup_cons.mp (show (p.1 :: aMs l).Nodup from hn)
    rw [lkA]
    rcases List.mem_cons.mp h with e | h
    · subst e; exact if_pos rfl
    · rw [if_neg fun c => hn2.1 (by rw [c]; exact List.mem_map.mpr ⟨_, h, rfl⟩)]
      exact ih hn2.2 h
theorem lkA_in (f : α → D) (l : List (Int × α)) (m : Int) : (lookD (aKs l) (aVs f l) (.inl m)).isSome = decide (m ∈ aMs l) := by
  rw [lkA_look, Option.isSome_map]
  by_cases c : m ∈ aMs l
  · obtain ⟨a, e⟩ := lkA_some c
    rw [e, decide_eq_true c]; rfl
  · rw [decide_eq_false c, lkA_none c]; rfl
theorem aMs_app (l : List (Int × α)) (m : Int) (a : α) : aMs (l ++ [(m, a)]) = aMs l ++ [m] := by unfold aMs; rw [List.map_append]; rfl
theorem lkA_put (f : α → D) {l : List (Int × α)} {m : Int} (h : m ∉ aMs l) (a : α) : putKs (aKs l) (.inl m) = aKs (l ++ [(m, a)]) ∧ putDs (aKs l) (aVs f l) (.inl m) (f a) = aVs f (l ++ [(m, a)]) := by
  have : (.inl m : L2.Key) ∉ aKs l := fun z => h (by
    obtain ⟨p, hp, e⟩ := List.mem_map.mp z
    exact List.mem_map.mpr ⟨p, hp, by injection e⟩)
  unfold putKs putDs
  rw [if_neg this, if_neg this]
  unfold aKs aVs
  rw [List.map_append, List.map_append]
  exact ⟨rfl, rfl⟩
theorem aMs_push {l : List (Int × α)} (hn : (aMs l).Nodup) {m : Int} (h : m ∉ aMs l) (a : α) : (aMs (l ++ [(m, a)])).Nodup := by
  rw [aMs_app, List.nodup_append]
  exact ⟨hn, by simp, fun x hx y hy z => by rw [List.mem_singleton.mp hy] at z; exact h (z ▸ hx)⟩
/-- the deeds of one mark among a dict's -/
theorem ofM_dict (f : Int × α → Deed) (hf : ∀ p, markOf (f p) = p.1) (m : Int) : ∀ {l : List (Int × α)}, (aMs l).Nodup → ofM m (l.map f) = match lkA l m with | none => [] | some a => [f (m, a)]
  | [], _ => rfl
  | p :: l, hn => by
    have hn2 := List.nodup_cons.mp (show (p.1 :: aMs l).Nodup from hn)
    have ih := ofM_dict f hf m hn2.2
    rw [List.map_cons, ofM_cons, hf, lkA, ih]
    by_cases c : p.1 = m
    · subst c
      rw [if_pos rfl, if_pos rfl, lkA_none hn2.1]
    · rw [if_neg c, if_neg c]
end
def strV : Str → D := D.str
theorem aVs_fzS (W : List (Int × Str)) : fzs (aVs D.str W) = aVs D.str W := fzs_mapI (f := fun p : Int × Str => D.str p.2) (fun _ => rfl) W
theorem aVs_dS (W : List (Int × Str)) : dirtys (aVs D.str W) = false := dirtys_mapI (f := fun p : Int × Str => D.str p.2) (fun _ => rfl) W
theorem aVs_sS (W : List (Int × Str)) : selfcs (aVs D.str W) = true := selfcs_mapI (f := fun p : Int × Str => D.str p.2) (fun _ => rfl) W
theorem aVs_fzP (S : List (Int × Spot)) : fzs (aVs spT S) = aVs spT S := fzs_mapI (f := fun p : Int × Spot => spT p.2) (fun p => spT_fz p.2) S
theorem aVs_dP (S : List (Int × Spot)) : dirtys (aVs spT S) = false := dirtys_mapI (f := fun p : Int × Spot => spT p.2) (fun p => spT_dirty p.2) S
theorem aVs_sP (S : List (Int × Spot)) : selfcs (aVs spT S) = true := selfcs_mapI (f := fun p : Int × Spot => spT p.2) (fun p => spT_selfc p.2) S
/-- a kept tree as it is drawn -/
structure LawK (K : Kept) : Prop where
  nd : (marksK K).Nodup
  root : ∃ m w K', K = (m, (w, none, [])) :: K'
  el : ∀ (i : Nat) p, 0 < i → K[i]? = some p → ∃ (j : Nat) (q : Int × KRow), j < i ∧ j < 24 ∧ K[j]? = some q ∧ p.2.2.1 = some q.1
  key : ∀ (i : Nat) p, 0 < i → K[i]? = some p → ∃ k : List Int, k ≠ [] ∧ k.length ≤ 2 ∧ p.2.2.2 = k ++ [p.1]
  wd : OkK K
  len : K.length ≤ 199
/-- words and spots by their marks -/
structure Chs (K : Kept) (W : List (Int × Str)) (S : List (Int × Spot)) : Prop where
  nw : (aMs W).Nodup
  ns : (aMs S).Nodup
  wk : ∀ p ∈ W, p.1 ∈ marksK K ∧ PyData.strOk p.2 = true
  sk : ∀ p ∈ S, p.1 ∈ marksK K ∧ ∃ e x, elderK K p.1 = some e ∧ p.2 = (some e, [x, 0, p.1, 0])
def dueR (W : List (Int × Str)) (S : List (Int × Spot)) (m : Int) (r : KRow) : KRow := ((lkA W m).getD r.1, (lkA S m).getD r.2)
def dueK (W : List (Int × Str)) (S : List (Int × Spot)) (K : Kept) : Kept := K.map fun p => (p.1, dueR W S p.1 p.2)
theorem dueK_marks (W S) (K : Kept) : marksK (dueK W S K) = marksK K := by unfold marksK dueK; rw [List.map_map]; rfl
theorem dueK_get (W S) : ∀ (K : Kept) (m : Int), getR (dueK W S K) m = (getR K m).map (dueR W S m)
  | [], m => rfl
  | p :: K, m => by
    have ih := dueK_get W S K m
    show getR ((p.1, dueR W S p.1 p.2) :: dueK W S K) m = _
    rw [getR, getR]
    by_cases c : p.1 = m
    · rw [if_pos c, if_pos c]
      show _ = some (dueR W S m p.2)
      rw [c]
    · rw [if_neg c, if_neg c]; exact ih
--@here
def ws__law_word : WS := wSeq (wAsg (wC (.str "")) (gtName 1)) (wSeq (wFor (its1 (wArg (wOp gAdd (wC (.int 1)) (wOp gMod (wVar 0) (wC (.int 12)))) (wNil))) (gtName 2) (wSeq (wAsg (wOp gMod (wOp gAdd (wOp gAdd (wOp gMul (wVar 0) (wVar 0)) (wOp gMul (wC (.int 69621)) (wVar 0))) (wVar 2)) (wC (.int 2147483647))) (gtName 0)) (wAsg (wOp gAdd (wVar 1) (wOp gIx (wC (.str "abcdefghijklmnopqrstuvwxyz0123456789+-*=<")) (wOp gMod (wOp gFdiv (wVar 0) (wC (.int 32))) (wC (.int 41))))) (gtName 1)))) (wRet (wMov 1)))
abbrev n__law_word : Nat := 3
def spec__law_word : SpecT := fun ds _ Q => ∃ n, ds = [.int n] ∧ 0 ≤ n ∧ n < 2147483648 ∧ ∀ w : Str, Wd w → Q (.str w)
theorem len__law_word : ∀ ds px Q, spec__law_word ds px Q → ds.length = 1 := by
  rintro ds px Q ⟨a, rfl, _⟩; rfl
theorem pure__law_word : ∀ ds px Q, spec__law_word ds px Q → ws__law_word (PEnds.top Q) px (start0 n__law_word ds) := by
  rintro ds px Q ⟨n, rfl, n0, n1, q⟩
  show ws__law_word (PEnds.top Q) px [some (.int n), none, none]
  unfold ws__law_word
  walk_at "tm"
  refine ⟨by omega, by omega, fun i env => ∃ (w : Str) (r : Int) (x : Option D), env = [some (.int r), some (.str w), x] ∧ Sg w ∧ w.length = i ∧ 0 ≤ r ∧ r < 2147483648, ⟨_, _, _, rfl, by unfold Sg; decide +kernel, by decide +kernel, n0, n1⟩, ?_, ?_⟩
  · rintro i d env2 hd ⟨w, r, x, rfl, hr, hw, r0, r1⟩
    obtain ⟨hi, rfl⟩ := rngD_get hd
    walk_at "tm"
    have m0 := Int.emod_nonneg (r * r + 69621 * r + (i : Int)) (b := 2147483647) (by decide)
    have m1 := Int.emod_lt_of_pos (r * r + 69621 * r + (i : Int)) (b := 2147483647) (by decide)
    generalize (r * r + 69621 * r + (i : Int)) % 2147483647 = y at m0 m1
    have hz : y / 32 % 41 < (SG.cps.toList.length : Int) := by show y / 32 % 41 < 41; omega
    obtain ⟨c, e, hc⟩ := atI_mem (ds := SG.cps.toList) (k := y / 32 % 41) (by omega) hz
    refine ⟨⟨by omega, by omega⟩, by decide, atC_of e ?_⟩
    have hl : (w ++ (⟨#[c]⟩ : Str)).length = w.length + 1 := Str.length_append1 w c
    refine ⟨by show w.length + 1 ≤ 100000; omega, _, _, _, rfl, hr.app (Sg.one hc), by omega, m0, by omega⟩
  · rintro env2 ⟨w, r, x, rfl, hr, hw, _, _⟩
    walk_at "tm"
    rw [rngD_len] at hw
    exact q w ⟨hr, by omega, by omega⟩
def ws__law_mark : WS := wSeq (wAsg (wOp gMod (wVar 0) (wOp gMinus (wOp gPow (wC (.int 10)) (wC (.int 12))) (wC (.int 100)))) (gtName 2)) (wSeq (wWhile (wTest (wOp gDIn (wVar 2) (wVar 1))) (wAsg (wOp gAdd (wVar 2) (wC (.int 1))) (gtName 2))) (wRet (wMov 2)))
abbrev n__law_mark : Nat := 3
def spec__law_mark : SpecT := fun ds _ Q => ∃ (c : Int) (K : Kept), ds = [.int c, .dct false (.k (kKs K)) (kVs K)] ∧ ∀ m, m ∉ marksK K → Q (.int m)
theorem len__law_mark : ∀ ds px Q, spec__law_mark ds px Q → ds.length = 2 := by
  rintro ds px Q ⟨a, b, rfl, _⟩; rfl
theorem pure__law_mark : ∀ ds px Q, spec__law_mark ds px Q → ws__law_mark (PEnds.top Q) px (start0 n__law_mark ds) := by
  rintro ds px Q ⟨c, K, rfl, q⟩
  show ws__law_mark (PEnds.top Q) px [some (.int c), some (.dct false (.k (kKs K)) (kVs K)), none]
  unfold ws__law_mark
  walk_at "tm"
  refine ⟨fun n env => ∃ m : Int, env = [some (.int c), some (.dct false (.k (kKs K)) (kVs K)), some (.int m)] ∧ n = ((marksK K).filter fun x => decide (m ≤ x)).length, ⟨_, _, rfl, rfl⟩, ?_⟩
  rintro n env2 ⟨m, rfl, rfl⟩
  walk_at "tm"
  rw [in_kept]
  by_cases h : m ∈ marksK K
  · rw [if_pos (decide_eq_true h)]
    refine ⟨_, ?_, m + 1, rfl, rfl⟩
    have sub : ∀ l : List Int, ((l.filter fun x => decide (m + 1 ≤ x)).length ≤ (l.filter fun x => decide (m ≤ x)).length) ∧ (m ∈ l → (l.filter fun x => decide (m + 1 ≤ x)).length < (l.filter fun x => decide (m ≤ x)).length) := fun l => by
      induction l with
      | nil => exact ⟨Nat.le_refl _, fun z => by cases z⟩
      | cons x l ih =>
        rw [List.filter_cons, List.filter_cons]
        by_cases c1 : m + 1 ≤ x
        · rw [if_pos (decide_eq_true c1), if_pos (decide_eq_true (show m ≤ x by omega))]
          refine ⟨Nat.succ_le_succ ih.1, fun z => Nat.succ_lt_succ (ih.2 ?_)⟩
          rcases List.mem_cons.mp z with e | z
          · omega
          · exact z
        · rw [if_neg (by simp [c1])]
          by_cases c2 : m ≤ x
          · rw [if_pos (decide_eq_true c2)]
            exact ⟨Nat.le_succ_of_le ih.1, fun _ => Nat.lt_succ_of_le ih.1⟩
          · rw [if_neg (by simp [c2])]
            refine ⟨ih.1, fun z => ih.2 ?_⟩
            rcases List.mem_cons.mp z with e | z
            · omega
            · exact z
    exact (sub _).2 h
  · rw [if_neg (by simp [h])]
    exact q m h
--@here
theorem LawK.len0 {K : Kept} (h : LawK K) : 0 < K.length := by
  obtain ⟨_, _, _, rfl⟩ := h.root
  exact Nat.succ_pos _
theorem LawK.push {K : Kept} (h : LawK K) {m e : Int} {w : Str} {k : List Int} (hm : m ∉ marksK K) (he : ∃ (j : Nat) (q : Int × KRow), j < 24 ∧ K[j]? = some q ∧ e = q.1) (hk : k ≠ []) (hk2 : k.length ≤ 2) (hw : PyData.strOk w = true) (hl : K.length < 199) : LawK (K ++ [(m, (w, some e, k ++ [m]))]) := by
  have at_ : ∀ (i : Nat) p, (K ++ [(m, (w, some e, k ++ [m]))])[i]? = some p → (i < K.length ∧ K[i]? = some p) ∨ (i = K.length ∧ p = (m, (w, some e, k ++ [m]))) := fun i p e => by
    by_cases c : i < K.length
    · rw [List.getElem?_append_left c] at e
      exact .inl ⟨c, e⟩
    · have hi := (List.getElem?_eq_some_iff.mp e).1
      simp at hi
      have : i = K.length := by omega
      subst this
      rw [List.getElem?_append_right (Nat.le_refl _), Nat.sub_self] at e
      cases e
      exact .inr ⟨rfl, rfl⟩
  refine ⟨?_, ?_, fun i p h0 e1 => ?_, fun i p h0 e1 => ?_, fun p hp => ?_, by rw [List.length_append, List.length_singleton]; omega⟩
  · unfold marksK at hm ⊢
    rw [List.map_append, List.nodup_append]
    exact ⟨h.nd, by simp, fun a ha b hb z => by simp at hb; subst z; rw [hb] at ha; exact hm ha⟩
  · obtain ⟨a, b, K', e0⟩ := h.root
    exact ⟨a, b, K' ++ [(m, (w, some e, k ++ [m]))], by rw [e0]; rfl⟩
  · rcases at_ i p e1 with ⟨c, e1⟩ | ⟨c, rfl⟩
    · obtain ⟨j, q, h1, h2, h3, h4⟩ := h.el i p h0 e1
      exact ⟨j, q, h1, h2, by rw [List.getElem?_append_left (by omega)]; exact h3, h4⟩
    · obtain ⟨j, q, h1, h2, rfl⟩ := he
      have := (List.getElem?_eq_some_iff.mp h2).1
      exact ⟨j, q, by omega, h1, by rw [List.getElem?_append_left this]; exact h2, rfl⟩
  · rcases at_ i p e1 with ⟨c, e1⟩ | ⟨c, rfl⟩
    · exact h.key i p h0 e1
    · exact ⟨k, hk, hk2, rfl⟩
  · rcases List.mem_append.mp hp with hp | hp
    · exact h.wd p hp
    · rw [List.mem_singleton.mp hp]; exact hw
theorem kept_put {K : Kept} {m : Int} (hm : m ∉ marksK K) (r : KRow) : putKs (kKs K) (.inl m) = kKs (K ++ [(m, r)]) ∧ putDs (kKs K) (kVs K) (.inl m) (krD r) = kVs (K ++ [(m, r)]) := by
  have : (.inl m : L2.Key) ∉ kKs K := fun z => hm (by
    unfold kKs at z
    obtain ⟨p, hp, e⟩ := List.mem_map.mp z
    have e : p.1 = m := by injection e
    exact List.mem_map.mpr ⟨p, hp, e⟩)
  unfold putKs putDs
  rw [if_neg this, if_neg this]
  unfold kKs kVs
  rw [List.map_append, List.map_append]
  exact ⟨rfl, rfl⟩
def ws__law_kept : WS := wSeq (wAsg (wC (.int 7)) (gtName 1)) (wCut (wIf (wTest (wOp gGt (wB gLen (wArg (wVar 0) (wNil))) (wC (.int 0)))) (wAsg (wOp gMod (wOp gFdiv (wOp gIx (wVar 0) (wC (.int 0))) (wC (.int 3))) (wOp gMinus (wOp gPow (wC (.int 10)) (wC (.int 12))) (wC (.int 100)))) (gtName 1)) (wNext)) (wSeq (wAsg (wDisp1 (wVar 1) (wTup (wItm (wC (.str "root")) (wItm (wC .non) (wItm (wTup (wNil)) (wNil)))))) (gtName 2)) (wSeq (wFor (itsL (wSl (wVar 0) (wNo) (wPart (wC (.int 28))))) (gtName 3) (wSeq (wAsg (wOp gMod (wOp gMul (wVar 3) (wC (.int 48271))) (wC (.int 2147483647))) (gtName 4)) (wSeq (wAsg (wCall0 spec__law_mark [] (wArg (wVar 3) (wArg (wVar 2) (wNil)))) (gtName 5)) (wSeq (wAsg (wOp gIx (wB gDList (wArg (wVar 2) (wNil))) (wOp gMod (wOp gFdiv (wVar 4) (wC (.int 16))) (wB gMin2 (wArg (wB gLenD (wArg (wVar 2) (wNil))) (wArg (wC (.int 24)) (wNil)))))) (gtName 6)) (wSeq (wAsg (wSl (wTup (wItm (wOp gMinus (wOp gMod (wOp gFdiv (wVar 3) (wC (.int 5))) (wOp gAdd (wOp gMul (wC (.int 2)) (wOp gPow (wC (.int 10)) (wC (.int 60)))) (wC (.int 1)))) (wOp gPow (wC (.int 10)) (wC (.int 60)))) (wItm (wVar 5) (wNil)))) (wPart (wOp gMod (wVar 4) (wC (.int 2)))) (wNo)) (gtName 7)) (wDPut 2 (wTup (wItm (wCall0 spec__law_word [] (wArg (wVar 4) (wNil))) (wItm (wVar 6) (wItm (wOp gAdd (wVar 7) (wTup (wItm (wVar 5) (wNil)))) (wNil))))) (wVar 5))))))) (wSeq (wIf (wAnd (wTest (wOp gGt (wB gLen (wArg (wVar 0) (wNil))) (wC (.int 0)))) (wTest (wOp gEq (wOp gMod (wOp gMod (wOp gMul (wOp gIx (wVar 0) (wC (.int 0))) (wC (.int 40014))) (wC (.int 2147483563))) (wC (.int 8))) (wC (.int 3))))) (wFor (its1 (wArg (wOp gAdd (wC (.int 100)) (wOp gMod (wOp gMod (wOp gMul (wOp gIx (wVar 0) (wC (.int 0))) (wC (.int 16807))) (wC (.int 2147483647))) (wC (.int 71)))) (wNil))) (gtName 8) (wSeq (wAsg (wCall0 spec__law_mark [] (wArg (wOp gAdd (wOp gPow (wC (.int 10)) (wC (.int 11))) (wOp gMul (wC (.int 7)) (wVar 8))) (wArg (wVar 2) (wNil)))) (gtName 5)) (wDPut 2 (wTup (wItm (wC (.str "b")) (wItm (wVar 1) (wItm (wTup (wItm (wOp gAdd (wOp gMul (wC (.int 2)) (wOp gPow (wC (.int 10)) (wC (.int 60)))) (wVar 8)) (wItm (wVar 5) (wNil)))) (wNil))))) (wVar 5)))) (wNext)) (wRet (wMov 2))))))
abbrev n__law_kept : Nat := 9
def spec__law_kept : SpecT := fun ds _ Q => ∃ (ns : List Int), ds = [.seq (ns.map D.int)] ∧ ns.length ≤ 63 ∧ ∀ K : Kept, LawK K → Q (.dct true (.k (kKs K)) (kVs K))
theorem len__law_kept : ∀ ds px Q, spec__law_kept ds px Q → ds.length = 1 := by
  rintro ds px Q ⟨a, rfl, _⟩; rfl
theorem pure__law_kept : ∀ ds px Q, spec__law_kept ds px Q → ws__law_kept (PEnds.top Q) px (start0 n__law_kept ds) := by
  rintro ds px Q ⟨ns, rfl, hl, q⟩
  show ws__law_kept (PEnds.top Q) px [some (.seq (ns.map D.int)), none, none, none, none, none, none, none, none]
  unfold ws__law_kept
  walk_at "tm"
  refine ⟨fun env => ∃ r : Int, env = [some (.seq (ns.map D.int)), some (.int r), none, none, none, none, none, none, none], ?_, ?_⟩
  · by_cases c : (0 : Int) < (ns.length : Int)
    · rw [if_pos c]
      refine atK_of (atI_ints (k := 0) (by omega) c) rfl ?_
      walk_at "tm"
      exact ⟨_, rfl⟩
    · rw [if_neg c]; exact ⟨_, rfl⟩
  rintro env1 ⟨r, rfl⟩
  walk_at "tm"
  rw [show (28 : Int) = ((28 : Nat) : Int) from rfl, cutD_to, ← List.map_take]
  have l28 : (ns.take 28).length ≤ 28 := by rw [List.length_take]; omega
  refine ⟨dirtys_ints _, fun i env => ∃ (K : Kept) (x3 x4 x5 x6 x7 : Option D), env = [some (.seq (ns.map D.int)), some (.int r), some (.dct true (.k (kKs K)) (kVs K)), x3, x4, x5, x6, x7, none] ∧ LawK K ∧ K.length = i + 1 ∧ ∃ p, K[0]? = some p ∧ p.1 = r, ?_, ?_, ?_⟩
  · refine ⟨[(r, (Str.ofString "root", none, []))], none, none, none, none, none, rfl, ⟨by simp [marksK], ⟨_, _, _, rfl⟩, fun i p h0 e => ?_, fun i p h0 e => ?_, fun p hp => ?_, by simp⟩, rfl, _, rfl, rfl⟩
    · have := (List.getElem?_eq_some_iff.mp e).1
      simp at this; omega
    · have := (List.getElem?_eq_some_iff.mp e).1
      simp at this; omega
    · rw [List.mem_singleton.mp hp]
      show PyData.strOk (Str.ofString "root") = true
      decide +kernel
  · rintro i d env2 hd ⟨K, x3, x4, x5, x6, x7, rfl, hK, lK, hr⟩
    obtain ⟨c, hc, rfl⟩ := map_get hd
    have hi := (List.getElem?_eq_some_iff.mp hc).1
    walk_at "tm"
    simp only [kVs_fz]
    refine ⟨c, K, rfl, fun m hm => ⟨rfl, ?_⟩⟩
    have n0 := Int.emod_nonneg (c * 48271) (b := 2147483647) (by decide)
    have n1 := Int.emod_lt_of_pos (c * 48271) (b := 2147483647) (by decide)
    generalize c * 48271 % 2147483647 = n at n0 n1
    generalize c / 5 % 2000000000000000000000000000000000000000000000000000000000001 - 1000000000000000000000000000000000000000000000000000000000000 = x
    have ek : (kKs K).map keyD = (marksK K).map D.int := by unfold kKs marksK; rw [List.map_map, List.map_map]; rfl
    have ml : (marksK K).length = K.length := by unfold marksK; rw [List.length_map]
    have hL : ∃ L : Nat, (if 24 < ((kKs K).length : Int) then (24 : Int) else ((kKs K).length : Int)) = (L : Int) ∧ 0 < L ∧ L ≤ 24 ∧ L ≤ K.length := by
      rw [kKs_len]
      split
      · exact ⟨24, rfl, by omega, by omega, by omega⟩
      · exact ⟨K.length, rfl, by omega, by omega, by omega⟩
    obtain ⟨L, eL, hL0, hL24, hLK⟩ := hL
    rw [eL, ek]
    obtain ⟨j, ej, hj⟩ : ∃ j : Nat, n / 16 % (L : Int) = (j : Int) ∧ j < L := by
      have h1 := Int.emod_nonneg (n / 16) (b := (L : Int)) (by omega)
      have h2 := Int.emod_lt_of_pos (n / 16) (b := (L : Int)) (by omega)
      exact ⟨(n / 16 % (L : Int)).toNat, by omega, by omega⟩
    rw [ej]
    have hjK : K[j]? = some K[j] := List.getElem?_eq_getElem (by omega)
    have ea : atI ((marksK K).map D.int) (j : Int) = some (.int K[j].1) := by
      rw [atI_ints (by omega) (by omega), Int.toNat_natCast, List.getD_eq_getElem?_getD]
      unfold marksK
      rw [List.getElem?_map, hjK]; rfl
    have cut : ∃ k : List Int, Tm.cutD [D.int x, D.int m] (some (n % 2)) none = k.map D.int ∧ k ≠ [] ∧ k.length ≤ 2 := by
      rcases (show n % 2 = 0 ∨ n % 2 = 1 by omega) with e | e
      · rw [e, show (0 : Int) = ((0 : Nat) : Int) from rfl, cutD_from]
        exact ⟨[x, m], rfl, by simp, by simp⟩
      · rw [e, show (1 : Int) = ((1 : Nat) : Int) from rfl, cutD_from]
        exact ⟨[m], rfl, by simp, by simp⟩
    obtain ⟨k, ec, hk, hk2⟩ := cut
    refine ⟨by omega, atK_of ea rfl ⟨rfl, rfl, n, rfl, n0, by omega, fun w hw => ?_⟩⟩
    rw [ec]
    have lk : (k.map D.int).length ≤ 99999 := by rw [List.length_map]; omega
    have dk : dirtys (k.map D.int ++ [D.int m]) = false := by rw [← List.map_singleton, ← List.map_append]; exact dirtys_ints _
    refine ⟨rfl, rfl, dirtys_ints k, rfl, lk, dk, kVs_dirty K, by rw [kKs_len]; omega, ?_⟩
    have er : D.tup [.str w, .int K[j].1, .tup (k.map D.int ++ [D.int m])] = krD (w, some K[j].1, k ++ [m]) := by
      rw [krD_eq]; unfold keyT; rw [List.map_append]; rfl
    rw [er]
    walk_at "tm"
    rw [(kept_put hm (w, some K[j].1, k ++ [m])).1, (kept_put hm (w, some K[j].1, k ++ [m])).2]
    obtain ⟨p0, hp0, hr0⟩ := hr
    exact ⟨_, _, _, _, _, _, rfl, hK.push hm ⟨j, K[j], by omega, hjK, rfl⟩ hk hk2 hw.1.strOk (by omega), by rw [List.length_append, List.length_singleton]; omega, p0, by rw [List.getElem?_append_left (by omega)]; exact hp0, hr0⟩
  rintro env2 ⟨K, x3, x4, x5, x6, x7, rfl, hK, lK, p0, hp0, hr⟩
  walk_at "tm"
  rw [List.length_map] at lK
  by_cases c : (0 : Int) < (ns.length : Int)
  rotate_left
  · rw [if_neg c]; exact q K hK
  rw [if_pos c]
  have e0 := atI_ints (ns := ns) (k := 0) (by omega) c
  generalize ns.getD (Int.toNat 0) 0 = c0 at e0
  refine atK_of e0 rfl ?_
  walk_at "tm"
  by_cases c3 : c0 * 40014 % 2147483563 % 8 = 3
  rotate_left
  · rw [if_neg c3]; exact q K hK
  rw [if_pos c3]
  refine atK_of e0 rfl ?_
  walk_at "tm"
  have z0 := Int.emod_nonneg (c0 * 16807 % 2147483647) (b := 71) (by decide)
  have z1 := Int.emod_lt_of_pos (c0 * 16807 % 2147483647) (b := 71) (by decide)
  generalize c0 * 16807 % 2147483647 % 71 = z at z0 z1
  clear c3
  refine ⟨by omega, by omega, fun i env => ∃ (K : Kept) (x3 x4 x5 x6 x7 x8 : Option D), env = [some (.seq (ns.map D.int)), some (.int r), some (.dct true (.k (kKs K)) (kVs K)), x3, x4, x5, x6, x7, x8] ∧ LawK K ∧ K.length ≤ 29 + i ∧ ∃ p, K[0]? = some p ∧ p.1 = r, ⟨K, _, _, _, _, _, _, rfl, hK, by omega, p0, hp0, hr⟩, ?_, ?_⟩
  · rintro i d env2 hd ⟨K, x3, x4, x5, x6, x7, x8, rfl, hK, lK, p0, hp0, hr⟩
    obtain ⟨hi, rfl⟩ := rngD_get hd
    have hi2 : i < 170 := by omega
    walk_at "tm"
    simp only [kVs_fz]
    refine ⟨_, K, rfl, fun m hm => ⟨rfl, rfl, rfl, kVs_dirty K, by rw [kKs_len]; omega, ?_⟩⟩
    generalize (2000000000000000000000000000000000000000000000000000000000000 + (i : Int)) = x
    have er : D.tup [.str (Str.ofString "b"), .int r, .tup [.int x, .int m]] = krD (Str.ofString "b", some r, [x, m]) := rfl
    rw [er]
    walk_at "tm"
    rw [(kept_put hm (Str.ofString "b", some r, [x, m])).1, (kept_put hm (Str.ofString "b", some r, [x, m])).2]
    exact ⟨_, _, _, _, _, _, _, rfl, hK.push (k := [x]) hm ⟨0, p0, by omega, hp0, hr.symm⟩ (by simp) (by simp) (by decide +kernel) (by omega), by rw [List.length_append, List.length_singleton]; omega, p0, by rw [List.getElem?_append_left hK.len0]; exact hp0, hr⟩
  · rintro env2 ⟨K, x3, x4, x5, x6, x7, x8, rfl, hK, lK, _⟩
    walk_at "tm"
    exact q K hK
--@here
def ws__law_changes : WS := wSeq (wAsg (wDNew (.k [])) (gtName 2)) (wSeq (wAsg (wDNew (.k [])) (gtName 3)) (wSeq (wAsg (wB gSorted (wArg (wB gDList (wArg (wVar 1) (wNil))) (wNil))) (gtName 4)) (wSeq (wFor (itsL (wSl (wVar 0) (wPart (wC (.int 28))) (wPart (wC (.int 63))))) (gtName 5) (wSeq (wAsg (wOp gMod (wOp gMul (wVar 5) (wC (.int 16807))) (wC (.int 2147483629))) (gtName 6)) (wSeq (wAsg (wOp gIx (wVar 4) (wOp gMod (wOp gFdiv (wVar 6) (wC (.int 4))) (wB gLen (wArg (wVar 4) (wNil))))) (gtName 7)) (wSeq (wAsg (wCall0 spec__law_word [] (wArg (wVar 6) (wNil))) (gtName 8)) (wCut (wIf (wAnd (wTest (wOp gLt (wOp gMod (wVar 6) (wC (.int 4))) (wC (.int 3)))) (wAnd (wTest (wOp gDNotIn (wVar 7) (wVar 2))) (wTest (wOp gNe (wOp gIx (wOp gDGet (wVar 1) (wVar 7)) (wC (.int 0))) (wVar 8))))) (wDPut 2 (wVar 8) (wVar 7)) (wNext)) (wSeq (wAsg (wOp gIx (wVar 4) (wOp gMod (wOp gMod (wOp gMul (wVar 5) (wC (.int 69621))) (wC (.int 2147483647))) (wB gLen (wArg (wVar 4) (wNil))))) (gtName 7)) (wSeq (wAsg (wOp gIx (wOp gDGet (wVar 1) (wVar 7)) (wC (.int 1))) (gtName 9)) (wIf (wAnd (wTest (wOp gIsnt (wVar 9) (wC .non))) (wTest (wOp gDNotIn (wVar 7) (wVar 3)))) (wDPut 3 (wTup (wItm (wVar 9) (wItm (wTup (wItm (wOp gMinus (wOp gMod (wOp gFdiv (wVar 5) (wC (.int 7))) (wOp gAdd (wOp gMul (wC (.int 2)) (wOp gPow (wC (.int 10)) (wC (.int 60)))) (wC (.int 1)))) (wOp gPow (wC (.int 10)) (wC (.int 60)))) (wItm (wC (.int 0)) (wItm (wVar 7) (wItm (wC (.int 0)) (wNil)))))) (wNil)))) (wVar 7)) (wNext))))))))) (wCut (wIf (wAnd (wTest (wOp gDNotIn (wOp gIx (wVar 4) (wUn gNeg (wC (.int 1)))) (wVar 2))) (wTest (wOp gNe (wOp gIx (wOp gDGet (wVar 1) (wOp gIx (wVar 4) (wUn gNeg (wC (.int 1))))) (wC (.int 0))) (wC (.str "zz"))))) (wDPut 2 (wC (.str "zz")) (wOp gIx (wVar 4) (wUn gNeg (wC (.int 1))))) (wNext)) (wSeq (wFor (itsL (wSl (wVar 4) (wPart (wUn gNeg (wC (.int 2)))) (wNo))) (gtName 7) (wIf (wAnd (wTest (wOp gIsnt (wOp gIx (wOp gDGet (wVar 1) (wVar 7)) (wC (.int 1))) (wC .non))) (wTest (wOp gDNotIn (wVar 7) (wVar 3)))) (wDPut 3 (wTup (wItm (wOp gIx (wOp gDGet (wVar 1) (wVar 7)) (wC (.int 1))) (wItm (wTup (wItm (wC (.int 5)) (wItm (wC (.int 0)) (wItm (wVar 7) (wItm (wC (.int 0)) (wNil)))))) (wNil)))) (wVar 7)) (wNext))) (wRet (wTup (wItm (wMov 2) (wItm (wMov 3) (wNil))))))))))
abbrev n__law_changes : Nat := 10
theorem cutD_map {α : Type} (f : α → D) (ns : List α) (lo hi : Option Int) : ∃ ms : List α, Tm.cutD (ns.map f) lo hi = ms.map f ∧ (∀ x ∈ ms, x ∈ ns) ∧ ms.length ≤ ns.length := by
  unfold Tm.cutD
  rw [← List.map_drop, ← List.map_take]
  refine ⟨_, rfl, fun x hx => List.mem_of_mem_drop (List.mem_of_mem_take hx), ?_⟩
  rw [List.length_take, List.length_drop]; omega
theorem Chs.lw {K W S} (h : Chs K W S) : W.length ≤ K.length := by
  have := sub_len h.nw (m := marksK K) fun x hx => by
    obtain ⟨p, hp, rfl⟩ := List.mem_map.mp hx
    exact (h.wk p hp).1
  unfold aMs marksK at this
  rwa [List.length_map, List.length_map] at this
theorem Chs.ls {K W S} (h : Chs K W S) : S.length ≤ K.length := by
  have := sub_len h.ns (m := marksK K) fun x hx => by
    obtain ⟨p, hp, rfl⟩ := List.mem_map.mp hx
    exact (h.sk p hp).1
  unfold aMs marksK at this
  rwa [List.length_map, List.length_map] at this
theorem Chs.word {K W S} (h : Chs K W S) {m : Int} (hm : m ∈ marksK K) (hn : m ∉ aMs W) {w : Str} (hw : PyData.strOk w = true) : Chs K (W ++ [(m, w)]) S := by
  refine ⟨aMs_push h.nw hn w, h.ns, fun p hp => ?_, h.sk⟩
  rcases List.mem_append.mp hp with hp | hp
  · exact h.wk p hp
  · rw [List.mem_singleton.mp hp]; exact ⟨hm, hw⟩
theorem Chs.spot {K W S} (h : Chs K W S) {m : Int} (hm : m ∈ marksK K) (hn : m ∉ aMs S) {e x : Int} (he : elderK K m = some e) : Chs K W (S ++ [(m, (some e, [x, 0, m, 0]))]) := by
  refine ⟨h.nw, aMs_push h.ns hn _, h.wk, fun p hp => ?_⟩
  rcases List.mem_append.mp hp with hp | hp
  · exact h.sk p hp
  · rw [List.mem_singleton.mp hp]; exact ⟨hm, e, x, he, rfl⟩
def spec__law_changes : SpecT := fun ds _ Q => ∃ (ns : List Int) (K : Kept), ds = [.seq (ns.map D.int), .dct false (.k (kKs K)) (kVs K)] ∧ ns.length ≤ 63 ∧ LawK K ∧ ∀ W S, Chs K W S → Q (.tup [.dct true (.k (aKs W)) (aVs D.str W), .dct true (.k (aKs S)) (aVs spT S)])
theorem len__law_changes : ∀ ds px Q, spec__law_changes ds px Q → ds.length = 2 := by
  rintro ds px Q ⟨a, b, rfl, _⟩; rfl
theorem pure__law_changes : ∀ ds px Q, spec__law_changes ds px Q → ws__law_changes (PEnds.top Q) px (start0 n__law_changes ds) := by
  rintro ds px Q ⟨ns, K, rfl, hl, hK, q⟩
  show ws__law_changes (PEnds.top Q) px [some (.seq (ns.map D.int)), some (.dct false (.k (kKs K)) (kVs K)), none, none, none, none, none, none, none, none]
  unfold ws__law_changes
  have ek : (kKs K).map keyD = (marksK K).map D.int := by unfold kKs marksK; rw [List.map_map, List.map_map]; rfl
  have ml : (marksK K).length = K.length := by unfold marksK; rw [List.length_map]
  have k0 := hK.len0
  have kl := hK.len
  walk_at "tm"
  refine ⟨marksK K, by rw [ek], fun ms hp _ => ?_⟩
  have pl := hp.length_eq
  obtain ⟨cs, ec, _, lc⟩ := cutD_map D.int ns (some 28) (some 63)
  rw [ec]
  refine ⟨dirtys_ints cs, fun i env => ∃ W S, Chs K W S ∧ ∃ (x5 x6 x7 x8 x9 : Option D), env = [some (.seq (ns.map D.int)), some (.dct false (.k (kKs K)) (kVs K)), some (.dct true (.k (aKs W)) (aVs D.str W)), some (.dct true (.k (aKs S)) (aVs spT S)), some (.lst true (ms.map D.int)), x5, x6, x7, x8, x9], ⟨[], [], ⟨List.nodup_nil, List.nodup_nil, fun p h => (by cases h), fun p h => (by cases h)⟩, none, none, none, none, none, rfl⟩, ?_, ?_⟩
  · rintro i d env2 hd ⟨W, S, hC, x5, x6, x7, x8, x9, rfl⟩
    obtain ⟨c, hc, rfl⟩ := map_get hd
    have lw := hC.lw
    have ls := hC.ls
    have n0 := Int.emod_nonneg (c * 16807) (b := 2147483629) (by decide)
    have n1 := Int.emod_lt_of_pos (c * 16807) (b := 2147483629) (by decide)
    walk_at "tm"
    generalize c * 16807 % 2147483629 = n at n0 n1
    have h0 := Int.emod_nonneg (n / 4) (b := ((ms.length : Nat) : Int)) (by omega)
    have h1 := Int.emod_lt_of_pos (n / 4) (b := ((ms.length : Nat) : Int)) (by omega)
    obtain ⟨d, ed, md⟩ := atI_mem (ds := ms.map D.int) h0 (by rw [List.length_map]; exact h1)
    obtain ⟨m, hm, rfl⟩ := List.mem_map.mp md
    have mk := hp.mem_iff.mp hm
    obtain ⟨ρ, hr⟩ := getR_some mk
    refine ⟨by omega, atK_of ed rfl ⟨n, rfl, n0, by omega, fun w hw => ?_⟩⟩
    walk_at "tm"
    refine ⟨fun env => ∃ W, Chs K W S ∧ env = [some (.seq (ns.map D.int)), some (.dct false (.k (kKs K)) (kVs K)), some (.dct true (.k (aKs W)) (aVs D.str W)), some (.dct true (.k (aKs S)) (aVs spT S)), some (.lst true (ms.map D.int)), some (.int c), some (.int n), some (.int m), some (.str w), x9], ?_, ?_⟩
    · split
      · rw [lkA_in]
        by_cases cw : m ∈ aMs W
        · rw [if_neg (by simp [cw])]
          exact ⟨W, hC, rfl⟩
        · rw [if_pos (decide_eq_false cw)]
          refine atK_of (kept_at hr) (row_d ρ) ?_
          walk_at "tm"
          split
          · rw [(lkA_put D.str cw w).1, (lkA_put D.str cw w).2]
            exact ⟨aVs_dS W, by unfold aKs; rw [List.length_map]; omega, _, hC.word mk cw hw.1.strOk, rfl⟩
          · exact ⟨W, hC, rfl⟩
      · exact ⟨W, hC, rfl⟩
    rintro env3 ⟨W, hC, rfl⟩
    walk_at "tm"
    have h0 := Int.emod_nonneg (c * 69621 % 2147483647) (b := ((ms.length : Nat) : Int)) (by omega)
    have h1 := Int.emod_lt_of_pos (c * 69621 % 2147483647) (b := ((ms.length : Nat) : Int)) (by omega)
    obtain ⟨d, ed, md⟩ := atI_mem (ds := ms.map D.int) h0 (by rw [List.length_map]; exact h1)
    obtain ⟨m2, hm2, rfl⟩ := List.mem_map.mp md
    have mk2 := hp.mem_iff.mp hm2
    obtain ⟨ρ2, hr2⟩ := getR_some mk2
    generalize c / 7 % 2000000000000000000000000000000000000000000000000000000000001 - 1000000000000000000000000000000000000000000000000000000000000 = x
    refine ⟨by omega, atK_of ed rfl ?_⟩
    walk_at "tm"
    refine atK_of (kept_at hr2) (row_d ρ2) ?_
    walk_at "tm"
    cases eo : ρ2.2.1 with
    | none =>
      simp only [oZ]
      walk_at "tm"
      exact ⟨W, S, hC, _, _, _, _, _, rfl⟩
    | some e =>
      simp only [oZ]
      walk_at "tm"
      rw [lkA_in]
      by_cases cs : m2 ∈ aMs S
      · rw [if_neg (by simp [cs])]
        exact ⟨W, S, hC, _, _, _, _, _, rfl⟩
      · rw [if_pos (decide_eq_false cs)]
        have er : D.tup [.int e, .tup [.int x, .int 0, .int m2, .int 0]] = spT (some e, [x, 0, m2, 0]) := rfl
        rw [er, (lkA_put spT cs (some e, [x, 0, m2, 0])).1, (lkA_put spT cs (some e, [x, 0, m2, 0])).2]
        exact ⟨aVs_dP S, by unfold aKs; rw [List.length_map]; omega, W, _, hC.spot mk2 cs (by rw [elderK_of hr2, eo]), _, _, _, _, _, rfl⟩
  rintro env2 ⟨W, S, hC, x5, x6, x7, x8, x9, rfl⟩
  have lw := hC.lw
  have ls := hC.ls
  obtain ⟨y, hy⟩ : ∃ y, ms.getLast? = some y := by
    cases e : ms.getLast? with
    | none => rw [List.getLast?_eq_none_iff] at e; rw [e] at pl; rw [ml] at pl; simp at pl; omega
    | some y => exact ⟨y, rfl⟩
  have ey : atI (ms.map D.int) (-1) = some (.int y) := atI_last' (by rw [List.getLast?_map, hy]; rfl)
  have mky := hp.mem_iff.mp (List.mem_of_getLast? hy)
  obtain ⟨ρ, hr⟩ := getR_some mky
  walk_at "tm"
  refine ⟨fun env => ∃ W, Chs K W S ∧ env = [some (.seq (ns.map D.int)), some (.dct false (.k (kKs K)) (kVs K)), some (.dct true (.k (aKs W)) (aVs D.str W)), some (.dct true (.k (aKs S)) (aVs spT S)), some (.lst true (ms.map D.int)), x5, x6, x7, x8, x9], ?_, ?_⟩
  · refine atK_of ey rfl ?_
    walk_at "tm"
    rw [lkA_in]
    by_cases cw : y ∈ aMs W
    · rw [if_neg (by simp [cw])]
      exact ⟨W, hC, rfl⟩
    · rw [if_pos (decide_eq_false cw)]
      refine atK_of ey rfl ?_
      walk_at "tm"
      refine atK_of (kept_at hr) (row_d ρ) ?_
      walk_at "tm"
      split
      · refine atK_of ey rfl ?_
        walk_at "tm"
        rw [(lkA_put D.str cw (Str.ofString "zz")).1, (lkA_put D.str cw (Str.ofString "zz")).2]
        exact ⟨aVs_dS W, by unfold aKs; rw [List.length_map]; omega, _, hC.word mky cw (by decide +kernel), rfl⟩
      · exact ⟨W, hC, rfl⟩
  rintro env3 ⟨W, hC, rfl⟩
  walk_at "tm"
  obtain ⟨vs, ev, mv, lv⟩ := cutD_map D.int ms (some (-2)) none
  rw [ev]
  refine ⟨dirtys_ints vs, fun i env => ∃ S, Chs K W S ∧ ∃ (x7 : Option D), env = [some (.seq (ns.map D.int)), some (.dct false (.k (kKs K)) (kVs K)), some (.dct true (.k (aKs W)) (aVs D.str W)), some (.dct true (.k (aKs S)) (aVs spT S)), some (.lst true (ms.map D.int)), x5, x6, x7, x8, x9], ⟨S, hC, _, rfl⟩, ?_, ?_⟩
  · rintro i d env4 hd ⟨S, hC, x7, rfl⟩
    obtain ⟨m, hm, rfl⟩ := map_get hd
    have mk := hp.mem_iff.mp (mv m (List.mem_of_getElem? hm))
    obtain ⟨ρ, hr⟩ := getR_some mk
    have ls := hC.ls
    walk_at "tm"
    refine atK_of (kept_at hr) (row_d ρ) ?_
    walk_at "tm"
    cases eo : ρ.2.1 with
    | none =>
      simp only [oZ]
      walk_at "tm"
      exact ⟨S, hC, _, rfl⟩
    | some e =>
      simp only [oZ]
      walk_at "tm"
      rw [lkA_in]
      by_cases cs : m ∈ aMs S
      · rw [if_neg (by simp [cs])]
        exact ⟨S, hC, _, rfl⟩
      · rw [if_pos (decide_eq_false cs)]
        refine atK_of (kept_at hr) (row_d ρ) ?_
        walk_at "tm"
        rw [eo]
        have er : D.tup [.int e, .tup [.int 5, .int 0, .int m, .int 0]] = spT (some e, [5, 0, m, 0]) := rfl
        rw [show oZ (some e) = D.int e from rfl, er, (lkA_put spT cs (some e, [5, 0, m, 0])).1, (lkA_put spT cs (some e, [5, 0, m, 0])).2]
        exact ⟨rfl, rfl, aVs_dP S, by unfold aKs; rw [List.length_map]; omega, _, hC.spot mk cs (by rw [elderK_of hr, eo]), _, rfl⟩
  · rintro env4 ⟨S, hC, x7, rfl⟩
    walk_at "tm"
    exact q W S hC
--@here
def ws__law_due : WS := wSeq (wAsg (wDNew (.k [])) (gtName 3)) (wSeq (wForK 0 (gtName 4) (wSeq (wAsg (wOp gDGet (wVar 0) (wVar 4)) (gtTup 3 (gtCons (gtName 5) (gtCons (gtName 6) (gtCons (gtName 7) (fun ds env Q => ds = [] ∧ Q env)))))) (wCut (wIf (wTest (wOp gDIn (wVar 4) (wVar 1))) (wAsg (wOp gDGet (wVar 1) (wVar 4)) (gtName 5)) (wNext)) (wCut (wIf (wTest (wOp gDIn (wVar 4) (wVar 2))) (wAsg (wOp gDGet (wVar 2) (wVar 4)) (gtTup 2 (gtCons (gtName 6) (gtCons (gtName 7) (fun ds env Q => ds = [] ∧ Q env))))) (wNext)) (wDPut 3 (wTup (wItm (wVar 5) (wItm (wVar 6) (wItm (wVar 7) (wNil))))) (wVar 4)))))) (wRet (wMov 3)))
abbrev n__law_due : Nat := 8
def spec__law_due : SpecT := fun ds _ Q => ∃ (K : Kept) (W : List (Int × Str)) (S : List (Int × Spot)), ds = [.dct false (.k (kKs K)) (kVs K), .dct false (.k (aKs W)) (aVs D.str W), .dct false (.k (aKs S)) (aVs spT S)] ∧ (marksK K).Nodup ∧ K.length ≤ 200 ∧ Q (.dct true (.k (kKs (dueK W S K))) (kVs (dueK W S K)))
theorem len__law_due : ∀ ds px Q, spec__law_due ds px Q → ds.length = 3 := by
  rintro ds px Q ⟨a, b, c, rfl, _⟩; rfl
theorem pure__law_due : ∀ ds px Q, spec__law_due ds px Q → ws__law_due (PEnds.top Q) px (start0 n__law_due ds) := by
  rintro ds px Q ⟨K, W, S, rfl, hn, hl, q⟩
  show ws__law_due (PEnds.top Q) px [some (.dct false (.k (kKs K)) (kVs K)), some (.dct false (.k (aKs W)) (aVs D.str W)), some (.dct false (.k (aKs S)) (aVs spT S)), none, none, none, none, none]
  unfold ws__law_due
  walk_at "tm"
  have ek : (kKs K).map keyD = (marksK K).map D.int := by unfold kKs marksK; rw [List.map_map, List.map_map]; rfl
  have ml : (marksK K).length = K.length := by unfold marksK; rw [List.length_map]
  rw [ek]
  refine ⟨kVs_dirty K, fun i env => ∃ (x4 x5 x6 x7 : Option D), env = [some (.dct false (.k (kKs K)) (kVs K)), some (.dct false (.k (aKs W)) (aVs D.str W)), some (.dct false (.k (aKs S)) (aVs spT S)), some (.dct true (.k (kKs (dueK W S (K.take i)))) (kVs (dueK W S (K.take i)))), x4, x5, x6, x7], ⟨_, _, _, _, rfl⟩, ?_, ?_⟩
  · rintro i d env2 hd ⟨x4, x5, x6, x7, rfl⟩
    obtain ⟨m, hm, rfl⟩ := map_get hd
    have hm' : (K.map (·.1))[i]? = some m := hm
    rw [List.getElem?_map] at hm'
    obtain ⟨p, hp, rfl⟩ := Option.map_eq_some_iff.mp hm'
    have hi := (List.getElem?_eq_some_iff.mp hp).1
    have hr := getR_of hn (show (p.1, p.2) ∈ K from List.mem_of_getElem? hp)
    have htk : K.take (i + 1) = K.take i ++ [p] := by rw [List.take_succ, hp]; rfl
    walk_at "tm"
    refine atK_of (kept_at hr) (row_d p.2) ?_
    walk_at "tm"
    refine ⟨fun env => env = [some (.dct false (.k (kKs K)) (kVs K)), some (.dct false (.k (aKs W)) (aVs D.str W)), some (.dct false (.k (aKs S)) (aVs spT S)), some (.dct true (.k (kKs (dueK W S (K.take i)))) (kVs (dueK W S (K.take i)))), some (.int p.1), some (.str ((lkA W p.1).getD p.2.1)), some (oZ p.2.2.1), some (keyT p.2.2.2)], ?_, ?_⟩
    · rw [lkA_in]
      by_cases cw : p.1 ∈ aMs W
      · obtain ⟨w, ew⟩ := lkA_some cw
        rw [if_pos (decide_eq_true cw), ew]
        exact atK_of (d := .str w) (by rw [lkA_look, ew]; rfl) rfl rfl
      · rw [if_neg (by simp [cw]), lkA_none cw]; rfl
    rintro env3 rfl
    walk_at "tm"
    refine ⟨fun env => env = [some (.dct false (.k (kKs K)) (kVs K)), some (.dct false (.k (aKs W)) (aVs D.str W)), some (.dct false (.k (aKs S)) (aVs spT S)), some (.dct true (.k (kKs (dueK W S (K.take i)))) (kVs (dueK W S (K.take i)))), some (.int p.1), some (.str ((lkA W p.1).getD p.2.1)), some (oZ ((lkA S p.1).getD p.2.2).1), some (keyT ((lkA S p.1).getD p.2.2).2)], ?_, ?_⟩
    · rw [lkA_in]
      by_cases cs : p.1 ∈ aMs S
      · obtain ⟨s, es⟩ := lkA_some cs
        rw [if_pos (decide_eq_true cs), es]
        refine atK_of (d := spT s) (by rw [lkA_look, es]; rfl) (spT_dirty s) ?_
        exact ⟨rfl, rfl, rfl⟩
      · rw [if_neg (by simp [cs]), lkA_none cs]; rfl
    rintro env3 rfl
    walk_at "tm"
    have dl : (dueK W S (K.take i)).length ≤ 200 := by
      unfold dueK
      rw [List.length_map, List.length_take]; omega
    have new : p.1 ∉ marksK (dueK W S (K.take i)) := by
      rw [dueK_marks]
      intro z
      have nd : (marksK (K.take (i + 1))).Nodup := by
        unfold marksK at hn ⊢
        rw [List.map_take]
        exact hn.sublist (List.take_sublist _ _)
      rw [htk] at nd
      unfold marksK at nd z
      rw [List.map_append] at nd
      exact (List.nodup_append.mp nd).2.2 _ z p.1 (by simp) rfl
    have er : D.tup [.str ((lkA W p.1).getD p.2.1), oZ ((lkA S p.1).getD p.2.2).1, keyT ((lkA S p.1).getD p.2.2).2] = krD (dueR W S p.1 p.2) := rfl
    have ea : dueK W S (K.take (i + 1)) = dueK W S (K.take i) ++ [(p.1, dueR W S p.1 p.2)] := by
      rw [htk]; unfold dueK; rw [List.map_append]; rfl
    rw [er, (kept_put new (dueR W S p.1 p.2)).1, (kept_put new (dueR W S p.1 p.2)).2, ea]
    exact ⟨oZ_dirty _, keyT_dirty _, od _ _, kVs_dirty _, by rw [kKs_len]; omega, _, _, _, _, rfl⟩
  · rintro env2 ⟨x4, x5, x6, x7, rfl⟩
    rw [List.length_map, ml, List.take_length]
    walk_at "tm"
    exact q
--@here
/-! what is due -/
def wD (K : Kept) (W : List (Int × Str)) : List Deed := W.map fun p => .word p.1 (wordK K p.1) p.2
def spotM (K : Kept) (m : Int) : Spot := ((getR K m).map (·.2)).getD (none, [])
theorem spotM_of {K : Kept} {m : Int} {r : KRow} (h : getR K m = some r) : spotM K m = r.2 := by unfold spotM; rw [h]; rfl
def sD (K : Kept) (S : List (Int × Spot)) : List Deed := S.map fun p => .spot p.1 (spotM K p.1) p.2
theorem upK_el {K J : Kept} (h : ∀ m, elderK K m = elderK J m) (hm : ∀ m, m ∈ marksK K ↔ m ∈ marksK J) : ∀ n m, upK K n m = upK J n m
  | 0, m => rfl
  | n + 1, m => by
    rw [upK, upK, h m]
    cases elderK J m with
    | none => rfl
    | some x =>
      show (decide (x ∈ marksK K) && upK K n x) = (decide (x ∈ marksK J) && upK J n x)
      rw [upK_el h hm n x]
      congr 1
      exact decide_eq_decide.mpr (hm x)
theorem LawK.up {K : Kept} (h : LawK K) : ∀ (n i : Nat) p, i < n → K[i]? = some p → upK K n p.1 = true
  | 0, i, p, hi, _ => by omega
  | n + 1, i, p, hi, e => by
    have g := getR_of h.nd (show (p.1, p.2) ∈ K from List.mem_of_getElem? e)
    rw [upK, elderK_of g]
    by_cases c : i = 0
    · subst c
      obtain ⟨m, w, K', e0⟩ := h.root
      rw [e0] at e
      cases e
      rfl
    · obtain ⟨j, q, h1, _, h2, h3⟩ := h.el i p (by omega) e
      rw [h3]
      show (decide (q.1 ∈ marksK K) && upK K n q.1) = true
      rw [h.up n j q (by omega) h2, decide_eq_true (show q.1 ∈ marksK K from List.mem_map.mpr ⟨q, List.mem_of_getElem? h2, rfl⟩)]; rfl
theorem LawK.up31 {K : Kept} (h : LawK K) (p) (hp : p ∈ K) : upK K 31 p.1 = true := by
  obtain ⟨i, e⟩ := List.mem_iff_getElem?.mp hp
  have g := getR_of h.nd (show (p.1, p.2) ∈ K from hp)
  rw [upK, elderK_of g]
  by_cases c : i = 0
  · subst c
    obtain ⟨m, w, K', e0⟩ := h.root
    rw [e0] at e
    cases e
    rfl
  · obtain ⟨j, q, _, h1, h2, h3⟩ := h.el i p (by omega) e
    rw [h3]
    show (decide (q.1 ∈ marksK K) && upK K 30 q.1) = true
    rw [h.up 30 j q (by omega) h2, decide_eq_true (show q.1 ∈ marksK K from List.mem_map.mpr ⟨q, List.mem_of_getElem? h2, rfl⟩)]; rfl
theorem LawK.elder0 {K : Kept} (h : LawK K) {i : Nat} {p} (e : K[i]? = some p) : p.2.2.1 = none ↔ i = 0 := by
  constructor
  · intro z
    by_cases c : i = 0
    · exact c
    · obtain ⟨j, q, _, _, _, h3⟩ := h.el i p (by omega) e
      rw [h3] at z; cases z
  · rintro rfl
    obtain ⟨m, w, K', e0⟩ := h.root
    rw [e0] at e
    cases e
    rfl
theorem LawK.roots {K : Kept} (h : LawK K) : ∃ r, (K.filter fun p => p.2.2.1.isNone).map (·.1) = [r] := by
  obtain ⟨m, w, K', e0⟩ := h.root
  refine ⟨m, ?_⟩
  rw [e0, List.filter_cons, if_pos (show ((m, (w, none, [])) : Int × KRow).2.2.1.isNone = true from rfl)]
  have : K'.filter (fun p => p.2.2.1.isNone) = [] := List.filter_eq_nil_iff.mpr fun p hp z => by
    obtain ⟨i, hi⟩ := List.mem_iff_getElem?.mp hp
    have := (h.elder0 (i := i + 1) (p := p) (by rw [e0]; exact hi)).mp (by cases e : p.2.2.1 <;> rw [e] at z <;> first | rfl | cases z)
    omega
  rw [this]; rfl
section
variable {K : Kept} {W : List (Int × Str)} {S : List (Int × Spot)}
theorem due_elder (hK : LawK K) (hC : Chs K W S) {p} (hp : p ∈ K) : (dueR W S p.1 p.2).2.1 = p.2.2.1 := by
  show ((lkA S p.1).getD p.2.2).1 = _
  cases e : lkA S p.1 with
  | none => rfl
  | some s =>
    obtain ⟨_, el, x, h1, h2⟩ := hC.sk _ (lkA_mem e)
    rw [elderK_of (getR_of hK.nd (show (p.1, p.2) ∈ K from hp))] at h1
    show s.1 = _
    rw [show s = _ from h2, h1]
theorem due_elderK (hK : LawK K) (hC : Chs K W S) (m : Int) : elderK (dueK W S K) m = elderK K m := by
  unfold elderK
  rw [dueK_get]
  cases e : getR K m with
  | none => rfl
  | some r => exact due_elder hK hC (getR_mem e)
theorem due_filter (hK : LawK K) (hC : Chs K W S) : (dueK W S K).filter (fun p => p.2.2.1.isNone) = (K.filter fun p => p.2.2.1.isNone).map fun p => (p.1, dueR W S p.1 p.2) := by
  unfold dueK
  rw [List.filter_map]
  congr 1
  refine List.filter_congr fun p hp => ?_
  show (dueR W S p.1 p.2).2.1.isNone = _
  rw [due_elder hK hC hp]
theorem due_root (hK : LawK K) (hC : Chs K W S) {r : Int} (hr : IsRoot K r) : IsRoot (dueK W S K) r := by
  unfold IsRoot at hr ⊢
  rw [due_filter hK hC, List.map_map]
  exact hr
theorem due_key (hK : LawK K) (hC : Chs K W S) {i : Nat} {p} (e : K[i]? = some p) : (i = 0 ∧ (dueR W S p.1 p.2).2.2 = []) ∨ (∃ k : List Int, k ≠ [] ∧ k.length ≤ 2 ∧ (dueR W S p.1 p.2).2.2 = k ++ [p.1]) ∨ ∃ x, (dueR W S p.1 p.2).2.2 = [x, 0, p.1, 0] := by
  show (_ ∧ ((lkA S p.1).getD p.2.2).2 = []) ∨ (∃ k : List Int, k ≠ [] ∧ k.length ≤ 2 ∧ ((lkA S p.1).getD p.2.2).2 = k ++ [p.1]) ∨ ∃ x, ((lkA S p.1).getD p.2.2).2 = [x, 0, p.1, 0]
  cases es : lkA S p.1 with
  | none =>
    by_cases c : i = 0
    · subst c
      obtain ⟨m, w, K', e0⟩ := hK.root
      rw [e0] at e
      cases e
      exact .inl ⟨rfl, rfl⟩
    · exact .inr (.inl (hK.key i p (by omega) e))
  | some s =>
    obtain ⟨_, el, x, _, h2⟩ := hC.sk _ (lkA_mem es)
    exact .inr (.inr ⟨x, by show s.2 = _; rw [show s = _ from h2]⟩)
theorem due_kept (hK : LawK K) (hC : Chs K W S) : isKept (dueK W S K) := by
  have hl := hK.len
  have h0 := hK.len0
  have dl : (dueK W S K).length = K.length := by unfold dueK; rw [List.length_map]
  refine ⟨fun z => by rw [z] at dl; simp at dl; omega, by omega, ?_, ?_, fun p hp => ?_⟩
  · rw [due_filter hK hC, List.length_map]
    obtain ⟨r, hr⟩ := hK.roots
    have := congrArg List.length hr
    rwa [List.length_map] at this
  · unfold dueK
    rw [List.map_map]
    refine List.pairwise_map.mpr (List.pairwise_iff_getElem.mpr fun i j hi hj hij z => ?_)
    have nd := hK.nd
    unfold marksK at nd
    have ne : K[i].1 ≠ K[j].1 := by
      have := List.pairwise_iff_getElem.mp nd i j (by simpa using hi) (by simpa using hj) hij
      simpa using this
    have z2 : (dueR W S K[i].1 K[i].2).2.2 = (dueR W S K[j].1 K[j].2).2.2 := congrArg Prod.snd z
    have ki := due_key hK hC (List.getElem?_eq_getElem hi)
    have kj := due_key hK hC (List.getElem?_eq_getElem hj)
    rw [z2] at ki
    have lenc : ∀ {k : List Int} {m x m2 : Int}, k.length ≤ 2 → k ++ [m] = [x, 0, m2, 0] → False := fun {k m x m2} h e => by
      have := congrArg List.length e
      simp at this; omega
    rcases kj with ⟨c, _⟩ | ⟨k, k1, k2, k3⟩ | ⟨x, k3⟩
    · omega
    · rw [k3] at ki
      rcases ki with ⟨_, c⟩ | ⟨k', _, _, c⟩ | ⟨x, c⟩
      · simp at c
      · have := congrArg List.getLast? c
        simp at this
        exact ne this.symm
      · exact lenc k2 c
    · rw [k3] at ki
      rcases ki with ⟨_, c⟩ | ⟨k', _, k2, c⟩ | ⟨x', c⟩
      · cases c
      · exact lenc k2 c.symm
      · simp at c
        exact ne c.2.symm
  · obtain ⟨q, hq, rfl⟩ := List.mem_map.mp hp
    rw [upK_el (due_elderK hK hC) (fun m => by rw [dueK_marks])]
    exact hK.up31 q hq
theorem due_ok (hK : LawK K) (hC : Chs K W S) : OkK (dueK W S K) := fun p hp => by
  obtain ⟨q, hq, rfl⟩ := List.mem_map.mp hp
  show PyData.strOk ((lkA W q.1).getD q.2.1) = true
  cases e : lkA W q.1 with
  | none => exact hK.wd q hq
  | some w => exact (hC.wk _ (lkA_mem e)).2
theorem eff_w (hC : Chs K W S) (m : Int) (o : Option KRow) (ho : ∀ w, lkA W m = some w → ∃ r, o = some r) : effs (ofM m (wD K W)) o = some (o.map fun r => ((lkA W m).getD r.1, r.2)) := by
  unfold wD
  rw [ofM_dict (fun p : Int × Str => Deed.word p.1 (wordK K p.1) p.2) (fun _ => rfl) m hC.nw]
  cases e : lkA W m with
  | none => cases o <;> rfl
  | some w =>
    obtain ⟨r, rfl⟩ := ho w e
    rfl
theorem eff_s (hC : Chs K W S) (m : Int) (o : Option KRow) (ho : ∀ s, lkA S m = some s → ∃ r, o = some r) : effs (ofM m (sD K S)) o = some (o.map fun r => (r.1, (lkA S m).getD r.2)) := by
  unfold sD
  rw [ofM_dict (fun p : Int × Spot => Deed.spot p.1 (spotM K p.1) p.2) (fun _ => rfl) m hC.ns]
  cases e : lkA S m with
  | none => cases o <;> rfl
  | some w =>
    obtain ⟨r, rfl⟩ := ho w e
    rfl
theorem Chs.ow (h : Chs K W S) : Chs K W [] := ⟨h.nw, List.nodup_nil, h.wk, fun p hp => by cases hp⟩
theorem Chs.os (h : Chs K W S) : Chs K [] S := ⟨List.nodup_nil, h.ns, (fun p hp => by cases hp), h.sk⟩
theorem Chs.tailW {p} (h : Chs K (p :: W) S) : Chs K W S := ⟨(List.nodup_cons.mp h.nw).2, h.ns, fun q hq => h.wk q (List.mem_cons_of_mem _ hq), h.sk⟩
theorem Chs.tailS {p} (h : Chs K W (p :: S)) : Chs K W S := ⟨h.nw, (List.nodup_cons.mp h.ns).2, h.wk, fun q hq => h.sk q (List.mem_cons_of_mem _ hq)⟩
theorem leads_w (hC : Chs K W S) : Leads K (dueK W [] K) (wD K W) := by
  refine ⟨?_, fun d hd => ?_, fun m => ?_⟩
  · have : (wD K W).flatMap factsL = W.map fun p => (p.1, true) := by
      unfold wD
      rw [List.flatMap_map]
      induction W with
      | nil => rfl
      | cons p W ih => rw [List.flatMap_cons, ih hC.tailW]; rfl
    rw [this]
    have := hC.nw
    unfold aMs at this
    refine List.pairwise_map.mpr ((List.pairwise_map.mp this).imp fun h z => h (Prod.mk.inj z).1)
  · obtain ⟨p, hp, rfl⟩ := List.mem_map.mp hd
    obtain ⟨r, hr⟩ := getR_some (hC.wk p hp).1
    show (getR K p.1).any (fun r => decide (r.1 = wordK K p.1)) = true
    rw [hr, wordK_of hr]; simp
  · rw [eff_w hC m _ fun w e => getR_some (hC.wk _ (lkA_mem e)).1, dueK_get]
    rfl
theorem leads_s (hC : Chs K W S) : Leads K (dueK [] S K) (sD K S) := by
  refine ⟨?_, fun d hd => ?_, fun m => ?_⟩
  · have : (sD K S).flatMap factsL = S.map fun p => (p.1, false) := by
      unfold sD
      rw [List.flatMap_map]
      induction S with
      | nil => rfl
      | cons p S ih => rw [List.flatMap_cons, ih hC.tailS]; rfl
    rw [this]
    have := hC.ns
    unfold aMs at this
    refine List.pairwise_map.mpr ((List.pairwise_map.mp this).imp fun h z => h (Prod.mk.inj z).1)
  · obtain ⟨p, hp, rfl⟩ := List.mem_map.mp hd
    obtain ⟨r, hr⟩ := getR_some (hC.sk p hp).1
    show (getR K p.1).any (fun r => decide (r.2 = spotM K p.1)) = true
    rw [hr, spotM_of hr]; simp
  · rw [eff_s hC m _ fun w e => getR_some (hC.sk _ (lkA_mem e)).1, dueK_get]
    rfl
theorem noclash (f : Int × Bool) {d e : Deed} (h1 : (f, d) ∈ fxs (wD K W)) (h2 : (f, e) ∈ fxs (sD K S)) : False := by
  obtain ⟨a1, a2⟩ := fxs_mem.mp h1
  obtain ⟨b1, b2⟩ := fxs_mem.mp h2
  obtain ⟨p, _, rfl⟩ := List.mem_map.mp a1
  obtain ⟨q, _, rfl⟩ := List.mem_map.mp b1
  have e1 : f = (p.1, true) := List.mem_singleton.mp a2
  have e2 : f = (q.1, false) := List.mem_singleton.mp b2
  rw [e1] at e2
  injection e2 with _ h
  cases h
theorem filt_s : (sD K S).filter (fun d => decide (d ∉ wD K W)) = sD K S := List.filter_eq_self.mpr fun d hd => decide_eq_true fun z => by
  obtain ⟨p, _, rfl⟩ := List.mem_map.mp hd
  obtain ⟨q, _, e⟩ := List.mem_map.mp z
  cases e
theorem filt_w : (wD K W).filter (fun d => decide (d ∉ sD K S)) = wD K W := List.filter_eq_self.mpr fun d hd => decide_eq_true fun z => by
  obtain ⟨p, _, rfl⟩ := List.mem_map.mp hd
  obtain ⟨q, _, e⟩ := List.mem_map.mp z
  cases e
theorem due_meets (hK : LawK K) (hC : Chs K W S) {r : Int} (hr : IsRoot K r) : Meet K (dueK W [] K) (dueK [] S K) (dueK W S K) r (wD K W) (sD K S) ∧ Meet K (dueK [] S K) (dueK W [] K) (dueK W S K) r (sD K S) (wD K W) := by
  have nd := hK.nd
  have ndK : ∀ W S, (marksK (dueK W S K)).Nodup := fun W S => by rw [dueK_marks]; exact nd
  have hl := hK.len
  have lw : (wD K W).length ≤ 400 := by have := hC.lw; unfold wD; rw [List.length_map]; omega
  have ls : (sD K S).length ≤ 400 := by have := hC.ls; unfold sD; rw [List.length_map]; omega
  have okw : ∀ d ∈ wD K W, okW d := fun d hd => by
    obtain ⟨p, hp, rfl⟩ := List.mem_map.mp hd
    obtain ⟨h1, h2⟩ := hC.wk p hp
    obtain ⟨ρ, e⟩ := getR_some h1
    exact ⟨by rw [wordK_of e]; exact hK.wd.get e, h2⟩
  have oks : ∀ d ∈ sD K S, okW d := fun d hd => by
    obtain ⟨p, hp, rfl⟩ := List.mem_map.mp hd
    trivial
  have vw : ∀ d ∈ wD K W, live d = true := fun d hd => by
    obtain ⟨p, hp, rfl⟩ := List.mem_map.mp hd
    rfl
  have vs : ∀ d ∈ sD K S, live d = true := fun d hd => by
    obtain ⟨p, hp, rfl⟩ := List.mem_map.mp hd
    rfl
  refine ⟨⟨nd, ndK _ _, ndK _ _, ndK _ _, hK.wd, hr, by omega, lw, ls, okw, oks, vw, vs, leads_w hC, leads_s hC, due_kept hK hC.ow, due_kept hK hC.os, due_root hK hC.ow hr, due_root hK hC.os hr, ?_, fun m => ?_, due_kept hK hC⟩, ⟨nd, ndK _ _, ndK _ _, ndK _ _, hK.wd, hr, by omega, ls, lw, oks, okw, vs, vw, leads_s hC, leads_w hC, due_kept hK hC.os, due_kept hK hC.ow, due_root hK hC.os hr, due_root hK hC.ow hr, ?_, fun m => ?_, due_kept hK hC⟩⟩
  · rintro m ⟨f, d, e, _, h1, h2, _⟩
    exact noclash f h1 h2
  · rw [filt_s, eff_s hC m _ fun s e => by
      obtain ⟨ρ, h⟩ := getR_some (hC.sk _ (lkA_mem e)).1
      exact ⟨_, by rw [dueK_get, h]; rfl⟩]
    rw [dueK_get, dueK_get]
    cases getR K m <;> rfl
  · rintro m ⟨f, d, e, _, h1, h2, _⟩
    exact noclash f h2 h1
  · rw [filt_w, eff_w hC m _ fun s e => by
      obtain ⟨ρ, h⟩ := getR_some (hC.wk _ (lkA_mem e)).1
      exact ⟨_, by rw [dueK_get, h]; rfl⟩]
    rw [dueK_get, dueK_get]
    cases getR K m <;> rfl
end
--@here
def ws__law_good : WS := wSeq (wIf (wOr (wNot (wTest (wB gIsi (wArg (wVar 0) (wArg (wC (.ty "tuple")) (wNil)))))) (wTest (wOp gNe (wB gLen (wArg (wVar 0) (wNil))) (wC (.int 2))))) (wRet (wC (.bl false))) (wNext)) (wSeq (wIf (wOr (wNot (wTest (wB gIsi (wArg (wOp gIx (wVar 0) (wC (.int 0))) (wArg (wC (.ty "dict")) (wNil)))))) (wNot (wTest (wB gIsi (wArg (wOp gIx (wVar 0) (wC (.int 1))) (wArg (wC (.ty "list")) (wNil))))))) (wRet (wC (.bl false))) (wNext)) (wRet (wAndV (wOp gDEq (wOp gIx (wVar 0) (wC (.int 0))) (wVar 1)) (wOp gEq (wOp gIx (wVar 0) (wC (.int 1))) (wLst (wNil))))))
abbrev n__law_good : Nat := 2
def spec__law_good : SpecT := fun ds _ Q => ∃ (K B : Kept), ds = [.tup [.dct false (.k (kKs K)) (kVs K), .lst false []], .dct false (.k (kKs B)) (kVs B)] ∧ Same K B ∧ OkK B ∧ Q (.bl true)
theorem len__law_good : ∀ ds px Q, spec__law_good ds px Q → ds.length = 2 := by
  rintro ds px Q ⟨a, b, rfl, _⟩; rfl
theorem pure__law_good : ∀ ds px Q, spec__law_good ds px Q → ws__law_good (PEnds.top Q) px (start0 n__law_good ds) := by
  rintro ds px Q ⟨K, B, rfl, hs, ok, q⟩
  show ws__law_good (PEnds.top Q) px [some (.tup [.dct false (.k (kKs K)) (kVs K), .lst false []]), some (.dct false (.k (kKs B)) (kVs B))]
  unfold ws__law_good
  walk_at "tm"
  have q1 : ∀ o, shD (.lst o []) = true := fun o => shD_of 64 rfl (by decide)
  have q2 : eqD (.lst false []) (.lst true []) = true := eqD_true rfl rfl rfl
  refine ⟨kVs_sh (hs.ok ok), kVs_sh ok, ?_⟩
  rw [hs.dct, if_pos rfl, q2]
  exact ⟨q1 _, q1 _, q⟩
--@here
def ws_law : WS := wSeq (wAsg (wCall0 spec__law_kept [] (wArg (wVar 0) (wNil))) (gtName 1)) (wSeq (wAsg (wCall0 spec__law_changes [] (wArg (wVar 0) (wArg (wVar 1) (wNil)))) (gtTup 2 (gtCons (gtName 2) (gtCons (gtName 3) (fun ds env Q => ds = [] ∧ Q env))))) (wSeq (wFrS 1 (wFrS 2 (wFrS 3 (wAsg (wLcK 2 (gtName 10) wYes (wFzE (wMk "Word" ["mark", "old", "new"] (wArg (wVar 10) (wArg (wOp gIx (wOp gDGet (wVar 1) (wVar 10)) (wC (.int 0))) (wArg (wOp gDGet (wVar 2) (wVar 10)) (wNil)))))) [10]) (gtName 4))))) (wSeq (wFrS 4 (wAsg (wLcK 3 (gtName 10) wYes (wFzE (wMk "Spot" ["mark", "old", "new"] (wArg (wVar 10) (wArg (wSl (wOp gDGet (wVar 1) (wVar 10)) (wPart (wC (.int 1))) (wNo)) (wArg (wOp gDGet (wVar 3) (wVar 10)) (wNil)))))) [10]) (gtName 5))) (wSeq (wFrS 5 (wAsg (wCall0 spec__law_due [] (wArg (wVar 1) (wArg (wVar 2) (wArg (wVar 3) (wNil))))) (gtName 6))) (wSeq (wAsg (wB gDCopy (wArg (wVar 1) (wNil))) (gtName 7)) (wSeq (wAsg (wB gList (wArg (wVar 4) (wNil))) (gtName 8)) (wSeq (wAsg (wB gList (wArg (wVar 5) (wNil))) (gtName 9)) (wSeq (wFrS 8 (wFrS 9 (wFrS 6 (wIf (wNot (wTest (wCall0 spec__law_good [] (wArg (wCall0 spec_meet_of [] (wArg (wVar 7) (wArg (wVar 8) (wArg (wVar 9) (wNil))))) (wArg (wVar 6) (wNil)))))) (wRet (wC (.bl false))) (wNext))))) (wSeq (wIf (wNot (wTest (wCall0 spec__law_good [] (wArg (wCall0 spec_meet_of [] (wArg (wVar 7) (wArg (wVar 9) (wArg (wVar 8) (wNil))))) (wArg (wVar 6) (wNil)))))) (wRet (wC (.bl false))) (wNext)) (wSeq (wIf (wOr (wTest (wOp gDNe (wVar 7) (wVar 1))) (wTest (wOp gNe (wLc (itsL (wVar 8)) (gtName 11) wYes (wFld clNames (wVar 11) "mark") [11]) (wB gDList (wArg (wVar 2) (wNil)))))) (wRet (wC (.bl false))) (wNext)) (wRet (wOp gEq (wLc (itsL (wVar 9)) (gtName 11) wYes (wFld clNames (wVar 11) "mark") [11]) (wB gDList (wArg (wVar 3) (wNil)))))))))))))))
abbrev n_law : Nat := 12
def spec_law : SpecT := specLaw
theorem len_law : ∀ ds px Q, spec_law ds px Q → ds.length = 1 := len_specLaw
theorem pure_law : ∀ ds px Q, spec_law ds px Q → ws_law (PEnds.top Q) px (start0 n_law ds) := by
  rintro ds px Q ⟨ns, rfl, hl, hb, q⟩
  show ws_law (PEnds.top Q) px [some (.seq (ns.map D.int)), none, none, none, none, none, none, none, none, none, none, none]
  unfold ws_law
  walk_at "tm"
  refine ⟨ns, rfl, hl, fun K hK => ?_⟩
  simp only [fz, kVs_fz]
  refine ⟨ns, K, rfl, hl, hK, fun W S hC => ?_⟩
  obtain ⟨r, hr⟩ := hK.roots
  obtain ⟨M1, M2⟩ := due_meets hK hC hr
  have lw := hC.lw
  have ls := hC.ls
  have kl := hK.len
  refine ⟨.inr (by simp only [selfc, selfcs, aVs_sS, aVs_sP]; rfl), rfl, rfl, ?_⟩
  walk_at "tm"
  simp only [kVs_fz, aVs_fzS, aVs_fzP]
  have eW : (aKs W).map keyD = W.map fun p => D.int p.1 := by unfold aKs; rw [List.map_map]; rfl
  have eS : (aKs S).map keyD = S.map fun p => D.int p.1 := by unfold aKs; rw [List.map_map]; rfl
  rw [eW, eS]
  refine ⟨aVs_dS W, lcW_map (f := fun p : Int × Str => D.int p.1) (fun _ => true) (fun p => deedD (.word p.1 (wordK K p.1) p.2)) W [] (by simp; omega) ?_ ?_⟩
  · rintro p hp Y N hy hn
    obtain ⟨ρ, hρ⟩ := getR_some (hC.wk p hp).1
    have e := lkA_of hC.nw (show (p.1, p.2) ∈ W from hp)
    walk_at "tm"
    refine atK_of (kept_at hρ) (row_d ρ) ?_
    walk_at "tm"
    refine atK_of (d := .str p.2) (by rw [lkA_look, e]; rfl) rfl ?_
    walk_at "tm"
    rw [wordK_of hρ] at hy
    exact hy rfl
  rw [filter_yes, List.nil_append]
  have ew : (W.map fun p => deedD (.word p.1 (wordK K p.1) p.2)) = (wD K W).map deedD := by unfold wD; rw [List.map_map]; rfl
  rw [ew]
  refine ⟨aVs_dP S, lcW_map (f := fun p : Int × Spot => D.int p.1) (fun _ => true) (fun p => deedD (.spot p.1 (spotM K p.1) p.2)) S [] (by simp; omega) ?_ ?_⟩
  · rintro p hp Y N hy hn
    obtain ⟨ρ, hρ⟩ := getR_some (hC.sk p hp).1
    have e := lkA_of hC.ns (show (p.1, p.2) ∈ S from hp)
    walk_at "tm"
    refine atK_of (kept_at hρ) (row_d ρ) ?_
    walk_at "tm"
    refine ⟨od _ _, atK_of (d := spT p.2) (by rw [lkA_look, e]; rfl) (spT_dirty _) ?_⟩
    walk_at "tm"
    rw [row_tailL, spT_fz]
    simp only [fzs, oZ_fz, keyT_fz]
    refine ⟨by simp only [dirtys, oZ_dirty, keyT_dirty, spT_dirty, Bool.or_self], ?_⟩
    rw [spotM_of hρ] at hy
    exact hy rfl
  rw [filter_yes, List.nil_append]
  have es : (S.map fun p => deedD (.spot p.1 (spotM K p.1) p.2)) = (sD K S).map deedD := by unfold sD; rw [List.map_map]; rfl
  rw [es]
  simp only [deeds_fz]
  refine ⟨K, W, S, rfl, hK.nd, by omega, kVs_dirty K, deeds_dirty _, deeds_dirty _, ?_⟩
  refine ⟨K, _, _, _, r, _, _, rfl, M1, fun C hs => ⟨by simp only [selfc, selfcs, kVs_selfc]; rfl, ?_⟩⟩
  walk_at "tm"
  simp only [kVs_fz]
  have okB := due_ok hK hC
  refine ⟨C, _, rfl, hs, okB, rfl, ?_⟩
  walk_at "tm"
  refine ⟨K, _, _, _, r, _, _, rfl, M2, fun C2 hs2 => ⟨by simp only [selfc, selfcs, kVs_selfc]; rfl, ?_⟩⟩
  walk_at "tm"
  simp only [kVs_fz]
  refine ⟨C2, _, rfl, hs2, okB, rfl, ?_⟩
  walk_at "tm"
  refine ⟨kVs_sh hK.wd, kVs_sh hK.wd, ?_⟩
  rw [dct_self hK.nd, if_neg (by simp)]
  have mw : (wD K W).map (fun d => D.int (markOf d)) = W.map fun p => D.int p.1 := by unfold wD; rw [List.map_map]; rfl
  have msd : (sD K S).map (fun d => D.int (markOf d)) = S.map fun p => D.int p.1 := by unfold sD; rw [List.map_map]; rfl
  have iw : (W.map fun p => D.int p.1) = (aMs W).map D.int := by unfold aMs; rw [List.map_map]; rfl
  have is : (S.map fun p => D.int p.1) = (aMs S).map D.int := by unfold aMs; rw [List.map_map]; rfl
  have lwD : (wD K W).length ≤ 400 := M1.lx
  have lsD : (sD K S).length ≤ 400 := M1.ly
  refine ⟨deeds_dirty _, lcW_map (f := deedD) (fun _ => true) (fun d => D.int (markOf d)) (wD K W) [] (by simp; omega) ?_ ?_⟩
  · rintro d hd Y N hy hn
    walk_at "tm"
    obtain ⟨p, _, rfl⟩ := List.mem_map.mp hd
    exact ⟨by decide +kernel, atK_of (d := .int p.1) rfl rfl ⟨rfl, hy rfl⟩⟩
  rw [filter_yes, List.nil_append, mw, iw]
  refine ⟨ints_shD _, ints_shD _, ?_⟩
  rw [ints_eqD, if_neg (by simp)]
  refine ⟨deeds_dirty _, lcW_map (f := deedD) (fun _ => true) (fun d => D.int (markOf d)) (sD K S) [] (by simp; omega) ?_ ?_⟩
  · rintro d hd Y N hy hn
    walk_at "tm"
    obtain ⟨p, _, rfl⟩ := List.mem_map.mp hd
    exact ⟨by decide +kernel, atK_of (d := .int p.1) rfl rfl ⟨rfl, hy rfl⟩⟩
  rw [filter_yes, List.nil_append, msd, is]
  refine ⟨ints_shD _, ints_shD _, ?_⟩
  rw [ints_eqD, decide_eq_true rfl]
  exact q


/-! ### the text -/
def topS (i : Nat) : Stmt := PySem.Challenge.pw_treemend_k51_words_meet_spots.main.body.getD i (.Pass ⟨0, 0, 0, 0⟩)
abbrev s_Word_facts : Stmt := inClass (topS 3) 1
abbrev N_Word_facts : List Str := ["self"]
abbrev P_Word_facts : List Str := ["self"]
theorem sc_Word_facts : FnScope N_Word_facts P_Word_facts (defScope s_Word_facts) := ⟨rfl, rfl, rfl, by decide +kernel, rfl, by decide +kernel, by decide +kernel⟩
abbrev s_Word_fits : Stmt := inClass (topS 3) 2
abbrev N_Word_fits : List Str := ["self", "kept"]
abbrev P_Word_fits : List Str := ["self", "kept"]
theorem sc_Word_fits : FnScope N_Word_fits P_Word_fits (defScope s_Word_fits) := ⟨rfl, rfl, rfl, by decide +kernel, rfl, by decide +kernel, by decide +kernel⟩
abbrev s_Word_put_on : Stmt := inClass (topS 3) 3
abbrev N_Word_put_on : List Str := ["self", "kept", "after"]
abbrev P_Word_put_on : List Str := ["self", "kept"]
theorem sc_Word_put_on : FnScope N_Word_put_on P_Word_put_on (defScope s_Word_put_on) := ⟨rfl, rfl, rfl, by decide +kernel, rfl, by decide +kernel, by decide +kernel⟩
abbrev s_Word_told : Stmt := inClass (topS 3) 5
abbrev N_Word_told : List Str := ["self"]
abbrev P_Word_told : List Str := ["self"]
theorem sc_Word_told : FnScope N_Word_told P_Word_told (defScope s_Word_told) := ⟨rfl, rfl, rfl, by decide +kernel, rfl, by decide +kernel, by decide +kernel⟩
abbrev s_Spot_facts : Stmt := inClass (topS 4) 1
abbrev N_Spot_facts : List Str := ["self"]
abbrev P_Spot_facts : List Str := ["self"]
theorem sc_Spot_facts : FnScope N_Spot_facts P_Spot_facts (defScope s_Spot_facts) := ⟨rfl, rfl, rfl, by decide +kernel, rfl, by decide +kernel, by decide +kernel⟩
abbrev s_Spot_fits : Stmt := inClass (topS 4) 2
abbrev N_Spot_fits : List Str := ["self", "kept"]
abbrev P_Spot_fits : List Str := ["self", "kept"]
theorem sc_Spot_fits : FnScope N_Spot_fits P_Spot_fits (defScope s_Spot_fits) := ⟨rfl, rfl, rfl, by decide +kernel, rfl, by decide +kernel, by decide +kernel⟩
abbrev s_Spot_put_on : Stmt := inClass (topS 4) 3
abbrev N_Spot_put_on : List Str := ["self", "kept", "after"]
abbrev P_Spot_put_on : List Str := ["self", "kept"]
theorem sc_Spot_put_on : FnScope N_Spot_put_on P_Spot_put_on (defScope s_Spot_put_on) := ⟨rfl, rfl, rfl, by decide +kernel, rfl, by decide +kernel, by decide +kernel⟩
abbrev s_Spot_told : Stmt := inClass (topS 4) 5
abbrev N_Spot_told : List Str := ["self"]
abbrev P_Spot_told : List Str := ["self"]
theorem sc_Spot_told : FnScope N_Spot_told P_Spot_told (defScope s_Spot_told) := ⟨rfl, rfl, rfl, by decide +kernel, rfl, by decide +kernel, by decide +kernel⟩
abbrev s_leads_up : Stmt := topS 13
abbrev N_leads_up : List Str := ["kept", "mark", "here", "step"]
abbrev P_leads_up : List Str := ["kept", "mark"]
theorem sc_leads_up : FnScope N_leads_up P_leads_up (defScope s_leads_up) := ⟨rfl, rfl, rfl, by decide +kernel, rfl, by decide +kernel, by decide +kernel⟩
abbrev s_is_kept : Stmt := topS 14
abbrev N_is_kept : List Str := ["kept", "spots", "mark", "row"]
abbrev P_is_kept : List Str := ["kept"]
theorem sc_is_kept : FnScope N_is_kept P_is_kept (defScope s_is_kept) := ⟨rfl, rfl, rfl, by decide +kernel, rfl, by decide +kernel, by decide +kernel⟩
abbrev s_root_mark : Stmt := topS 16
abbrev N_root_mark : List Str := ["kept", "mark"]
abbrev P_root_mark : List Str := ["kept"]
theorem sc_root_mark : FnScope N_root_mark P_root_mark (defScope s_root_mark) := ⟨rfl, rfl, rfl, by decide +kernel, rfl, by decide +kernel, by decide +kernel⟩
abbrev s_check_facts : Stmt := topS 17
abbrev N_check_facts : List Str := ["deeds", "facts", "deed", "fact"]
abbrev P_check_facts : List Str := ["deeds"]
theorem sc_check_facts : FnScope N_check_facts P_check_facts (defScope s_check_facts) := ⟨rfl, rfl, rfl, by decide +kernel, rfl, by decide +kernel, by decide +kernel⟩
abbrev s_done_on : Stmt := topS 18
abbrev N_done_on : List Str := ["kept", "deeds", "deed", "after"]
abbrev P_done_on : List Str := ["kept", "deeds"]
theorem sc_done_on : FnScope N_done_on P_done_on (defScope s_done_on) := ⟨rfl, rfl, rfl, by decide +kernel, rfl, by decide +kernel, by decide +kernel⟩
abbrev s_deeds_beyond : Stmt := topS 20
abbrev N_deeds_beyond : List Str := ["one", "other", "known", "deed"]
abbrev P_deeds_beyond : List Str := ["one", "other"]
theorem sc_deeds_beyond : FnScope N_deeds_beyond P_deeds_beyond (defScope s_deeds_beyond) := ⟨rfl, rfl, rfl, by decide +kernel, rfl, by decide +kernel, by decide +kernel⟩
abbrev s_facts_of : Stmt := topS 21
abbrev N_facts_of : List Str := ["deeds", "facts", "deed", "fact"]
abbrev P_facts_of : List Str := ["deeds"]
theorem sc_facts_of : FnScope N_facts_of P_facts_of (defScope s_facts_of) := ⟨rfl, rfl, rfl, by decide +kernel, rfl, by decide +kernel, by decide +kernel⟩
abbrev s_both_marks : Stmt := topS 22
abbrev N_both_marks : List Str := ["one", "other", "mine", "theirs", "found", "fact", "told"]
abbrev P_both_marks : List Str := ["one", "other"]
theorem sc_both_marks : FnScope N_both_marks P_both_marks (defScope s_both_marks) := ⟨rfl, rfl, rfl, by decide +kernel, rfl, by decide +kernel, by decide +kernel⟩
abbrev s_is_lost : Stmt := topS 23
abbrev N_is_lost : List Str := ["made", "mark", "elder"]
abbrev P_is_lost : List Str := ["made", "mark"]
theorem sc_is_lost : FnScope N_is_lost P_is_lost (defScope s_is_lost) := ⟨rfl, rfl, rfl, by decide +kernel, rfl, by decide +kernel, by decide +kernel⟩
abbrev s_lost_marks : Stmt := topS 24
abbrev N_lost_marks : List Str := ["made", "mark"]
abbrev P_lost_marks : List Str := ["made"]
theorem sc_lost_marks : FnScope N_lost_marks P_lost_marks (defScope s_lost_marks) := ⟨rfl, rfl, rfl, by decide +kernel, rfl, by decide +kernel, by decide +kernel⟩
abbrev s_key_marks : Stmt := topS 25
abbrev N_key_marks : List Str := ["made", "seen", "found", "mark"]
abbrev P_key_marks : List Str := ["made"]
theorem sc_key_marks : FnScope N_key_marks P_key_marks (defScope s_key_marks) := ⟨rfl, rfl, rfl, by decide +kernel, rfl, by decide +kernel, by decide +kernel⟩
abbrev s_ring_marks : Stmt := topS 26
abbrev N_ring_marks : List Str := ["made", "walked", "found", "mark", "way", "here"]
abbrev P_ring_marks : List Str := ["made"]
theorem sc_ring_marks : FnScope N_ring_marks P_ring_marks (defScope s_ring_marks) := ⟨rfl, rfl, rfl, by decide +kernel, rfl, by decide +kernel, by decide +kernel⟩
abbrev s_meet_of : Stmt := topS 27
abbrev N_meet_of : List Str := ["kept", "one", "other", "mine", "theirs", "made", "found", "deed", "mark", "kind"]
abbrev P_meet_of : List Str := ["kept", "one", "other"]
theorem sc_meet_of : FnScope N_meet_of P_meet_of (defScope s_meet_of) := ⟨rfl, rfl, rfl, by decide +kernel, rfl, by decide +kernel, by decide +kernel⟩
abbrev s__law_word : Stmt := topS 29
abbrev N__law_word : List Str := ["number", "word", "k"]
abbrev P__law_word : List Str := ["number"]
theorem sc__law_word : FnScope N__law_word P__law_word (defScope s__law_word) := ⟨rfl, rfl, rfl, by decide +kernel, rfl, by decide +kernel, by decide +kernel⟩
abbrev s__law_mark : Stmt := topS 30
abbrev N__law_mark : List Str := ["cell", "kept", "mark"]
abbrev P__law_mark : List Str := ["cell", "kept"]
theorem sc__law_mark : FnScope N__law_mark P__law_mark (defScope s__law_mark) := ⟨rfl, rfl, rfl, by decide +kernel, rfl, by decide +kernel, by decide +kernel⟩
abbrev s__law_kept : Stmt := topS 31
abbrev N__law_kept : List Str := ["script", "root", "kept", "cell", "number", "mark", "elder", "key", "k"]
abbrev P__law_kept : List Str := ["script"]
theorem sc__law_kept : FnScope N__law_kept P__law_kept (defScope s__law_kept) := ⟨rfl, rfl, rfl, by decide +kernel, rfl, by decide +kernel, by decide +kernel⟩
abbrev s__law_changes : Stmt := topS 32
abbrev N__law_changes : List Str := ["script", "kept", "words", "spots", "marks", "cell", "number", "mark", "word", "elder"]
abbrev P__law_changes : List Str := ["script", "kept"]
theorem sc__law_changes : FnScope N__law_changes P__law_changes (defScope s__law_changes) := ⟨rfl, rfl, rfl, by decide +kernel, rfl, by decide +kernel, by decide +kernel⟩
abbrev s__law_due : Stmt := topS 33
abbrev N__law_due : List Str := ["kept", "words", "spots", "due", "mark", "word", "elder", "key"]
abbrev P__law_due : List Str := ["kept", "words", "spots"]
theorem sc__law_due : FnScope N__law_due P__law_due (defScope s__law_due) := ⟨rfl, rfl, rfl, by decide +kernel, rfl, by decide +kernel, by decide +kernel⟩
abbrev s__law_good : Stmt := topS 34
abbrev N__law_good : List Str := ["found", "due"]
abbrev P__law_good : List Str := ["found", "due"]
theorem sc__law_good : FnScope N__law_good P__law_good (defScope s__law_good) := ⟨rfl, rfl, rfl, by decide +kernel, rfl, by decide +kernel, by decide +kernel⟩
abbrev s_law : Stmt := topS 35
abbrev N_law : List Str := ["script", "kept", "words", "spots", "one", "other", "due", "handed", "mine", "theirs", "mark", "deed"]
abbrev P_law : List Str := ["script"]
theorem sc_law : FnScope N_law P_law (defScope s_law) := ⟨rfl, rfl, rfl, by decide +kernel, rfl, by decide +kernel, by decide +kernel⟩
abbrev si_Word : Stmt := inClass (topS 3) 0
abbrev Ni_Word : List Str := ["self", "mark", "old", "new"]
abbrev Pi_Word : List Str := ["self", "mark", "old", "new"]
theorem sci_Word : FnScope Ni_Word Pi_Word (defScope si_Word) := ⟨rfl, rfl, rfl, by decide +kernel, rfl, by decide +kernel, by decide +kernel⟩
abbrev si_Spot : Stmt := inClass (topS 4) 0
abbrev Ni_Spot : List Str := ["self", "mark", "old", "new"]
abbrev Pi_Spot : List Str := ["self", "mark", "old", "new"]
theorem sci_Spot : FnScope Ni_Spot Pi_Spot (defScope si_Spot) := ⟨rfl, rfl, rfl, by decide +kernel, rfl, by decide +kernel, by decide +kernel⟩
abbrev si_Deed : Stmt := inClass (topS 2) 0
abbrev Ni_Deed : List Str := ["self", "mark"]
abbrev Pi_Deed : List Str := ["self", "mark"]
theorem sci_Deed : FnScope Ni_Deed Pi_Deed (defScope si_Deed) := ⟨rfl, rfl, rfl, by decide +kernel, rfl, by decide +kernel, by decide +kernel⟩
structure Txt (K : PySem.W.Frag) (mg : Str → Option Value) where
  a_Word_facts : Addr
  fd_Word_facts : FuncData
  F_Word_facts : Fun K "facts" "Word.facts" s_Word_facts a_Word_facts fd_Word_facts
  b_Word_facts : Binds K fd_Word_facts P_Word_facts []
  a_Word_fits : Addr
  fd_Word_fits : FuncData
  F_Word_fits : Fun K "fits" "Word.fits" s_Word_fits a_Word_fits fd_Word_fits
  b_Word_fits : Binds K fd_Word_fits P_Word_fits []
  a_Word_put_on : Addr
  fd_Word_put_on : FuncData
  F_Word_put_on : Fun K "put_on" "Word.put_on" s_Word_put_on a_Word_put_on fd_Word_put_on
  b_Word_put_on : Binds K fd_Word_put_on P_Word_put_on []
  a_Word_told : Addr
  fd_Word_told : FuncData
  F_Word_told : Fun K "told" "Word.told" s_Word_told a_Word_told fd_Word_told
  b_Word_told : Binds K fd_Word_told P_Word_told []
  a_Spot_facts : Addr
  fd_Spot_facts : FuncData
  F_Spot_facts : Fun K "facts" "Spot.facts" s_Spot_facts a_Spot_facts fd_Spot_facts
  b_Spot_facts : Binds K fd_Spot_facts P_Spot_facts []
  a_Spot_fits : Addr
  fd_Spot_fits : FuncData
  F_Spot_fits : Fun K "fits" "Spot.fits" s_Spot_fits a_Spot_fits fd_Spot_fits
  b_Spot_fits : Binds K fd_Spot_fits P_Spot_fits []
  a_Spot_put_on : Addr
  fd_Spot_put_on : FuncData
  F_Spot_put_on : Fun K "put_on" "Spot.put_on" s_Spot_put_on a_Spot_put_on fd_Spot_put_on
  b_Spot_put_on : Binds K fd_Spot_put_on P_Spot_put_on []
  a_Spot_told : Addr
  fd_Spot_told : FuncData
  F_Spot_told : Fun K "told" "Spot.told" s_Spot_told a_Spot_told fd_Spot_told
  b_Spot_told : Binds K fd_Spot_told P_Spot_told []
  a_leads_up : Addr
  fd_leads_up : FuncData
  F_leads_up : Fun K "leads_up" "leads_up" s_leads_up a_leads_up fd_leads_up
  m_leads_up : mg "leads_up" = some (.ref a_leads_up)
  b_leads_up : Binds K fd_leads_up P_leads_up []
  a_is_kept : Addr
  fd_is_kept : FuncData
  F_is_kept : Fun K "is_kept" "is_kept" s_is_kept a_is_kept fd_is_kept
  m_is_kept : mg "is_kept" = some (.ref a_is_kept)
  b_is_kept : Binds K fd_is_kept P_is_kept []
  a_root_mark : Addr
  fd_root_mark : FuncData
  F_root_mark : Fun K "root_mark" "root_mark" s_root_mark a_root_mark fd_root_mark
  m_root_mark : mg "root_mark" = some (.ref a_root_mark)
  b_root_mark : Binds K fd_root_mark P_root_mark []
  a_check_facts : Addr
  fd_check_facts : FuncData
  F_check_facts : Fun K "check_facts" "check_facts" s_check_facts a_check_facts fd_check_facts
  m_check_facts : mg "check_facts" = some (.ref a_check_facts)
  b_check_facts : Binds K fd_check_facts P_check_facts []
  a_done_on : Addr
  fd_done_on : FuncData
  F_done_on : Fun K "done_on" "done_on" s_done_on a_done_on fd_done_on
  m_done_on : mg "done_on" = some (.ref a_done_on)
  b_done_on : Binds K fd_done_on P_done_on []
  a_deeds_beyond : Addr
  fd_deeds_beyond : FuncData
  F_deeds_beyond : Fun K "deeds_beyond" "deeds_beyond" s_deeds_beyond a_deeds_beyond fd_deeds_beyond
  m_deeds_beyond : mg "deeds_beyond" = some (.ref a_deeds_beyond)
  b_deeds_beyond : Binds K fd_deeds_beyond P_deeds_beyond []
  a_facts_of : Addr
  fd_facts_of : FuncData
  F_facts_of : Fun K "facts_of" "facts_of" s_facts_of a_facts_of fd_facts_of
  m_facts_of : mg "facts_of" = some (.ref a_facts_of)
  b_facts_of : Binds K fd_facts_of P_facts_of []
  a_both_marks : Addr
  fd_both_marks : FuncData
  F_both_marks : Fun K "both_marks" "both_marks" s_both_marks a_both_marks fd_both_marks
  m_both_marks : mg "both_marks" = some (.ref a_both_marks)
  b_both_marks : Binds K fd_both_marks P_both_marks []
  a_is_lost : Addr
  fd_is_lost : FuncData
  F_is_lost : Fun K "is_lost" "is_lost" s_is_lost a_is_lost fd_is_lost
  m_is_lost : mg "is_lost" = some (.ref a_is_lost)
  b_is_lost : Binds K fd_is_lost P_is_lost []
  a_lost_marks : Addr
  fd_lost_marks : FuncData
  F_lost_marks : Fun K "lost_marks" "lost_marks" s_lost_marks a_lost_marks fd_lost_marks
  m_lost_marks : mg "lost_marks" = some (.ref a_lost_marks)
  b_lost_marks : Binds K fd_lost_marks P_lost_marks []
  a_key_marks : Addr
  fd_key_marks : FuncData
  F_key_marks : Fun K "key_marks" "key_marks" s_key_marks a_key_marks fd_key_marks
  m_key_marks : mg "key_marks" = some (.ref a_key_marks)
  b_key_marks : Binds K fd_key_marks P_key_marks []
  a_ring_marks : Addr
  fd_ring_marks : FuncData
  F_ring_marks : Fun K "ring_marks" "ring_marks" s_ring_marks a_ring_marks fd_ring_marks
  m_ring_marks : mg "ring_marks" = some (.ref a_ring_marks)
  b_ring_marks : Binds K fd_ring_marks P_ring_marks []
  a_meet_of : Addr
  fd_meet_of : FuncData
  F_meet_of : Fun K "meet_of" "meet_of" s_meet_of a_meet_of fd_meet_of
  m_meet_of : mg "meet_of" = some (.ref a_meet_of)
  b_meet_of : Binds K fd_meet_of P_meet_of []
  a__law_word : Addr
  fd__law_word : FuncData
  F__law_word : Fun K "_law_word" "_law_word" s__law_word a__law_word fd__law_word
  m__law_word : mg "_law_word" = some (.ref a__law_word)
  b__law_word : Binds K fd__law_word P__law_word []
  a__law_mark : Addr
  fd__law_mark : FuncData
  F__law_mark : Fun K "_law_mark" "_law_mark" s__law_mark a__law_mark fd__law_mark
  m__law_mark : mg "_law_mark" = some (.ref a__law_mark)
  b__law_mark : Binds K fd__law_mark P__law_mark []
  a__law_kept : Addr
  fd__law_kept : FuncData
  F__law_kept : Fun K "_law_kept" "_law_kept" s__law_kept a__law_kept fd__law_kept
  m__law_kept : mg "_law_kept" = some (.ref a__law_kept)
  b__law_kept : Binds K fd__law_kept P__law_kept []
  a__law_changes : Addr
  fd__law_changes : FuncData
  F__law_changes : Fun K "_law_changes" "_law_changes" s__law_changes a__law_changes fd__law_changes
  m__law_changes : mg "_law_changes" = some (.ref a__law_changes)
  b__law_changes : Binds K fd__law_changes P__law_changes []
  a__law_due : Addr
  fd__law_due : FuncData
  F__law_due : Fun K "_law_due" "_law_due" s__law_due a__law_due fd__law_due
  m__law_due : mg "_law_due" = some (.ref a__law_due)
  b__law_due : Binds K fd__law_due P__law_due []
  a__law_good : Addr
  fd__law_good : FuncData
  F__law_good : Fun K "_law_good" "_law_good" s__law_good a__law_good fd__law_good
  m__law_good : mg "_law_good" = some (.ref a__law_good)
  b__law_good : Binds K fd__law_good P__law_good []
  a_law : Addr
  fd_law : FuncData
  F_law : Fun K "law" "law" s_law a_law fd_law
  m_law : mg "law" = some (.ref a_law)
  b_law : Binds K fd_law P_law []
  a_Word : Addr
  ai_Word : Addr
  fdi_Word : FuncData
  mc_Word : mg "Word" = some (.ref a_Word)
  Fi_Word : Fun K "__init__" "Word.__init__" si_Word ai_Word fdi_Word
  bi_Word : Binds K fdi_Word Pi_Word []
  a_Spot : Addr
  ai_Spot : Addr
  fdi_Spot : FuncData
  mc_Spot : mg "Spot" = some (.ref a_Spot)
  Fi_Spot : Fun K "__init__" "Spot.__init__" si_Spot ai_Spot fdi_Spot
  bi_Spot : Binds K fdi_Spot Pi_Spot []
  a_Deed : Addr
  ai_Deed : Addr
  fdi_Deed : FuncData
  mc_Deed : mg "Deed" = some (.ref a_Deed)
  Fi_Deed : Fun K "__init__" "Deed.__init__" si_Deed ai_Deed fdi_Deed
  bi_Deed : Binds K fdi_Deed Pi_Deed []
  cr_Deed : ClX.CRead K a_Deed (.type "type")
  cv_Deed : ClX.CVal K a_Deed (.type "type") "__init__" (.ref ai_Deed) (.ref ai_Deed)
  nc_Word : PySem.W.nsIn K mainGlobals "Word" = some (some (.ref a_Word))
  mk_Word : Mk K a_Word ai_Word
  mt_Word_facts : Meth K a_Word "facts" a_Word_facts
  mt_Word_fits : Meth K a_Word "fits" a_Word_fits
  mt_Word_put_on : Meth K a_Word "put_on" a_Word_put_on
  mt_Word_told : Meth K a_Word "told" a_Word_told
  nc_Spot : PySem.W.nsIn K mainGlobals "Spot" = some (some (.ref a_Spot))
  mk_Spot : Mk K a_Spot ai_Spot
  mt_Spot_facts : Meth K a_Spot "facts" a_Spot_facts
  mt_Spot_fits : Meth K a_Spot "fits" a_Spot_fits
  mt_Spot_put_on : Meth K a_Spot "put_on" a_Spot_put_on
  mt_Spot_told : Meth K a_Spot "told" a_Spot_told
  clsF : ClsF K clNames flNames
  z_dict : mg "dict" = none
  z_range : mg "range" = none
  z_len : mg "len" = none
  z_list : mg "list" = none
  z_sorted : mg "sorted" = none
  z_min : mg "min" = none
  z_tuple : mg "tuple" = none
  z_isinstance : mg "isinstance" = none
  t_MOST : Tok
  c_MOST : mg "MOST" = some (.int 200 t_MOST)
  t_DEEP : Tok
  c_DEEP : mg "DEEP" = some (.int 30 t_DEEP)
section
variable {P : Program} {w : World} {K : PySem.W.Frag} {mg : Str → Option Value} {base : Heap}
theorem ok_Word_facts (T : Txt K mg) : FnOk P w K mg base CX0 1 T.a_Word_facts T.fd_Word_facts P_Word_facts (spD ⟨K, w⟩ spec_Word_facts) := by
  refine okD (K := ⟨K, w⟩) (ws := ws_Word_facts) T.F_Word_facts sc_Word_facts len_Word_facts (fun cdv A outer s H E hr => ?_) pure_Word_facts
  have nd := sc_Word_facts.nd
  exact s_one (s_ret (d_lst (i_cons (d_tup (i_cons (d_fld T.clsF (dv 0)) (i_cons (d_str) (i_nil)))) (i_nil))))
theorem ok_Word_fits (T : Txt K mg) : FnOk P w K mg base CX0 1 T.a_Word_fits T.fd_Word_fits P_Word_fits (spD ⟨K, w⟩ spec_Word_fits) := by
  refine okD (K := ⟨K, w⟩) (ws := ws_Word_fits) T.F_Word_fits sc_Word_fits len_Word_fits (fun cdv A outer s H E hr => ?_) pure_Word_fits
  have nd := sc_Word_fits.nd
  exact s_one (s_ret (d_and (d_cmp (op_din hr.units) opd_din (d_fld T.clsF (dv 0)) (dv 1) (by rfl)) (d_one (d_cmp (op_eqA hr.units) opd_eq (d_ix (d_dget hr.units (dv 1) (d_fld T.clsF (dv 0))) (d_int)) (d_fld T.clsF (dv 0)) (nomark _)))))
theorem ok_Word_put_on (T : Txt K mg) : FnOk P w K mg base CX0 1 T.a_Word_put_on T.fd_Word_put_on P_Word_put_on (spD ⟨K, w⟩ spec_Word_put_on) := by
  refine okD (K := ⟨K, w⟩) (ws := ws_Word_put_on) T.F_Word_put_on sc_Word_put_on len_Word_put_on (fun cdv A outer s H E hr => ?_) pure_Word_put_on
  have nd := sc_Word_put_on.nd
  exact s_cons (s_set (i := 2) nd rfl (by first | exact Or.inl rfl | exact Or.inr rfl) (d_BT call_dictD cd_dcopy (by rfl) T.z_dict PyProof.Rows.boot_dict (a_cons (dv 1) (a_nil)))) (s_cons (s_dput hr.units (i := 2) (hk := d_fld T.clsF (dv 0)) (h := d_op op_addA opd_add (d_tup (i_cons (d_fld T.clsF (dv 0)) (i_nil))) (d_sl (d_dget hr.units (dv 1) (d_fld T.clsF (dv 0))) (o_some (d_int)) (o_none)))) (s_one (s_ret (dm 2))))
theorem ok_Word_told (T : Txt K mg) : FnOk P w K mg base CX0 1 T.a_Word_told T.fd_Word_told P_Word_told (spD ⟨K, w⟩ spec_Word_told) := by
  refine okD (K := ⟨K, w⟩) (ws := ws_Word_told) T.F_Word_told sc_Word_told len_Word_told (fun cdv A outer s H E hr => ?_) pure_Word_told
  have nd := sc_Word_told.nd
  exact s_one (s_ret (d_tup (i_cons (d_str) (i_cons (d_fld T.clsF (dv 0)) (i_cons (d_fld T.clsF (dv 0)) (i_cons (d_fld T.clsF (dv 0)) (i_nil)))))))
theorem ok_Spot_facts (T : Txt K mg) : FnOk P w K mg base CX0 1 T.a_Spot_facts T.fd_Spot_facts P_Spot_facts (spD ⟨K, w⟩ spec_Spot_facts) := by
  refine okD (K := ⟨K, w⟩) (ws := ws_Spot_facts) T.F_Spot_facts sc_Spot_facts len_Spot_facts (fun cdv A outer s H E hr => ?_) pure_Spot_facts
  have nd := sc_Spot_facts.nd
  exact s_one (s_ret (d_lst (i_cons (d_tup (i_cons (d_fld T.clsF (dv 0)) (i_cons (d_str) (i_nil)))) (i_nil))))
theorem ok_Spot_fits (T : Txt K mg) : FnOk P w K mg base CX0 1 T.a_Spot_fits T.fd_Spot_fits P_Spot_fits (spD ⟨K, w⟩ spec_Spot_fits) := by
  refine okD (K := ⟨K, w⟩) (ws := ws_Spot_fits) T.F_Spot_fits sc_Spot_fits len_Spot_fits (fun cdv A outer s H E hr => ?_) pure_Spot_fits
  have nd := sc_Spot_fits.nd
  exact s_one (s_ret (d_and (d_cmp (op_din hr.units) opd_din (d_fld T.clsF (dv 0)) (dv 1) (by rfl)) (d_one (d_cmp (op_eqA hr.units) opd_eq (d_sl (d_dget hr.units (dv 1) (d_fld T.clsF (dv 0))) (o_some (d_int)) (o_none)) (d_fld T.clsF (dv 0)) (nomark _)))))
theorem ok_Spot_put_on (T : Txt K mg) : FnOk P w K mg base CX0 1 T.a_Spot_put_on T.fd_Spot_put_on P_Spot_put_on (spD ⟨K, w⟩ spec_Spot_put_on) := by
  refine okD (K := ⟨K, w⟩) (ws := ws_Spot_put_on) T.F_Spot_put_on sc_Spot_put_on len_Spot_put_on (fun cdv A outer s H E hr => ?_) pure_Spot_put_on
  have nd := sc_Spot_put_on.nd
  exact s_cons (s_set (i := 2) nd rfl (by first | exact Or.inl rfl | exact Or.inr rfl) (d_BT call_dictD cd_dcopy (by rfl) T.z_dict PyProof.Rows.boot_dict (a_cons (dv 1) (a_nil)))) (s_cons (s_dput hr.units (i := 2) (hk := d_fld T.clsF (dv 0)) (h := d_op op_addA opd_add (d_sl (d_dget hr.units (dv 1) (d_fld T.clsF (dv 0))) (o_none) (o_some (d_int))) (d_fld T.clsF (dv 0)))) (s_one (s_ret (dm 2))))
theorem ok_Spot_told (T : Txt K mg) : FnOk P w K mg base CX0 1 T.a_Spot_told T.fd_Spot_told P_Spot_told (spD ⟨K, w⟩ spec_Spot_told) := by
  refine okD (K := ⟨K, w⟩) (ws := ws_Spot_told) T.F_Spot_told sc_Spot_told len_Spot_told (fun cdv A outer s H E hr => ?_) pure_Spot_told
  have nd := sc_Spot_told.nd
  exact s_one (s_ret (d_tup (i_cons (d_str) (i_cons (d_fld T.clsF (dv 0)) (i_cons (d_fld T.clsF (dv 0)) (i_cons (d_fld T.clsF (dv 0)) (i_nil)))))))
theorem ok_leads_up (T : Txt K mg) : FnOk P w K mg base CX0 1 T.a_leads_up T.fd_leads_up P_leads_up (spD ⟨K, w⟩ spec_leads_up) := by
  refine okD (K := ⟨K, w⟩) (ws := ws_leads_up) T.F_leads_up sc_leads_up len_leads_up (fun cdv A outer s H E hr => ?_) pure_leads_up
  have nd := sc_leads_up.nd
  exact s_cons (s_set (i := 2) nd rfl (by first | exact Or.inl rfl | exact Or.inr rfl) (dv 1)) (s_cons (s_for PassesOwn.never rfl (n_1 (by rfl) T.z_range (a_cons (d_op op_addA opd_add (d_gint (by rfl) T.c_DEEP) (d_int)) (a_nil))) (g_name (i := 3) nd rfl (by first | exact Or.inl rfl | exact Or.inr rfl)) (s_cons (s_if (t_cmp op_isN opd_is (d_ix (d_dget hr.units (dv 0) (dv 2)) (d_int)) (d_non) (nomark _)) (s_one (s_ret (d_bl))) (s_nil)) (s_cons (s_set (i := 2) nd rfl (by first | exact Or.inl rfl | exact Or.inr rfl) (d_ix (d_dget hr.units (dv 0) (dv 2)) (d_int))) (s_one (s_if (t_cmp (op_dnotin hr.units) opd_dnotin (dv 2) (dv 0) (by rfl)) (s_one (s_ret (d_bl))) (s_nil)))))) (s_one (s_ret (d_bl))))
theorem ok_is_kept (T : Txt K mg) : FnOk P w K mg base CX0 2 T.a_is_kept T.fd_is_kept P_is_kept (spD ⟨K, w⟩ spec_is_kept) := by
  refine okD (K := ⟨K, w⟩) (ws := ws_is_kept) T.F_is_kept sc_is_kept len_is_kept (fun cdv A outer s H E hr => ?_) pure_is_kept
  have nd := sc_is_kept.nd
  exact s_cons (s_if (DW.t (w_or (t_cmp (op_eqA hr.units) opd_eq (d_B call_lenKT cd_lenD (by rfl) T.z_len PySem.boot_len (a_cons (dv 0) (a_nil))) (d_int) (nomark _)) (w_or1 (t_cmp op_gt opd_gt (d_B call_lenKT cd_lenD (by rfl) T.z_len PySem.boot_len (a_cons (dv 0) (a_nil))) (d_gint (by rfl) T.c_MOST) (nomark _))))) (s_one (s_ret (d_bl))) (s_nil)) (s_cons (s_if (t_cmp (op_neA hr.units) opd_ne (d_B call_len cd_len (by rfl) T.z_len PySem.boot_len (a_cons (d_lcKIf (own := [("mark", 2)]) (g := gName 2) rfl nd (i := 0) (blkOk_by (own := [("mark", 2)]) (N := N_is_kept) (sc := defScope s_is_kept) (by decide +kernel)) (fun _ _ _ _ _ => c_name nd rfl (by first | exact Or.inl rfl | exact Or.inr rfl) (by decide)) (fun _ _ _ _ _ => t_cmp op_isN opd_is (d_ix (d_dget hr.units (dv 0) (dv 2)) (d_int)) (d_non) (nomark _)) (fun _ _ _ _ _ => dv 2)) (a_nil))) (d_int) (nomark _)) (s_one (s_ret (d_bl))) (s_nil)) (s_cons (s_set (i := 1) nd rfl (by first | exact Or.inl rfl | exact Or.inr rfl) (d_xnew)) (s_cons (s_forI (i := 0) PassesOwn.never rfl (g_tup rfl (gs_cons (g_name (i := 2) nd rfl (by first | exact Or.inl rfl | exact Or.inr rfl)) (gs_cons (g_name (i := 3) nd rfl (by first | exact Or.inl rfl | exact Or.inr rfl)) (gs_nil)))) (s_cons (s_if (DW.t (w_or (t_cmp (op_xin hr.units) opd_xin (d_sl (dv 3) (o_some (d_int)) (o_none)) (dv 1) (by rfl)) (w_or1 (t_not (t_val (d_call (ok_leads_up T) (hr.mono (by decide)) (by rfl) T.m_leads_up T.F_leads_up.kp T.b_leads_up .nil (fun _ _ => .nil) (a_cons (dv 0) (a_cons (dv 2) (a_nil))))))))) (s_one (s_ret (d_bl))) (s_nil)) (s_one (s_xput hr.units (i := 1) (hk := d_sl (dv 3) (o_some (d_int)) (o_none)) (h := d_bl))))) (s_one (s_ret (d_bl))))))
theorem ok_root_mark (T : Txt K mg) : FnOk P w K mg base CX0 1 T.a_root_mark T.fd_root_mark P_root_mark (spD ⟨K, w⟩ spec_root_mark) := by
  refine okD (K := ⟨K, w⟩) (ws := ws_root_mark) T.F_root_mark sc_root_mark len_root_mark (fun cdv A outer s H E hr => ?_) pure_root_mark
  have nd := sc_root_mark.nd
  exact s_one (s_ret (d_ix (d_lcKIf (own := [("mark", 1)]) (g := gName 1) rfl nd (i := 0) (blkOk_by (own := [("mark", 1)]) (N := N_root_mark) (sc := defScope s_root_mark) (by decide +kernel)) (fun _ _ _ _ _ => c_name nd rfl (by first | exact Or.inl rfl | exact Or.inr rfl) (by decide)) (fun _ _ _ _ _ => t_cmp op_isN opd_is (d_ix (d_dget hr.units (dv 0) (dv 1)) (d_int)) (d_non) (nomark _)) (fun _ _ _ _ _ => dv 1)) (d_int)))
theorem hm_facts (T : Txt K mg) : MethF P w K mg base 1 clm_facts "facts" spec_facts := by
  intro c C hc hC
  have hq := hc
  simp only [clm_facts, List.mem_cons, List.not_mem_nil, or_false] at hq
  rcases hq with rfl | rfl
  · cases Option.some.inj (Option.some.inj (T.nc_Word.symm.trans hC))
    exact ⟨T.clsF.ok "Word" _ (by decide +kernel) T.nc_Word, 1, T.a_Word_facts, T.fd_Word_facts, P_Word_facts, _, by decide, by decide +kernel, T.mt_Word_facts, ok_Word_facts T, T.b_Word_facts⟩
  · cases Option.some.inj (Option.some.inj (T.nc_Spot.symm.trans hC))
    exact ⟨T.clsF.ok "Spot" _ (by decide +kernel) T.nc_Spot, 1, T.a_Spot_facts, T.fd_Spot_facts, P_Spot_facts, _, by decide, by decide +kernel, T.mt_Spot_facts, ok_Spot_facts T, T.b_Spot_facts⟩
theorem ok_check_facts (T : Txt K mg) : FnOk P w K mg base CX0 2 T.a_check_facts T.fd_check_facts P_check_facts (spD ⟨K, w⟩ spec_check_facts) := by
  refine okD (K := ⟨K, w⟩) (ws := ws_check_facts) T.F_check_facts sc_check_facts len_check_facts (fun cdv A outer s H E hr => ?_) pure_check_facts
  have nd := sc_check_facts.nd
  exact s_cons (s_set (i := 1) nd rfl (by first | exact Or.inl rfl | exact Or.inr rfl) (d_dnewT)) (s_one (s_for PassesOwn.never rfl (n_L (dv 0)) (g_name (i := 2) nd rfl (by first | exact Or.inl rfl | exact Or.inr rfl)) (s_one (s_for PassesOwn.never rfl (n_L (d_meth0 (i := 2) (hm_facts T) (hr.mono (by decide)))) (g_name (i := 3) nd rfl (by first | exact Or.inl rfl | exact Or.inr rfl)) (s_cons (s_if (t_cmp (op_din hr.units) opd_din (dv 3) (dv 1) (by rfl)) (s_one (s_never)) (s_nil)) (s_one (s_dput hr.units (i := 1) (hk := dv 3) (h := d_bl))))))))
theorem hm_fits (T : Txt K mg) : MethF P w K mg base 1 clm_fits "fits" spec_fits := by
  intro c C hc hC
  have hq := hc
  simp only [clm_fits, List.mem_cons, List.not_mem_nil, or_false] at hq
  rcases hq with rfl | rfl
  · cases Option.some.inj (Option.some.inj (T.nc_Word.symm.trans hC))
    exact ⟨T.clsF.ok "Word" _ (by decide +kernel) T.nc_Word, 1, T.a_Word_fits, T.fd_Word_fits, P_Word_fits, _, by decide, by decide +kernel, T.mt_Word_fits, ok_Word_fits T, T.b_Word_fits⟩
  · cases Option.some.inj (Option.some.inj (T.nc_Spot.symm.trans hC))
    exact ⟨T.clsF.ok "Spot" _ (by decide +kernel) T.nc_Spot, 1, T.a_Spot_fits, T.fd_Spot_fits, P_Spot_fits, _, by decide, by decide +kernel, T.mt_Spot_fits, ok_Spot_fits T, T.b_Spot_fits⟩
theorem hm_put_on (T : Txt K mg) : MethF P w K mg base 1 clm_put_on "put_on" spec_put_on := by
  intro c C hc hC
  have hq := hc
  simp only [clm_put_on, List.mem_cons, List.not_mem_nil, or_false] at hq
  rcases hq with rfl | rfl
  · cases Option.some.inj (Option.some.inj (T.nc_Word.symm.trans hC))
    exact ⟨T.clsF.ok "Word" _ (by decide +kernel) T.nc_Word, 1, T.a_Word_put_on, T.fd_Word_put_on, P_Word_put_on, _, by decide, by decide +kernel, T.mt_Word_put_on, ok_Word_put_on T, T.b_Word_put_on⟩
  · cases Option.some.inj (Option.some.inj (T.nc_Spot.symm.trans hC))
    exact ⟨T.clsF.ok "Spot" _ (by decide +kernel) T.nc_Spot, 1, T.a_Spot_put_on, T.fd_Spot_put_on, P_Spot_put_on, _, by decide, by decide +kernel, T.mt_Spot_put_on, ok_Spot_put_on T, T.b_Spot_put_on⟩
theorem ok_done_on (T : Txt K mg) : FnOk P w K mg base CX0 3 T.a_done_on T.fd_done_on P_done_on (spD ⟨K, w⟩ spec_done_on) := by
  refine okD (K := ⟨K, w⟩) (ws := ws_done_on) T.F_done_on sc_done_on len_done_on (fun cdv A outer s H E hr => ?_) pure_done_on
  have nd := sc_done_on.nd
  exact s_cons (s_expr (d_call (ok_check_facts T) (hr.mono (by decide)) (by rfl) T.m_check_facts T.F_check_facts.kp T.b_check_facts .nil (fun _ _ => .nil) (a_cons (dv 1) (a_nil)))) (s_cons (s_for PassesOwn.never rfl (n_L (dv 1)) (g_name (i := 2) nd rfl (by first | exact Or.inl rfl | exact Or.inr rfl)) (s_one (s_if (t_not (t_val (d_meth (i := 2) (hm_fits T) (hr.mono (by decide)) (a_cons (dv 0) (a_nil))))) (s_one (s_never)) (s_nil)))) (s_cons (s_set (i := 3) nd rfl (by first | exact Or.inl rfl | exact Or.inr rfl) (d_BT call_dictD cd_dcopy (by rfl) T.z_dict PyProof.Rows.boot_dict (a_cons (dv 0) (a_nil)))) (s_cons (s_for PassesOwn.never rfl (n_L (dv 1)) (g_name (i := 2) nd rfl (by first | exact Or.inl rfl | exact Or.inr rfl)) (s_one (s_set (i := 3) nd rfl (by first | exact Or.inl rfl | exact Or.inr rfl) (d_meth (i := 2) (hm_put_on T) (hr.mono (by decide)) (a_cons (dv 3) (a_nil)))))) (s_cons (s_if (DW.t (w_or (t_not (t_val (d_call (ok_is_kept T) (hr.mono (by decide)) (by rfl) T.m_is_kept T.F_is_kept.kp T.b_is_kept .nil (fun _ _ => .nil) (a_cons (dv 3) (a_nil))))) (w_or1 (t_cmp (op_neA hr.units) opd_ne (d_call (ok_root_mark T) (hr.mono (by decide)) (by rfl) T.m_root_mark T.F_root_mark.kp T.b_root_mark .nil (fun _ _ => .nil) (a_cons (dv 3) (a_nil))) (d_call (ok_root_mark T) (hr.mono (by decide)) (by rfl) T.m_root_mark T.F_root_mark.kp T.b_root_mark .nil (fun _ _ => .nil) (a_cons (dv 0) (a_nil))) (nomark _))))) (s_one (s_never)) (s_nil)) (s_one (s_ret (dm 3)))))))
theorem hm_told (T : Txt K mg) : MethF P w K mg base 1 clm_told "told" spec_told := by
  intro c C hc hC
  have hq := hc
  simp only [clm_told, List.mem_cons, List.not_mem_nil, or_false] at hq
  rcases hq with rfl | rfl
  · cases Option.some.inj (Option.some.inj (T.nc_Word.symm.trans hC))
    exact ⟨T.clsF.ok "Word" _ (by decide +kernel) T.nc_Word, 1, T.a_Word_told, T.fd_Word_told, P_Word_told, _, by decide, by decide +kernel, T.mt_Word_told, ok_Word_told T, T.b_Word_told⟩
  · cases Option.some.inj (Option.some.inj (T.nc_Spot.symm.trans hC))
    exact ⟨T.clsF.ok "Spot" _ (by decide +kernel) T.nc_Spot, 1, T.a_Spot_told, T.fd_Spot_told, P_Spot_told, _, by decide, by decide +kernel, T.mt_Spot_told, ok_Spot_told T, T.b_Spot_told⟩
theorem ok_deeds_beyond (T : Txt K mg) : FnOk P w K mg base CX0 2 T.a_deeds_beyond T.fd_deeds_beyond P_deeds_beyond (spD ⟨K, w⟩ spec_deeds_beyond) := by
  refine okD (K := ⟨K, w⟩) (ws := ws_deeds_beyond) T.F_deeds_beyond sc_deeds_beyond len_deeds_beyond (fun cdv A outer s H E hr => ?_) pure_deeds_beyond
  have nd := sc_deeds_beyond.nd
  exact s_cons (s_set (i := 2) nd rfl (by first | exact Or.inl rfl | exact Or.inr rfl) (d_xnew)) (s_cons (s_for PassesOwn.never rfl (n_L (dv 0)) (g_name (i := 3) nd rfl (by first | exact Or.inl rfl | exact Or.inr rfl)) (s_one (s_xput hr.units (i := 2) (hk := d_meth0 (i := 3) (hm_told T) (hr.mono (by decide))) (h := d_bl)))) (s_one (s_frS (i := 2) (s_ret (d_lcIf (own := [("deed", 3)]) (g := gName 3) rfl nd (n_L (dv 1)) (blkOk_by (own := [("deed", 3)]) (N := N_deeds_beyond) (sc := defScope s_deeds_beyond) (by decide +kernel)) (fun _ _ _ _ _ => c_name nd rfl (by first | exact Or.inl rfl | exact Or.inr rfl) (by decide)) (fun _ _ _ _ _ => t_cmp (op_xnotin hr.units) opd_xnotin (d_meth0 (i := 3) (hm_told T) (hr.mono (by decide))) (dv 2) (by rfl)) (fun _ _ _ _ _ => dv 3))))))
theorem ok_facts_of (T : Txt K mg) : FnOk P w K mg base CX0 2 T.a_facts_of T.fd_facts_of P_facts_of (spD ⟨K, w⟩ spec_facts_of) := by
  refine okD (K := ⟨K, w⟩) (ws := ws_facts_of) T.F_facts_of sc_facts_of len_facts_of (fun cdv A outer s H E hr => ?_) pure_facts_of
  have nd := sc_facts_of.nd
  exact s_cons (s_set (i := 1) nd rfl (by first | exact Or.inl rfl | exact Or.inr rfl) (d_dnewT)) (s_cons (s_for PassesOwn.never rfl (n_L (dv 0)) (g_name (i := 2) nd rfl (by first | exact Or.inl rfl | exact Or.inr rfl)) (s_one (s_for PassesOwn.never rfl (n_L (d_meth0 (i := 2) (hm_facts T) (hr.mono (by decide)))) (g_name (i := 3) nd rfl (by first | exact Or.inl rfl | exact Or.inr rfl)) (s_one (s_dput hr.units (i := 1) (hk := dv 3) (h := d_meth0 (i := 2) (hm_told T) (hr.mono (by decide)))))))) (s_one (s_ret (dm 1))))
theorem ok_both_marks (T : Txt K mg) : FnOk P w K mg base CX0 3 T.a_both_marks T.fd_both_marks P_both_marks (spD ⟨K, w⟩ spec_both_marks) := by
  refine okD (K := ⟨K, w⟩) (ws := ws_both_marks) T.F_both_marks sc_both_marks len_both_marks (fun cdv A outer s H E hr => ?_) pure_both_marks
  have nd := sc_both_marks.nd
  exact s_cons (s_set (i := 2) nd rfl (by first | exact Or.inl rfl | exact Or.inr rfl) (d_fzE (d_call (ok_facts_of T) (hr.mono (by decide)) (by rfl) T.m_facts_of T.F_facts_of.kp T.b_facts_of .nil (fun _ _ => .nil) (a_cons (dv 0) (a_nil))))) (s_cons (s_set (i := 3) nd rfl (by first | exact Or.inl rfl | exact Or.inr rfl) (d_call (ok_facts_of T) (hr.mono (by decide)) (by rfl) T.m_facts_of T.F_facts_of.kp T.b_facts_of .nil (fun _ _ => .nil) (a_cons (dv 1) (a_nil)))) (s_cons (s_set (i := 4) nd rfl (by first | exact Or.inl rfl | exact Or.inr rfl) (d_dnewK)) (s_cons (s_forIT (i := 2) PassesOwn.never rfl (g_tup rfl (gs_cons (g_name (i := 5) nd rfl (by first | exact Or.inl rfl | exact Or.inr rfl)) (gs_cons (g_name (i := 6) nd rfl (by first | exact Or.inl rfl | exact Or.inr rfl)) (gs_nil)))) (s_one (s_if (t_cmp (op_neA hr.units) opd_ne (d_get2 hr.units (dv 3) (dv 5) (dv 6)) (dv 6) (nomark _)) (s_one (s_dput hr.units (i := 4) (hk := d_ix (dv 5) (d_int)) (h := d_bl))) (s_nil)))) (s_one (s_ret (d_BT (call_listD rfl) cd_dlist (by rfl) T.z_list PyProof.Rows.boot_list (a_cons (dv 4) (a_nil))))))))
theorem ok_is_lost (T : Txt K mg) : FnOk P w K mg base CX0 1 T.a_is_lost T.fd_is_lost P_is_lost (spD ⟨K, w⟩ spec_is_lost) := by
  refine okD (K := ⟨K, w⟩) (ws := ws_is_lost) T.F_is_lost sc_is_lost len_is_lost (fun cdv A outer s H E hr => ?_) pure_is_lost
  have nd := sc_is_lost.nd
  exact s_cons (s_set (i := 2) nd rfl (by first | exact Or.inl rfl | exact Or.inr rfl) (d_ix (d_dget hr.units (dv 0) (dv 1)) (d_int))) (s_one (s_ret (d_and (d_cmp op_notN opd_isnt (dv 2) (d_non) (nomark _)) (d_one (d_cmp (op_dnotin hr.units) opd_dnotin (dv 2) (dv 0) (by rfl))))))
theorem ok_lost_marks (T : Txt K mg) : FnOk P w K mg base CX0 2 T.a_lost_marks T.fd_lost_marks P_lost_marks (spD ⟨K, w⟩ spec_lost_marks) := by
  refine okD (K := ⟨K, w⟩) (ws := ws_lost_marks) T.F_lost_marks sc_lost_marks len_lost_marks (fun cdv A outer s H E hr => ?_) pure_lost_marks
  have nd := sc_lost_marks.nd
  exact s_one (s_ret (d_lcKIf (own := [("mark", 1)]) (g := gName 1) rfl nd (i := 0) (blkOk_by (own := [("mark", 1)]) (N := N_lost_marks) (sc := defScope s_lost_marks) (by decide +kernel)) (fun _ _ _ _ _ => c_name nd rfl (by first | exact Or.inl rfl | exact Or.inr rfl) (by decide)) (fun _ _ _ _ _ => t_val (d_call (ok_is_lost T) (hr.mono (by decide)) (by rfl) T.m_is_lost T.F_is_lost.kp T.b_is_lost .nil (fun _ _ => .nil) (a_cons (dv 0) (a_cons (dv 1) (a_nil))))) (fun _ _ _ _ _ => dv 1)))
theorem ok_key_marks (T : Txt K mg) : FnOk P w K mg base CX0 2 T.a_key_marks T.fd_key_marks P_key_marks (spD ⟨K, w⟩ spec_key_marks) := by
  refine okD (K := ⟨K, w⟩) (ws := ws_key_marks) T.F_key_marks sc_key_marks len_key_marks (fun cdv A outer s H E hr => ?_) pure_key_marks
  have nd := sc_key_marks.nd
  exact s_cons (s_set (i := 1) nd rfl (by first | exact Or.inl rfl | exact Or.inr rfl) (d_xnew)) (s_cons (s_set (i := 2) nd rfl (by first | exact Or.inl rfl | exact Or.inr rfl) (d_lst (i_nil))) (s_cons (s_for PassesOwn.never rfl (n_L (d_B cr_sortedI cd_sorted (by rfl) T.z_sorted PyProof.Rows.boot_sorted (a_cons (d_BT (call_listD rfl) cd_dlist (by rfl) T.z_list PyProof.Rows.boot_list (a_cons (dv 0) (a_nil))) (a_nil)))) (g_name (i := 3) nd rfl (by first | exact Or.inl rfl | exact Or.inr rfl)) (s_cons (s_if (t_val (d_call (ok_is_lost T) (hr.mono (by decide)) (by rfl) T.m_is_lost T.F_is_lost.kp T.b_is_lost .nil (fun _ _ => .nil) (a_cons (dv 0) (a_cons (dv 3) (a_nil))))) (s_one (s_cont)) (s_nil)) (s_cons (s_if (t_cmp (op_xin hr.units) opd_xin (d_sl (d_dget hr.units (dv 0) (dv 3)) (o_some (d_int)) (o_none)) (dv 1) (by rfl)) (s_one (s_app (i := 2) (h := dv 3))) (s_nil)) (s_one (s_xput hr.units (i := 1) (hk := d_sl (d_dget hr.units (dv 0) (dv 3)) (o_some (d_int)) (o_none)) (h := d_bl)))))) (s_one (s_ret (dm 2)))))
theorem ok_ring_marks (T : Txt K mg) : FnOk P w K mg base CX0 1 T.a_ring_marks T.fd_ring_marks P_ring_marks (spD ⟨K, w⟩ spec_ring_marks) := by
  refine okD (K := ⟨K, w⟩) (ws := ws_ring_marks) T.F_ring_marks sc_ring_marks len_ring_marks (fun cdv A outer s H E hr => ?_) pure_ring_marks
  have nd := sc_ring_marks.nd
  exact s_cons (s_set (i := 1) nd rfl (by first | exact Or.inl rfl | exact Or.inr rfl) (d_xnew)) (s_cons (s_set (i := 2) nd rfl (by first | exact Or.inl rfl | exact Or.inr rfl) (d_lst (i_nil))) (s_cons (s_forK (i := 0) PassesOwn.never rfl (g_name (i := 3) nd rfl (by first | exact Or.inl rfl | exact Or.inr rfl)) (s_cons (s_set (i := 4) nd rfl (by first | exact Or.inl rfl | exact Or.inr rfl) (d_lst (i_nil))) (s_cons (s_set (i := 5) nd rfl (by first | exact Or.inl rfl | exact Or.inr rfl) (dv 3)) (s_cons (s_while PassesOwn.never (DW.t (w_and (t_cmp (op_din hr.units) opd_din (dv 5) (dv 0) (by rfl)) (w_and1 (t_cmp (op_xnotin hr.units) opd_xnotin (dv 5) (dv 1) (by rfl))))) (s_cons (s_xput hr.units (i := 1) (hk := dv 5) (h := dv 3)) (s_cons (s_app (i := 4) (h := dv 5)) (s_one (s_set (i := 5) nd rfl (by first | exact Or.inl rfl | exact Or.inr rfl) (d_ix (d_dget hr.units (dv 0) (dv 5)) (d_int))))))) (s_one (s_if (DW.t (w_and (t_cmp (op_eqA hr.units) opd_eq (d_xget1 hr.units (dv 1) (dv 5)) (dv 3) (nomark _)) (w_and1 (t_cmp op_inA opd_in (dv 5) (dv 4) (by rfl))))) (s_one (s_app (i := 2) (h := d_B (cr_min rfl) cd_min (by rfl) T.z_min PyProof.Rows.boot_min (a_cons (d_sl (dv 4) (o_some (d_index (units65 hr) (dv 4) (dv 5))) (o_none)) (a_nil))))) (s_nil))))))) (s_one (s_ret (dm 2)))))
theorem ok_meet_of (T : Txt K mg) : FnOk P w K mg base CX0 4 T.a_meet_of T.fd_meet_of P_meet_of (spD ⟨K, w⟩ spec_meet_of) := by
  refine okD (K := ⟨K, w⟩) (ws := ws_meet_of) T.F_meet_of sc_meet_of len_meet_of (fun cdv A outer s H E hr => ?_) pure_meet_of
  have nd := sc_meet_of.nd
  exact s_cons (s_set (i := 3) nd rfl (by first | exact Or.inl rfl | exact Or.inr rfl) (d_call (ok_done_on T) (hr.mono (by decide)) (by rfl) T.m_done_on T.F_done_on.kp T.b_done_on .nil (fun _ _ => .nil) (a_cons (dv 0) (a_cons (dv 1) (a_nil))))) (s_cons (s_set (i := 4) nd rfl (by first | exact Or.inl rfl | exact Or.inr rfl) (d_call (ok_done_on T) (hr.mono (by decide)) (by rfl) T.m_done_on T.F_done_on.kp T.b_done_on .nil (fun _ _ => .nil) (a_cons (dv 0) (a_cons (dv 2) (a_nil))))) (s_cons (s_set (i := 5) nd rfl (by first | exact Or.inl rfl | exact Or.inr rfl) (d_BT call_dictD cd_dcopy (by rfl) T.z_dict PyProof.Rows.boot_dict (a_cons (dv 3) (a_nil)))) (s_cons (s_setLc (i := 6) (own := [("mark", 8)]) (g := gName 8) rfl nd rfl rfl (sw_true rfl rfl rfl (by decide +kernel)) (n_L (d_call (ok_both_marks T) (hr.mono (by decide)) (by rfl) T.m_both_marks T.F_both_marks.kp T.b_both_marks .nil (fun _ _ => .nil) (a_cons (dv 1) (a_cons (dv 2) (a_nil))))) (blkOk_by (own := [("mark", 8)]) (N := N_meet_of) (sc := defScope s_meet_of) (by decide +kernel)) (fun _ _ _ _ _ => c_name nd rfl (by first | exact Or.inl rfl | exact Or.inr rfl) (by decide)) (fun _ _ _ _ _ => d_tup (i_cons (dv 8) (i_cons (d_str) (i_nil))))) (s_cons (s_if (t_cmp (op_eqA hr.units) opd_eq (dv 6) (d_lst (i_nil)) (nomark _)) (s_cons (s_for PassesOwn.never rfl (n_L (d_call (ok_deeds_beyond T) (hr.mono (by decide)) (by rfl) T.m_deeds_beyond T.F_deeds_beyond.kp T.b_deeds_beyond .nil (fun _ _ => .nil) (a_cons (dv 1) (a_cons (dv 2) (a_nil))))) (g_name (i := 7) nd rfl (by first | exact Or.inl rfl | exact Or.inr rfl)) (s_one (s_set (i := 5) nd rfl (by first | exact Or.inl rfl | exact Or.inr rfl) (d_meth (i := 7) (hm_put_on T) (hr.mono (by decide)) (a_cons (dv 5) (a_nil)))))) (s_cons (s_ext (i := 6) (h := d_lc (own := [("mark", 8)]) (g := gName 8) rfl nd (n_L (d_call (ok_lost_marks T) (hr.mono (by decide)) (by rfl) T.m_lost_marks T.F_lost_marks.kp T.b_lost_marks .nil (fun _ _ => .nil) (a_cons (dv 5) (a_nil)))) (blkOk_by (own := [("mark", 8)]) (N := N_meet_of) (sc := defScope s_meet_of) (by decide +kernel)) (fun _ _ _ _ _ => c_name nd rfl (by first | exact Or.inl rfl | exact Or.inr rfl) (by decide)) (fun _ _ _ _ _ => d_tup (i_cons (dv 8) (i_cons (d_str) (i_nil)))))) (s_cons (s_ext (i := 6) (h := d_lc (own := [("mark", 8)]) (g := gName 8) rfl nd (n_L (d_call (ok_key_marks T) (hr.mono (by decide)) (by rfl) T.m_key_marks T.F_key_marks.kp T.b_key_marks .nil (fun _ _ => .nil) (a_cons (dv 5) (a_nil)))) (blkOk_by (own := [("mark", 8)]) (N := N_meet_of) (sc := defScope s_meet_of) (by decide +kernel)) (fun _ _ _ _ _ => c_name nd rfl (by first | exact Or.inl rfl | exact Or.inr rfl) (by decide)) (fun _ _ _ _ _ => d_tup (i_cons (dv 8) (i_cons (d_str) (i_nil)))))) (s_one (s_ext (i := 6) (h := d_lc (own := [("mark", 8)]) (g := gName 8) rfl nd (n_L (d_call (ok_ring_marks T) (hr.mono (by decide)) (by rfl) T.m_ring_marks T.F_ring_marks.kp T.b_ring_marks .nil (fun _ _ => .nil) (a_cons (dv 5) (a_nil)))) (blkOk_by (own := [("mark", 8)]) (N := N_meet_of) (sc := defScope s_meet_of) (by decide +kernel)) (fun _ _ _ _ _ => c_name nd rfl (by first | exact Or.inl rfl | exact Or.inr rfl) (by decide)) (fun _ _ _ _ _ => d_tup (i_cons (dv 8) (i_cons (d_str) (i_nil)))))))))) (s_nil)) (s_cons (s_if (t_cmp (op_eqA hr.units) opd_eq (dv 6) (d_lst (i_nil)) (nomark _)) (s_one (s_ret (d_tup (i_cons (dm 5) (i_cons (d_lst (i_nil)) (i_nil)))))) (s_nil)) (s_one (s_ret (d_tup (i_cons (d_non) (i_cons (d_lc (own := [("mark", 8), ("kind", 9)]) (g := gTup K 2 (gCons (gName 8) (gCons (gName 9) (gNil)))) rfl nd (n_L (d_B cr_sortedI cd_sorted (by rfl) T.z_sorted PyProof.Rows.boot_sorted (a_cons (dv 6) (a_nil)))) (blkOk_by (own := [("mark", 8), ("kind", 9)]) (N := N_meet_of) (sc := defScope s_meet_of) (by decide +kernel)) (fun _ _ _ _ _ => c_tup rfl (cs_cons (c_name nd rfl (by first | exact Or.inl rfl | exact Or.inr rfl) (by decide)) (cs_cons (c_name nd rfl (by first | exact Or.inl rfl | exact Or.inr rfl) (by decide)) (cs_nil)))) (fun _ _ _ _ _ => d_tup (i_cons (dv 9) (i_cons (dv 8) (i_cons (d_get1 hr.units (dv 3) (dv 8)) (i_cons (d_get1 hr.units (dv 4) (dv 8)) (i_nil))))))) (i_nil)))))))))))
theorem ok__law_word (T : Txt K mg) : FnOk P w K mg base CX0 1 T.a__law_word T.fd__law_word P__law_word (spD ⟨K, w⟩ spec__law_word) := by
  refine okD (K := ⟨K, w⟩) (ws := ws__law_word) T.F__law_word sc__law_word len__law_word (fun cdv A outer s H E hr => ?_) pure__law_word
  have nd := sc__law_word.nd
  exact s_cons (s_set (i := 1) nd rfl (by first | exact Or.inl rfl | exact Or.inr rfl) (d_str)) (s_cons (s_for PassesOwn.never rfl (n_1 (by rfl) T.z_range (a_cons (d_op op_addA opd_add (d_int) (d_op op_mod opd_mod (dv 0) (d_int))) (a_nil))) (g_name (i := 2) nd rfl (by first | exact Or.inl rfl | exact Or.inr rfl)) (s_cons (s_set (i := 0) nd rfl (by first | exact Or.inl rfl | exact Or.inr rfl) (d_op op_mod opd_mod (d_op op_addA opd_add (d_op op_addA opd_add (d_op op_mulA opd_mul (dv 0) (dv 0)) (d_op op_mulA opd_mul (d_int) (dv 0))) (dv 2)) (d_int))) (s_one (s_set (i := 1) nd rfl (by first | exact Or.inl rfl | exact Or.inr rfl) (d_op op_addA opd_add (dv 1) (d_ix (d_str) (d_op op_mod opd_mod (d_op op_fdivB opd_fdiv (dv 0) (d_int)) (d_int)))))))) (s_one (s_ret (dm 1))))
theorem ok__law_mark (T : Txt K mg) : FnOk P w K mg base CX0 1 T.a__law_mark T.fd__law_mark P__law_mark (spD ⟨K, w⟩ spec__law_mark) := by
  refine okD (K := ⟨K, w⟩) (ws := ws__law_mark) T.F__law_mark sc__law_mark len__law_mark (fun cdv A outer s H E hr => ?_) pure__law_mark
  have nd := sc__law_mark.nd
  exact s_cons (s_set (i := 2) nd rfl (by first | exact Or.inl rfl | exact Or.inr rfl) (d_op op_mod opd_mod (dv 0) (d_op op_sub opd_sub (d_op op_pow opd_pow (d_int) (d_int)) (d_int)))) (s_cons (s_while PassesOwn.never (t_cmp (op_din hr.units) opd_din (dv 2) (dv 1) (by rfl)) (s_one (s_set (i := 2) nd rfl (by first | exact Or.inl rfl | exact Or.inr rfl) (d_op op_addA opd_add (dv 2) (d_int))))) (s_one (s_ret (dm 2))))
theorem ok__law_kept (T : Txt K mg) : FnOk P w K mg base CX0 2 T.a__law_kept T.fd__law_kept P__law_kept (spD ⟨K, w⟩ spec__law_kept) := by
  refine okD (K := ⟨K, w⟩) (ws := ws__law_kept) T.F__law_kept sc__law_kept len__law_kept (fun cdv A outer s H E hr => ?_) pure__law_kept
  have nd := sc__law_kept.nd
  exact s_cons (s_set (i := 1) nd rfl (by first | exact Or.inl rfl | exact Or.inr rfl) (d_int)) (s_cut (s_if (t_cmp op_gt opd_gt (d_B call_len cd_len (by rfl) T.z_len PySem.boot_len (a_cons (dv 0) (a_nil))) (d_int) (nomark _)) (s_one (s_set (i := 1) nd rfl (by first | exact Or.inl rfl | exact Or.inr rfl) (d_op op_mod opd_mod (d_op op_fdivB opd_fdiv (d_ix (dv 0) (d_int)) (d_int)) (d_op op_sub opd_sub (d_op op_pow opd_pow (d_int) (d_int)) (d_int))))) (s_nil)) (s_cons (s_set (i := 2) nd rfl (by first | exact Or.inl rfl | exact Or.inr rfl) (d_disp1 (dv 1) (d_tup (i_cons (d_str) (i_cons (d_non) (i_cons (d_tup (i_nil)) (i_nil))))))) (s_cons (s_for PassesOwn.never rfl (n_L (d_sl (dv 0) (o_none) (o_some (d_int)))) (g_name (i := 3) nd rfl (by first | exact Or.inl rfl | exact Or.inr rfl)) (s_cons (s_set (i := 4) nd rfl (by first | exact Or.inl rfl | exact Or.inr rfl) (d_op op_mod opd_mod (d_op op_mulA opd_mul (dv 3) (d_int)) (d_int))) (s_cons (s_set (i := 5) nd rfl (by first | exact Or.inl rfl | exact Or.inr rfl) (d_call (ok__law_mark T) (hr.mono (by decide)) (by rfl) T.m__law_mark T.F__law_mark.kp T.b__law_mark .nil (fun _ _ => .nil) (a_cons (dv 3) (a_cons (dv 2) (a_nil))))) (s_cons (s_set (i := 6) nd rfl (by first | exact Or.inl rfl | exact Or.inr rfl) (d_ix (d_BT (call_listD rfl) cd_dlist (by rfl) T.z_list PyProof.Rows.boot_list (a_cons (dv 2) (a_nil))) (d_op op_mod opd_mod (d_op op_fdivB opd_fdiv (dv 4) (d_int)) (d_B (call_min2 rfl) cd_min2 (by rfl) T.z_min PyProof.Rows.boot_min (a_cons (d_B call_lenKT cd_lenD (by rfl) T.z_len PySem.boot_len (a_cons (dv 2) (a_nil))) (a_cons (d_int) (a_nil))))))) (s_cons (s_set (i := 7) nd rfl (by first | exact Or.inl rfl | exact Or.inr rfl) (d_sl (d_tup (i_cons (d_op op_sub opd_sub (d_op op_mod opd_mod (d_op op_fdivB opd_fdiv (dv 3) (d_int)) (d_op op_addA opd_add (d_op op_mulA opd_mul (d_int) (d_op op_pow opd_pow (d_int) (d_int))) (d_int))) (d_op op_pow opd_pow (d_int) (d_int))) (i_cons (dv 5) (i_nil)))) (o_some (d_op op_mod opd_mod (dv 4) (d_int))) (o_none))) (s_one (s_dput hr.units (i := 2) (hk := dv 5) (h := d_tup (i_cons (d_call (ok__law_word T) (hr.mono (by decide)) (by rfl) T.m__law_word T.F__law_word.kp T.b__law_word .nil (fun _ _ => .nil) (a_cons (dv 4) (a_nil))) (i_cons (dv 6) (i_cons (d_op op_addA opd_add (dv 7) (d_tup (i_cons (dv 5) (i_nil)))) (i_nil)))))))))))) (s_cons (s_if (DW.t (w_and (t_cmp op_gt opd_gt (d_B call_len cd_len (by rfl) T.z_len PySem.boot_len (a_cons (dv 0) (a_nil))) (d_int) (nomark _)) (w_and1 (t_cmp (op_eqA hr.units) opd_eq (d_op op_mod opd_mod (d_op op_mod opd_mod (d_op op_mulA opd_mul (d_ix (dv 0) (d_int)) (d_int)) (d_int)) (d_int)) (d_int) (nomark _))))) (s_one (s_for PassesOwn.never rfl (n_1 (by rfl) T.z_range (a_cons (d_op op_addA opd_add (d_int) (d_op op_mod opd_mod (d_op op_mod opd_mod (d_op op_mulA opd_mul (d_ix (dv 0) (d_int)) (d_int)) (d_int)) (d_int))) (a_nil))) (g_name (i := 8) nd rfl (by first | exact Or.inl rfl | exact Or.inr rfl)) (s_cons (s_set (i := 5) nd rfl (by first | exact Or.inl rfl | exact Or.inr rfl) (d_call (ok__law_mark T) (hr.mono (by decide)) (by rfl) T.m__law_mark T.F__law_mark.kp T.b__law_mark .nil (fun _ _ => .nil) (a_cons (d_op op_addA opd_add (d_op op_pow opd_pow (d_int) (d_int)) (d_op op_mulA opd_mul (d_int) (dv 8))) (a_cons (dv 2) (a_nil))))) (s_one (s_dput hr.units (i := 2) (hk := dv 5) (h := d_tup (i_cons (d_str) (i_cons (dv 1) (i_cons (d_tup (i_cons (d_op op_addA opd_add (d_op op_mulA opd_mul (d_int) (d_op op_pow opd_pow (d_int) (d_int))) (dv 8)) (i_cons (dv 5) (i_nil)))) (i_nil)))))))))) (s_nil)) (s_one (s_ret (dm 2)))))))
theorem ok__law_changes (T : Txt K mg) : FnOk P w K mg base CX0 2 T.a__law_changes T.fd__law_changes P__law_changes (spD ⟨K, w⟩ spec__law_changes) := by
  refine okD (K := ⟨K, w⟩) (ws := ws__law_changes) T.F__law_changes sc__law_changes len__law_changes (fun cdv A outer s H E hr => ?_) pure__law_changes
  have nd := sc__law_changes.nd
  exact s_cons (s_set (i := 2) nd rfl (by first | exact Or.inl rfl | exact Or.inr rfl) (d_dnewK)) (s_cons (s_set (i := 3) nd rfl (by first | exact Or.inl rfl | exact Or.inr rfl) (d_dnewK)) (s_cons (s_set (i := 4) nd rfl (by first | exact Or.inl rfl | exact Or.inr rfl) (d_B cr_sortedI cd_sorted (by rfl) T.z_sorted PyProof.Rows.boot_sorted (a_cons (d_BT (call_listD rfl) cd_dlist (by rfl) T.z_list PyProof.Rows.boot_list (a_cons (dv 1) (a_nil))) (a_nil)))) (s_cons (s_for PassesOwn.never rfl (n_L (d_sl (dv 0) (o_some (d_int)) (o_some (d_int)))) (g_name (i := 5) nd rfl (by first | exact Or.inl rfl | exact Or.inr rfl)) (s_cons (s_set (i := 6) nd rfl (by first | exact Or.inl rfl | exact Or.inr rfl) (d_op op_mod opd_mod (d_op op_mulA opd_mul (dv 5) (d_int)) (d_int))) (s_cons (s_set (i := 7) nd rfl (by first | exact Or.inl rfl | exact Or.inr rfl) (d_ix (dv 4) (d_op op_mod opd_mod (d_op op_fdivB opd_fdiv (dv 6) (d_int)) (d_B call_len cd_len (by rfl) T.z_len PySem.boot_len (a_cons (dv 4) (a_nil)))))) (s_cons (s_set (i := 8) nd rfl (by first | exact Or.inl rfl | exact Or.inr rfl) (d_call (ok__law_word T) (hr.mono (by decide)) (by rfl) T.m__law_word T.F__law_word.kp T.b__law_word .nil (fun _ _ => .nil) (a_cons (dv 6) (a_nil)))) (s_cut (s_if (DW.t (w_and (t_cmp op_lt opd_lt (d_op op_mod opd_mod (dv 6) (d_int)) (d_int) (nomark _)) (w_and (t_cmp (op_dnotin hr.units) opd_dnotin (dv 7) (dv 2) (by rfl)) (w_and1 (t_cmp (op_neA hr.units) opd_ne (d_ix (d_dget hr.units (dv 1) (dv 7)) (d_int)) (dv 8) (nomark _)))))) (s_one (s_dput hr.units (i := 2) (hk := dv 7) (h := dv 8))) (s_nil)) (s_cons (s_set (i := 7) nd rfl (by first | exact Or.inl rfl | exact Or.inr rfl) (d_ix (dv 4) (d_op op_mod opd_mod (d_op op_mod opd_mod (d_op op_mulA opd_mul (dv 5) (d_int)) (d_int)) (d_B call_len cd_len (by rfl) T.z_len PySem.boot_len (a_cons (dv 4) (a_nil)))))) (s_cons (s_set (i := 9) nd rfl (by first | exact Or.inl rfl | exact Or.inr rfl) (d_ix (d_dget hr.units (dv 1) (dv 7)) (d_int))) (s_one (s_if (DW.t (w_and (t_cmp op_notN opd_isnt (dv 9) (d_non) (nomark _)) (w_and1 (t_cmp (op_dnotin hr.units) opd_dnotin (dv 7) (dv 3) (by rfl))))) (s_one (s_dput hr.units (i := 3) (hk := dv 7) (h := d_tup (i_cons (dv 9) (i_cons (d_tup (i_cons (d_op op_sub opd_sub (d_op op_mod opd_mod (d_op op_fdivB opd_fdiv (dv 5) (d_int)) (d_op op_addA opd_add (d_op op_mulA opd_mul (d_int) (d_op op_pow opd_pow (d_int) (d_int))) (d_int))) (d_op op_pow opd_pow (d_int) (d_int))) (i_cons (d_int) (i_cons (dv 7) (i_cons (d_int) (i_nil)))))) (i_nil)))))) (s_nil)))))))))) (s_cut (s_if (DW.t (w_and (t_cmp (op_dnotin hr.units) opd_dnotin (d_ix (dv 4) (d_un un_neg und_neg (d_int))) (dv 2) (by rfl)) (w_and1 (t_cmp (op_neA hr.units) opd_ne (d_ix (d_dget hr.units (dv 1) (d_ix (dv 4) (d_un un_neg und_neg (d_int)))) (d_int)) (d_str) (nomark _))))) (s_one (s_dput hr.units (i := 2) (hk := d_ix (dv 4) (d_un un_neg und_neg (d_int))) (h := d_str))) (s_nil)) (s_cons (s_for PassesOwn.never rfl (n_L (d_sl (dv 4) (o_some (d_un un_neg und_neg (d_int))) (o_none))) (g_name (i := 7) nd rfl (by first | exact Or.inl rfl | exact Or.inr rfl)) (s_one (s_if (DW.t (w_and (t_cmp op_notN opd_isnt (d_ix (d_dget hr.units (dv 1) (dv 7)) (d_int)) (d_non) (nomark _)) (w_and1 (t_cmp (op_dnotin hr.units) opd_dnotin (dv 7) (dv 3) (by rfl))))) (s_one (s_dput hr.units (i := 3) (hk := dv 7) (h := d_tup (i_cons (d_ix (d_dget hr.units (dv 1) (dv 7)) (d_int)) (i_cons (d_tup (i_cons (d_int) (i_cons (d_int) (i_cons (dv 7) (i_cons (d_int) (i_nil)))))) (i_nil)))))) (s_nil)))) (s_one (s_ret (d_tup (i_cons (dm 2) (i_cons (dm 3) (i_nil)))))))))))
theorem ok__law_due (T : Txt K mg) : FnOk P w K mg base CX0 1 T.a__law_due T.fd__law_due P__law_due (spD ⟨K, w⟩ spec__law_due) := by
  refine okD (K := ⟨K, w⟩) (ws := ws__law_due) T.F__law_due sc__law_due len__law_due (fun cdv A outer s H E hr => ?_) pure__law_due
  have nd := sc__law_due.nd
  exact s_cons (s_set (i := 3) nd rfl (by first | exact Or.inl rfl | exact Or.inr rfl) (d_dnewK)) (s_cons (s_forK (i := 0) PassesOwn.never rfl (g_name (i := 4) nd rfl (by first | exact Or.inl rfl | exact Or.inr rfl)) (s_cons (s_asg (d_dget hr.units (dv 0) (dv 4)) (g_tup rfl (gs_cons (g_name (i := 5) nd rfl (by first | exact Or.inl rfl | exact Or.inr rfl)) (gs_cons (g_name (i := 6) nd rfl (by first | exact Or.inl rfl | exact Or.inr rfl)) (gs_cons (g_name (i := 7) nd rfl (by first | exact Or.inl rfl | exact Or.inr rfl)) (gs_nil)))))) (s_cut (s_if (t_cmp (op_din hr.units) opd_din (dv 4) (dv 1) (by rfl)) (s_one (s_set (i := 5) nd rfl (by first | exact Or.inl rfl | exact Or.inr rfl) (d_dget hr.units (dv 1) (dv 4)))) (s_nil)) (s_cut (s_if (t_cmp (op_din hr.units) opd_din (dv 4) (dv 2) (by rfl)) (s_one (s_asg (d_dget hr.units (dv 2) (dv 4)) (g_tup rfl (gs_cons (g_name (i := 6) nd rfl (by first | exact Or.inl rfl | exact Or.inr rfl)) (gs_cons (g_name (i := 7) nd rfl (by first | exact Or.inl rfl | exact Or.inr rfl)) (gs_nil)))))) (s_nil)) (s_one (s_dput hr.units (i := 3) (hk := dv 4) (h := d_tup (i_cons (dv 5) (i_cons (dv 6) (i_cons (dv 7) (i_nil))))))))))) (s_one (s_ret (dm 3))))
theorem ok__law_good (T : Txt K mg) : FnOk P w K mg base CX0 1 T.a__law_good T.fd__law_good P__law_good (spD ⟨K, w⟩ spec__law_good) := by
  refine okD (K := ⟨K, w⟩) (ws := ws__law_good) T.F__law_good sc__law_good len__law_good (fun cdv A outer s H E hr => ?_) pure__law_good
  have nd := sc__law_good.nd
  exact s_cons (s_if (DW.t (w_or (t_not (t_val (d_B call_isi cd_isi (by rfl) T.z_isinstance PyProof.Rows.boot_isinstance (a_cons (dv 0) (a_cons (d_ty (by rfl) T.z_tuple PyProof.Rows.boot_tuple) (a_nil)))))) (w_or1 (t_cmp (op_neA hr.units) opd_ne (d_B call_len cd_len (by rfl) T.z_len PySem.boot_len (a_cons (dv 0) (a_nil))) (d_int) (nomark _))))) (s_one (s_ret (d_bl))) (s_nil)) (s_cons (s_if (DW.t (w_or (t_not (t_val (d_B call_isi cd_isi (by rfl) T.z_isinstance PyProof.Rows.boot_isinstance (a_cons (d_ix (dv 0) (d_int)) (a_cons (d_ty (by rfl) T.z_dict PyProof.Rows.boot_dict) (a_nil)))))) (w_or1 (t_not (t_val (d_B call_isi cd_isi (by rfl) T.z_isinstance PyProof.Rows.boot_isinstance (a_cons (d_ix (dv 0) (d_int)) (a_cons (d_ty (by rfl) T.z_list PyProof.Rows.boot_list) (a_nil))))))))) (s_one (s_ret (d_bl))) (s_nil)) (s_one (s_ret (d_and (d_cmp (op_deq (units65 hr)) opd_deq (d_ix (dv 0) (d_int)) (dv 1) (nomark _)) (d_one (d_cmp (op_eqA hr.units) opd_eq (d_ix (dv 0) (d_int)) (d_lst (i_nil)) (nomark _)))))))
theorem ok_i_Deed (T : Txt K mg) : FnOk P w K mg base CX0 1 T.ai_Deed T.fdi_Deed Pi_Deed (spI K ["mark"]) := by
  exact okI1 T.Fi_Deed sci_Deed (body := fun _ _ _ _ _ _ => pss_one (ps_fld (pv 0) (pv 1) rfl))
theorem ok_i_Word (T : Txt K mg) : FnOk P w K mg base CX0 2 T.ai_Word T.fdi_Word Pi_Word (spI K ["mark", "old", "new"]) := by
  refine okI3 (g1 := "mark") (g2 := "old") (g3 := "new") T.Fi_Word sci_Word (by decide +kernel) (by decide +kernel) (by decide +kernel) (body := fun _ _ _ _ _ _ hr => ?_)
  exact pss_cons (ps_expr (pe_clscall (by rfl) T.mc_Deed T.cr_Deed T.cv_Deed T.Fi_Deed.kp (ok_i_Deed T) hr T.bi_Deed pass0 (pa_cons (pv 0) (pa_cons (pv 1) pa_nil)))) (pss_cons (ps_fld (pv 0) (pv 2) rfl) (pss_one (ps_fld (pv 0) (pv 3) rfl)))
theorem ok_i_Spot (T : Txt K mg) : FnOk P w K mg base CX0 2 T.ai_Spot T.fdi_Spot Pi_Spot (spI K ["mark", "old", "new"]) := by
  refine okI3 (g1 := "mark") (g2 := "old") (g3 := "new") T.Fi_Spot sci_Spot (by decide +kernel) (by decide +kernel) (by decide +kernel) (body := fun _ _ _ _ _ _ hr => ?_)
  exact pss_cons (ps_expr (pe_clscall (by rfl) T.mc_Deed T.cr_Deed T.cv_Deed T.Fi_Deed.kp (ok_i_Deed T) hr T.bi_Deed pass0 (pa_cons (pv 0) (pa_cons (pv 1) pa_nil)))) (pss_cons (ps_fld (pv 0) (pv 2) rfl) (pss_one (ps_fld (pv 0) (pv 3) rfl)))
theorem ok_law (T : Txt K mg) : FnOk P w K mg base CX0 5 T.a_law T.fd_law P_law (spD ⟨K, w⟩ spec_law) := by
  refine okD (K := ⟨K, w⟩) (ws := ws_law) T.F_law sc_law len_law (fun cdv A outer s H E hr => ?_) pure_law
  have nd := sc_law.nd
  exact s_cons (s_set (i := 1) nd rfl (by first | exact Or.inl rfl | exact Or.inr rfl) (d_call (ok__law_kept T) (hr.mono (by decide)) (by rfl) T.m__law_kept T.F__law_kept.kp T.b__law_kept .nil (fun _ _ => .nil) (a_cons (dv 0) (a_nil)))) (s_cons (s_asg (d_call (ok__law_changes T) (hr.mono (by decide)) (by rfl) T.m__law_changes T.F__law_changes.kp T.b__law_changes .nil (fun _ _ => .nil) (a_cons (dv 0) (a_cons (dv 1) (a_nil)))) (g_tup rfl (gs_cons (g_name (i := 2) nd rfl (by first | exact Or.inl rfl | exact Or.inr rfl)) (gs_cons (g_name (i := 3) nd rfl (by first | exact Or.inl rfl | exact Or.inr rfl)) (gs_nil))))) (s_cons (s_frS (i := 1) (s_frS (i := 2) (s_frS (i := 3) (s_setLcK (j := 4) (own := [("mark", 10)]) (g := gName 10) rfl nd rfl rfl (sw_true rfl rfl rfl (by decide +kernel)) (i := 2) (blkOk_by (own := [("mark", 10)]) (N := N_law) (sc := defScope s_law) (by decide +kernel)) (fun _ _ _ _ _ => c_name nd rfl (by first | exact Or.inl rfl | exact Or.inr rfl) (by decide)) (fun _ _ _ _ _ => d_fzE (d_mk T.clsF T.mk_Word (ok_i_Word T) (hr.mono (by decide)) (by rfl) T.mc_Word T.bi_Word T.nc_Word (by decide) (by decide) (a_cons (dv 10) (a_cons (d_ix (d_dget hr.units (dv 1) (dv 10)) (d_int)) (a_cons (d_dget hr.units (dv 2) (dv 10)) (a_nil)))))))))) (s_cons (s_frS (i := 4) (s_setLcK (j := 5) (own := [("mark", 10)]) (g := gName 10) rfl nd rfl rfl (sw_true rfl rfl rfl (by decide +kernel)) (i := 3) (blkOk_by (own := [("mark", 10)]) (N := N_law) (sc := defScope s_law) (by decide +kernel)) (fun _ _ _ _ _ => c_name nd rfl (by first | exact Or.inl rfl | exact Or.inr rfl) (by decide)) (fun _ _ _ _ _ => d_fzE (d_mk T.clsF T.mk_Spot (ok_i_Spot T) (hr.mono (by decide)) (by rfl) T.mc_Spot T.bi_Spot T.nc_Spot (by decide) (by decide) (a_cons (dv 10) (a_cons (d_sl (d_dget hr.units (dv 1) (dv 10)) (o_some (d_int)) (o_none)) (a_cons (d_dget hr.units (dv 3) (dv 10)) (a_nil)))))))) (s_cons (s_frS (i := 5) (s_set (i := 6) nd rfl (by first | exact Or.inl rfl | exact Or.inr rfl) (d_call (ok__law_due T) (hr.mono (by decide)) (by rfl) T.m__law_due T.F__law_due.kp T.b__law_due .nil (fun _ _ => .nil) (a_cons (dv 1) (a_cons (dv 2) (a_cons (dv 3) (a_nil))))))) (s_cons (s_set (i := 7) nd rfl (by first | exact Or.inl rfl | exact Or.inr rfl) (d_BT call_dictD cd_dcopy (by rfl) T.z_dict PyProof.Rows.boot_dict (a_cons (dv 1) (a_nil)))) (s_cons (s_set (i := 8) nd rfl (by first | exact Or.inl rfl | exact Or.inr rfl) (d_BT call_list_of cd_list (by rfl) T.z_list PyProof.Rows.boot_list (a_cons (dv 4) (a_nil)))) (s_cons (s_set (i := 9) nd rfl (by first | exact Or.inl rfl | exact Or.inr rfl) (d_BT call_list_of cd_list (by rfl) T.z_list PyProof.Rows.boot_list (a_cons (dv 5) (a_nil)))) (s_cons (s_frS (i := 8) (s_frS (i := 9) (s_frS (i := 6) (s_if (t_not (t_val (d_call (ok__law_good T) (hr.mono (by decide)) (by rfl) T.m__law_good T.F__law_good.kp T.b__law_good .nil (fun _ _ => .nil) (a_cons (d_call (ok_meet_of T) (hr.mono (by decide)) (by rfl) T.m_meet_of T.F_meet_of.kp T.b_meet_of .nil (fun _ _ => .nil) (a_cons (dv 7) (a_cons (dv 8) (a_cons (dv 9) (a_nil))))) (a_cons (dv 6) (a_nil)))))) (s_one (s_ret (d_bl))) (s_nil))))) (s_cons (s_if (t_not (t_val (d_call (ok__law_good T) (hr.mono (by decide)) (by rfl) T.m__law_good T.F__law_good.kp T.b__law_good .nil (fun _ _ => .nil) (a_cons (d_call (ok_meet_of T) (hr.mono (by decide)) (by rfl) T.m_meet_of T.F_meet_of.kp T.b_meet_of .nil (fun _ _ => .nil) (a_cons (dv 7) (a_cons (dv 9) (a_cons (dv 8) (a_nil))))) (a_cons (dv 6) (a_nil)))))) (s_one (s_ret (d_bl))) (s_nil)) (s_cons (s_if (DW.t (w_or (t_cmp (op_dne (units65 hr)) opd_dne (dv 7) (dv 1) (nomark _)) (w_or1 (t_cmp (op_neA hr.units) opd_ne (d_lc (own := [("deed", 11)]) (g := gName 11) rfl nd (n_L (dv 8)) (blkOk_by (own := [("deed", 11)]) (N := N_law) (sc := defScope s_law) (by decide +kernel)) (fun _ _ _ _ _ => c_name nd rfl (by first | exact Or.inl rfl | exact Or.inr rfl) (by decide)) (fun _ _ _ _ _ => d_fld T.clsF (dv 11))) (d_BT (call_listD rfl) cd_dlist (by rfl) T.z_list PyProof.Rows.boot_list (a_cons (dv 2) (a_nil))) (nomark _))))) (s_one (s_ret (d_bl))) (s_nil)) (s_one (s_ret (d_cmp (op_eqA hr.units) opd_eq (d_lc (own := [("deed", 11)]) (g := gName 11) rfl nd (n_L (dv 9)) (blkOk_by (own := [("deed", 11)]) (N := N_law) (sc := defScope s_law) (by decide +kernel)) (fun _ _ _ _ _ => c_name nd rfl (by first | exact Or.inl rfl | exact Or.inr rfl) (by decide)) (fun _ _ _ _ _ => d_fld T.clsF (dv 11))) (d_BT (call_listD rfl) cd_dlist (by rfl) T.z_list PyProof.Rows.boot_list (a_cons (dv 3) (a_nil))) (nomark _))))))))))))))
end
theorem all_mk {l : PySem.W.OpenLaw} {w : World} {K : PySem.W.Frag} {h : Heap} {mg : Str → Option Value} {fa : Addr} (X : K.In h) (G : h.Ns mainGlobals mg) (hfa : mg "law" = some (.ref fa))
    {od0 an0 : Option Addr} {sl0 : Array (Option Value)} {oc0 kV0 dc0 pm0 cd0 ct0 : Value} {f0 : Addr} {od1 an1 : Option Addr} {sl1 : Array (Option Value)} {oc1 kV1 dc1 pm1 cd1 ct1 : Value} {f1 : Addr} {od2 an2 : Option Addr} {sl2 : Array (Option Value)} {oc2 kV2 dc2 pm2 cd2 ct2 : Value} {f2 : Addr} {od3 an3 : Option Addr} {sl3 : Array (Option Value)} {oc3 kV3 dc3 pm3 cd3 ct3 : Value} {f3 : Addr} {od4 an4 : Option Addr} {sl4 : Array (Option Value)} {oc4 kV4 dc4 pm4 cd4 ct4 : Value} {f4 : Addr} {od5 an5 : Option Addr} {sl5 : Array (Option Value)} {oc5 kV5 dc5 pm5 cd5 ct5 : Value} {f5 : Addr} {od6 an6 : Option Addr} {sl6 : Array (Option Value)} {oc6 kV6 dc6 pm6 cd6 ct6 : Value} {f6 : Addr} {od7 an7 : Option Addr} {sl7 : Array (Option Value)} {oc7 kV7 dc7 pm7 cd7 ct7 : Value} {f7 : Addr} {od8 an8 : Option Addr} {sl8 : Array (Option Value)} {oc8 kV8 dc8 pm8 cd8 ct8 : Value} {f8 : Addr} {od9 an9 : Option Addr} {sl9 : Array (Option Value)} {oc9 kV9 dc9 pm9 cd9 ct9 : Value} {f9 : Addr} {od10 an10 : Option Addr} {sl10 : Array (Option Value)} {oc10 kV10 dc10 pm10 cd10 ct10 : Value} {f10 : Addr} {od11 an11 : Option Addr} {sl11 : Array (Option Value)} {oc11 kV11 dc11 pm11 cd11 ct11 : Value} {f11 : Addr} {od12 an12 : Option Addr} {sl12 : Array (Option Value)} {oc12 kV12 dc12 pm12 cd12 ct12 : Value} {f12 : Addr} {od13 an13 : Option Addr} {sl13 : Array (Option Value)} {oc13 kV13 dc13 pm13 cd13 ct13 : Value} {f13 : Addr} {od14 an14 : Option Addr} {sl14 : Array (Option Value)} {oc14 kV14 dc14 pm14 cd14 ct14 : Value} {f14 : Addr} {od15 an15 : Option Addr} {sl15 : Array (Option Value)} {oc15 kV15 dc15 pm15 cd15 ct15 : Value} {f15 : Addr} {od16 an16 : Option Addr} {sl16 : Array (Option Value)} {oc16 kV16 dc16 pm16 cd16 ct16 : Value} {f16 : Addr} {od17 an17 : Option Addr} {sl17 : Array (Option Value)} {oc17 kV17 dc17 pm17 cd17 ct17 : Value} {f17 : Addr} {od18 an18 : Option Addr} {sl18 : Array (Option Value)} {oc18 kV18 dc18 pm18 cd18 ct18 : Value} {f18 : Addr} {od19 an19 : Option Addr} {sl19 : Array (Option Value)} {oc19 kV19 dc19 pm19 cd19 ct19 : Value} {f19 : Addr} {od20 an20 : Option Addr} {sl20 : Array (Option Value)} {oc20 kV20 dc20 pm20 cd20 ct20 : Value} {f20 : Addr} {od21 an21 : Option Addr} {sl21 : Array (Option Value)} {oc21 kV21 dc21 pm21 cd21 ct21 : Value} {f21 : Addr} {od22 an22 : Option Addr} {sl22 : Array (Option Value)} {oc22 kV22 dc22 pm22 cd22 ct22 : Value} {f22 : Addr} {od23 an23 : Option Addr} {sl23 : Array (Option Value)} {oc23 kV23 dc23 pm23 cd23 ct23 : Value} {f23 : Addr} {od24 an24 : Option Addr} {sl24 : Array (Option Value)} {oc24 kV24 dc24 pm24 cd24 ct24 : Value} {f24 : Addr} {od25 an25 : Option Addr} {sl25 : Array (Option Value)} {oc25 kV25 dc25 pm25 cd25 ct25 : Value} {f25 : Addr} {od26 an26 : Option Addr} {sl26 : Array (Option Value)} {oc26 kV26 dc26 pm26 cd26 ct26 : Value} {f26 : Addr} {od27 an27 : Option Addr} {sl27 : Array (Option Value)} {oc27 kV27 dc27 pm27 cd27 ct27 : Value} {f27 : Addr}
    (l0 : K.lookup f0 = some ⟨oc0, od0, .func (PySem.W.fnOf "facts" "Word.facts" (defArgs s_Word_facts) (defBody s_Word_facts) (defScope s_Word_facts) .none kV0 dc0 pm0 an0 cd0 ct0), sl0⟩) (c0 : PySem.W.codeIn K cd0 "Word.facts" = true) (k0 : PySem.W.keepIn K (.ref f0) = true)
    (l1 : K.lookup f1 = some ⟨oc1, od1, .func (PySem.W.fnOf "fits" "Word.fits" (defArgs s_Word_fits) (defBody s_Word_fits) (defScope s_Word_fits) .none kV1 dc1 pm1 an1 cd1 ct1), sl1⟩) (c1 : PySem.W.codeIn K cd1 "Word.fits" = true) (k1 : PySem.W.keepIn K (.ref f1) = true)
    (l2 : K.lookup f2 = some ⟨oc2, od2, .func (PySem.W.fnOf "put_on" "Word.put_on" (defArgs s_Word_put_on) (defBody s_Word_put_on) (defScope s_Word_put_on) .none kV2 dc2 pm2 an2 cd2 ct2), sl2⟩) (c2 : PySem.W.codeIn K cd2 "Word.put_on" = true) (k2 : PySem.W.keepIn K (.ref f2) = true)
    (l3 : K.lookup f3 = some ⟨oc3, od3, .func (PySem.W.fnOf "told" "Word.told" (defArgs s_Word_told) (defBody s_Word_told) (defScope s_Word_told) .none kV3 dc3 pm3 an3 cd3 ct3), sl3⟩) (c3 : PySem.W.codeIn K cd3 "Word.told" = true) (k3 : PySem.W.keepIn K (.ref f3) = true)
    (l4 : K.lookup f4 = some ⟨oc4, od4, .func (PySem.W.fnOf "facts" "Spot.facts" (defArgs s_Spot_facts) (defBody s_Spot_facts) (defScope s_Spot_facts) .none kV4 dc4 pm4 an4 cd4 ct4), sl4⟩) (c4 : PySem.W.codeIn K cd4 "Spot.facts" = true) (k4 : PySem.W.keepIn K (.ref f4) = true)
    (l5 : K.lookup f5 = some ⟨oc5, od5, .func (PySem.W.fnOf "fits" "Spot.fits" (defArgs s_Spot_fits) (defBody s_Spot_fits) (defScope s_Spot_fits) .none kV5 dc5 pm5 an5 cd5 ct5), sl5⟩) (c5 : PySem.W.codeIn K cd5 "Spot.fits" = true) (k5 : PySem.W.keepIn K (.ref f5) = true)
    (l6 : K.lookup f6 = some ⟨oc6, od6, .func (PySem.W.fnOf "put_on" "Spot.put_on" (defArgs s_Spot_put_on) (defBody s_Spot_put_on) (defScope s_Spot_put_on) .none kV6 dc6 pm6 an6 cd6 ct6), sl6⟩) (c6 : PySem.W.codeIn K cd6 "Spot.put_on" = true) (k6 : PySem.W.keepIn K (.ref f6) = true)
    (l7 : K.lookup f7 = some ⟨oc7, od7, .func (PySem.W.fnOf "told" "Spot.told" (defArgs s_Spot_told) (defBody s_Spot_told) (defScope s_Spot_told) .none kV7 dc7 pm7 an7 cd7 ct7), sl7⟩) (c7 : PySem.W.codeIn K cd7 "Spot.told" = true) (k7 : PySem.W.keepIn K (.ref f7) = true)
    (a8 : PySem.W.nsIn K mainGlobals "leads_up" = some (some (.ref f8))) (l8 : K.lookup f8 = some ⟨oc8, od8, .func (PySem.W.fnOf "leads_up" "leads_up" (defArgs s_leads_up) (defBody s_leads_up) (defScope s_leads_up) .none kV8 dc8 pm8 an8 cd8 ct8), sl8⟩) (c8 : PySem.W.codeIn K cd8 "leads_up" = true) (k8 : PySem.W.keepIn K (.ref f8) = true)
    (a9 : PySem.W.nsIn K mainGlobals "is_kept" = some (some (.ref f9))) (l9 : K.lookup f9 = some ⟨oc9, od9, .func (PySem.W.fnOf "is_kept" "is_kept" (defArgs s_is_kept) (defBody s_is_kept) (defScope s_is_kept) .none kV9 dc9 pm9 an9 cd9 ct9), sl9⟩) (c9 : PySem.W.codeIn K cd9 "is_kept" = true) (k9 : PySem.W.keepIn K (.ref f9) = true)
    (a10 : PySem.W.nsIn K mainGlobals "root_mark" = some (some (.ref f10))) (l10 : K.lookup f10 = some ⟨oc10, od10, .func (PySem.W.fnOf "root_mark" "root_mark" (defArgs s_root_mark) (defBody s_root_mark) (defScope s_root_mark) .none kV10 dc10 pm10 an10 cd10 ct10), sl10⟩) (c10 : PySem.W.codeIn K cd10 "root_mark" = true) (k10 : PySem.W.keepIn K (.ref f10) = true)
    (a11 : PySem.W.nsIn K mainGlobals "check_facts" = some (some (.ref f11))) (l11 : K.lookup f11 = some ⟨oc11, od11, .func (PySem.W.fnOf "check_facts" "check_facts" (defArgs s_check_facts) (defBody s_check_facts) (defScope s_check_facts) .none kV11 dc11 pm11 an11 cd11 ct11), sl11⟩) (c11 : PySem.W.codeIn K cd11 "check_facts" = true) (k11 : PySem.W.keepIn K (.ref f11) = true)
    (a12 : PySem.W.nsIn K mainGlobals "done_on" = some (some (.ref f12))) (l12 : K.lookup f12 = some ⟨oc12, od12, .func (PySem.W.fnOf "done_on" "done_on" (defArgs s_done_on) (defBody s_done_on) (defScope s_done_on) .none kV12 dc12 pm12 an12 cd12 ct12), sl12⟩) (c12 : PySem.W.codeIn K cd12 "done_on" = true) (k12 : PySem.W.keepIn K (.ref f12) = true)
    (a13 : PySem.W.nsIn K mainGlobals "deeds_beyond" = some (some (.ref f13))) (l13 : K.lookup f13 = some ⟨oc13, od13, .func (PySem.W.fnOf "deeds_beyond" "deeds_beyond" (defArgs s_deeds_beyond) (defBody s_deeds_beyond) (defScope s_deeds_beyond) .none kV13 dc13 pm13 an13 cd13 ct13), sl13⟩) (c13 : PySem.W.codeIn K cd13 "deeds_beyond" = true) (k13 : PySem.W.keepIn K (.ref f13) = true)
    (a14 : PySem.W.nsIn K mainGlobals "facts_of" = some (some (.ref f14))) (l14 : K.lookup f14 = some ⟨oc14, od14, .func (PySem.W.fnOf "facts_of" "facts_of" (defArgs s_facts_of) (defBody s_facts_of) (defScope s_facts_of) .none kV14 dc14 pm14 an14 cd14 ct14), sl14⟩) (c14 : PySem.W.codeIn K cd14 "facts_of" = true) (k14 : PySem.W.keepIn K (.ref f14) = true)
    (a15 : PySem.W.nsIn K mainGlobals "both_marks" = some (some (.ref f15))) (l15 : K.lookup f15 = some ⟨oc15, od15, .func (PySem.W.fnOf "both_marks" "both_marks" (defArgs s_both_marks) (defBody s_both_marks) (defScope s_both_marks) .none kV15 dc15 pm15 an15 cd15 ct15), sl15⟩) (c15 : PySem.W.codeIn K cd15 "both_marks" = true) (k15 : PySem.W.keepIn K (.ref f15) = true)
    (a16 : PySem.W.nsIn K mainGlobals "is_lost" = some (some (.ref f16))) (l16 : K.lookup f16 = some ⟨oc16, od16, .func (PySem.W.fnOf "is_lost" "is_lost" (defArgs s_is_lost) (defBody s_is_lost) (defScope s_is_lost) .none kV16 dc16 pm16 an16 cd16 ct16), sl16⟩) (c16 : PySem.W.codeIn K cd16 "is_lost" = true) (k16 : PySem.W.keepIn K (.ref f16) = true)
    (a17 : PySem.W.nsIn K mainGlobals "lost_marks" = some (some (.ref f17))) (l17 : K.lookup f17 = some ⟨oc17, od17, .func (PySem.W.fnOf "lost_marks" "lost_marks" (defArgs s_lost_marks) (defBody s_lost_marks) (defScope s_lost_marks) .none kV17 dc17 pm17 an17 cd17 ct17), sl17⟩) (c17 : PySem.W.codeIn K cd17 "lost_marks" = true) (k17 : PySem.W.keepIn K (.ref f17) = true)
    (a18 : PySem.W.nsIn K mainGlobals "key_marks" = some (some (.ref f18))) (l18 : K.lookup f18 = some ⟨oc18, od18, .func (PySem.W.fnOf "key_marks" "key_marks" (defArgs s_key_marks) (defBody s_key_marks) (defScope s_key_marks) .none kV18 dc18 pm18 an18 cd18 ct18), sl18⟩) (c18 : PySem.W.codeIn K cd18 "key_marks" = true) (k18 : PySem.W.keepIn K (.ref f18) = true)
    (a19 : PySem.W.nsIn K mainGlobals "ring_marks" = some (some (.ref f19))) (l19 : K.lookup f19 = some ⟨oc19, od19, .func (PySem.W.fnOf "ring_marks" "ring_marks" (defArgs s_ring_marks) (defBody s_ring_marks) (defScope s_ring_marks) .none kV19 dc19 pm19 an19 cd19 ct19), sl19⟩) (c19 : PySem.W.codeIn K cd19 "ring_marks" = true) (k19 : PySem.W.keepIn K (.ref f19) = true)
    (a20 : PySem.W.nsIn K mainGlobals "meet_of" = some (some (.ref f20))) (l20 : K.lookup f20 = some ⟨oc20, od20, .func (PySem.W.fnOf "meet_of" "meet_of" (defArgs s_meet_of) (defBody s_meet_of) (defScope s_meet_of) .none kV20 dc20 pm20 an20 cd20 ct20), sl20⟩) (c20 : PySem.W.codeIn K cd20 "meet_of" = true) (k20 : PySem.W.keepIn K (.ref f20) = true)
    (a21 : PySem.W.nsIn K mainGlobals "_law_word" = some (some (.ref f21))) (l21 : K.lookup f21 = some ⟨oc21, od21, .func (PySem.W.fnOf "_law_word" "_law_word" (defArgs s__law_word) (defBody s__law_word) (defScope s__law_word) .none kV21 dc21 pm21 an21 cd21 ct21), sl21⟩) (c21 : PySem.W.codeIn K cd21 "_law_word" = true) (k21 : PySem.W.keepIn K (.ref f21) = true)
    (a22 : PySem.W.nsIn K mainGlobals "_law_mark" = some (some (.ref f22))) (l22 : K.lookup f22 = some ⟨oc22, od22, .func (PySem.W.fnOf "_law_mark" "_law_mark" (defArgs s__law_mark) (defBody s__law_mark) (defScope s__law_mark) .none kV22 dc22 pm22 an22 cd22 ct22), sl22⟩) (c22 : PySem.W.codeIn K cd22 "_law_mark" = true) (k22 : PySem.W.keepIn K (.ref f22) = true)
    (a23 : PySem.W.nsIn K mainGlobals "_law_kept" = some (some (.ref f23))) (l23 : K.lookup f23 = some ⟨oc23, od23, .func (PySem.W.fnOf "_law_kept" "_law_kept" (defArgs s__law_kept) (defBody s__law_kept) (defScope s__law_kept) .none kV23 dc23 pm23 an23 cd23 ct23), sl23⟩) (c23 : PySem.W.codeIn K cd23 "_law_kept" = true) (k23 : PySem.W.keepIn K (.ref f23) = true)
    (a24 : PySem.W.nsIn K mainGlobals "_law_changes" = some (some (.ref f24))) (l24 : K.lookup f24 = some ⟨oc24, od24, .func (PySem.W.fnOf "_law_changes" "_law_changes" (defArgs s__law_changes) (defBody s__law_changes) (defScope s__law_changes) .none kV24 dc24 pm24 an24 cd24 ct24), sl24⟩) (c24 : PySem.W.codeIn K cd24 "_law_changes" = true) (k24 : PySem.W.keepIn K (.ref f24) = true)
    (a25 : PySem.W.nsIn K mainGlobals "_law_due" = some (some (.ref f25))) (l25 : K.lookup f25 = some ⟨oc25, od25, .func (PySem.W.fnOf "_law_due" "_law_due" (defArgs s__law_due) (defBody s__law_due) (defScope s__law_due) .none kV25 dc25 pm25 an25 cd25 ct25), sl25⟩) (c25 : PySem.W.codeIn K cd25 "_law_due" = true) (k25 : PySem.W.keepIn K (.ref f25) = true)
    (a26 : PySem.W.nsIn K mainGlobals "_law_good" = some (some (.ref f26))) (l26 : K.lookup f26 = some ⟨oc26, od26, .func (PySem.W.fnOf "_law_good" "_law_good" (defArgs s__law_good) (defBody s__law_good) (defScope s__law_good) .none kV26 dc26 pm26 an26 cd26 ct26), sl26⟩) (c26 : PySem.W.codeIn K cd26 "_law_good" = true) (k26 : PySem.W.keepIn K (.ref f26) = true)
    (a27 : PySem.W.nsIn K mainGlobals "law" = some (some (.ref f27))) (l27 : K.lookup f27 = some ⟨oc27, od27, .func (PySem.W.fnOf "law" "law" (defArgs s_law) (defBody s_law) (defScope s_law) .none kV27 dc27 pm27 an27 cd27 ct27), sl27⟩) (c27 : PySem.W.codeIn K cd27 "law" = true) (k27 : PySem.W.keepIn K (.ref f27) = true)
    {cc_Word ci_Word : Addr} {odi_Word ani_Word : Option Addr} {sli_Word : Array (Option Value)} {oci_Word kVi_Word dci_Word pmi_Word cdi_Word cti_Word : Value}
    (anc_Word : PySem.W.nsIn K mainGlobals "Word" = some (some (.ref cc_Word)))
    (fic_Word : PySem.W.findIn K (.ref cc_Word) "__init__" = some (some (.ref ci_Word)))
    (ific_Word : PySem.W.isFn K (.ref ci_Word) = true)
    (pgc_Word : PySem.W.plainGet K cc_Word Str.empty = true)
    (hdc_Word : PySem.W.hasDictIn K cc_Word = true)
    (poc_Word : PySem.W.plainOver K cc_Word = true)
    (sac_Word : PySem.W.findIn K (.ref cc_Word) "__setattr__" = some (some (.builtin "object.__setattr__")))
    (mkc_Word : PySem.W.makesIn K cc_Word = true)
    (kcc_Word : PySem.W.keepIn K (.ref cc_Word) = true)
    (mtf_Word_facts : PySem.W.findIn K (.ref cc_Word) "facts" = some (some (.ref f0)))
    (mtf_Word_fits : PySem.W.findIn K (.ref cc_Word) "fits" = some (some (.ref f1)))
    (mtf_Word_put_on : PySem.W.findIn K (.ref cc_Word) "put_on" = some (some (.ref f2)))
    (mtf_Word_told : PySem.W.findIn K (.ref cc_Word) "told" = some (some (.ref f3)))
    (naf_Word_mark : PySem.W.findIn K (.ref cc_Word) "mark" = some none)
    (naf_Word_old : PySem.W.findIn K (.ref cc_Word) "old" = some none)
    (naf_Word_new : PySem.W.findIn K (.ref cc_Word) "new" = some none)
    (li_Word : K.lookup ci_Word = some ⟨oci_Word, odi_Word, .func (PySem.W.fnOf "__init__" "Word.__init__" (defArgs si_Word) (defBody si_Word) (defScope si_Word) .none kVi_Word dci_Word pmi_Word ani_Word cdi_Word cti_Word), sli_Word⟩)
    (coi_Word : PySem.W.codeIn K cdi_Word "Word.__init__" = true)
    (ki_Word : PySem.W.keepIn K (.ref ci_Word) = true)
    {cc_Spot ci_Spot : Addr} {odi_Spot ani_Spot : Option Addr} {sli_Spot : Array (Option Value)} {oci_Spot kVi_Spot dci_Spot pmi_Spot cdi_Spot cti_Spot : Value}
    (anc_Spot : PySem.W.nsIn K mainGlobals "Spot" = some (some (.ref cc_Spot)))
    (fic_Spot : PySem.W.findIn K (.ref cc_Spot) "__init__" = some (some (.ref ci_Spot)))
    (ific_Spot : PySem.W.isFn K (.ref ci_Spot) = true)
    (pgc_Spot : PySem.W.plainGet K cc_Spot Str.empty = true)
    (hdc_Spot : PySem.W.hasDictIn K cc_Spot = true)
    (poc_Spot : PySem.W.plainOver K cc_Spot = true)
    (sac_Spot : PySem.W.findIn K (.ref cc_Spot) "__setattr__" = some (some (.builtin "object.__setattr__")))
    (mkc_Spot : PySem.W.makesIn K cc_Spot = true)
    (kcc_Spot : PySem.W.keepIn K (.ref cc_Spot) = true)
    (mtf_Spot_facts : PySem.W.findIn K (.ref cc_Spot) "facts" = some (some (.ref f4)))
    (mtf_Spot_fits : PySem.W.findIn K (.ref cc_Spot) "fits" = some (some (.ref f5)))
    (mtf_Spot_put_on : PySem.W.findIn K (.ref cc_Spot) "put_on" = some (some (.ref f6)))
    (mtf_Spot_told : PySem.W.findIn K (.ref cc_Spot) "told" = some (some (.ref f7)))
    (naf_Spot_mark : PySem.W.findIn K (.ref cc_Spot) "mark" = some none)
    (naf_Spot_old : PySem.W.findIn K (.ref cc_Spot) "old" = some none)
    (naf_Spot_new : PySem.W.findIn K (.ref cc_Spot) "new" = some none)
    (li_Spot : K.lookup ci_Spot = some ⟨oci_Spot, odi_Spot, .func (PySem.W.fnOf "__init__" "Spot.__init__" (defArgs si_Spot) (defBody si_Spot) (defScope si_Spot) .none kVi_Spot dci_Spot pmi_Spot ani_Spot cdi_Spot cti_Spot), sli_Spot⟩)
    (coi_Spot : PySem.W.codeIn K cdi_Spot "Spot.__init__" = true)
    (ki_Spot : PySem.W.keepIn K (.ref ci_Spot) = true)
    {cc_Deed ci_Deed : Addr} {odi_Deed ani_Deed : Option Addr} {sli_Deed : Array (Option Value)} {oci_Deed kVi_Deed dci_Deed pmi_Deed cdi_Deed cti_Deed : Value}
    (anc_Deed : PySem.W.nsIn K mainGlobals "Deed" = some (some (.ref cc_Deed)))
    (rd_Deed : PySem.W.readsIn K cc_Deed (.type "type") = true)
    (gac_Deed : PySem.W.specialIn K (.ref cc_Deed) "__getattribute__" = some (some (.builtin "type.__getattribute__")))
    (cvc_Deed : PySem.W.findCls K (.ref cc_Deed) (.type "type") "__init__" = some (.val (.ref ci_Deed)))
    (li_Deed : K.lookup ci_Deed = some ⟨oci_Deed, odi_Deed, .func (PySem.W.fnOf "__init__" "Deed.__init__" (defArgs si_Deed) (defBody si_Deed) (defScope si_Deed) .none kVi_Deed dci_Deed pmi_Deed ani_Deed cdi_Deed cti_Deed), sli_Deed⟩)
    (coi_Deed : PySem.W.codeIn K cdi_Deed "Deed.__init__" = true)
    (ki_Deed : PySem.W.keepIn K (.ref ci_Deed) = true)
    (fnm0 : PySem.W.isFn K (.ref f0) = true)
    (fnm1 : PySem.W.isFn K (.ref f1) = true)
    (fnm2 : PySem.W.isFn K (.ref f2) = true)
    (fnm3 : PySem.W.isFn K (.ref f3) = true)
    (fnm4 : PySem.W.isFn K (.ref f4) = true)
    (fnm5 : PySem.W.isFn K (.ref f5) = true)
    (fnm6 : PySem.W.isFn K (.ref f6) = true)
    (fnm7 : PySem.W.isFn K (.ref f7) = true)
    (z_dict : PySem.W.nsIn K mainGlobals "dict" = some none)
    (z_range : PySem.W.nsIn K mainGlobals "range" = some none)
    (z_len : PySem.W.nsIn K mainGlobals "len" = some none)
    (z_list : PySem.W.nsIn K mainGlobals "list" = some none)
    (z_sorted : PySem.W.nsIn K mainGlobals "sorted" = some none)
    (z_min : PySem.W.nsIn K mainGlobals "min" = some none)
    (z_tuple : PySem.W.nsIn K mainGlobals "tuple" = some none)
    (z_isinstance : PySem.W.nsIn K mainGlobals "isinstance" = some none)
    {t_MOST : Tok} (q_MOST : PySem.W.nsIn K mainGlobals "MOST" = some (some (.int 200 t_MOST)))
    {t_DEEP : Tok} (q_DEEP : PySem.W.nsIn K mainGlobals "DEEP" = some (some (.int 30 t_DEEP)))
    : ∃ fd : FuncData, (∀ (s : Shared) (v : Value), BindsTo s fd ⟨[v], []⟩ [("script", v)]) ∧ ∀ base : Heap, K.In base → base.Ns mainGlobals mg → FnOk l.prog w K mg base CX0 5 fa fd ["script"] (spD ⟨K, w⟩ specLaw) := by
  have e := hfa.symm.trans (PySem.W.mg_of X G a27)
  cases e
  have F0 := fun_mk (st := s_Word_facts) l0 c0 k0
  have F1 := fun_mk (st := s_Word_fits) l1 c1 k1
  have F2 := fun_mk (st := s_Word_put_on) l2 c2 k2
  have F3 := fun_mk (st := s_Word_told) l3 c3 k3
  have F4 := fun_mk (st := s_Spot_facts) l4 c4 k4
  have F5 := fun_mk (st := s_Spot_fits) l5 c5 k5
  have F6 := fun_mk (st := s_Spot_put_on) l6 c6 k6
  have F7 := fun_mk (st := s_Spot_told) l7 c7 k7
  have F8 := fun_mk (st := s_leads_up) l8 c8 k8
  have F9 := fun_mk (st := s_is_kept) l9 c9 k9
  have F10 := fun_mk (st := s_root_mark) l10 c10 k10
  have F11 := fun_mk (st := s_check_facts) l11 c11 k11
  have F12 := fun_mk (st := s_done_on) l12 c12 k12
  have F13 := fun_mk (st := s_deeds_beyond) l13 c13 k13
  have F14 := fun_mk (st := s_facts_of) l14 c14 k14
  have F15 := fun_mk (st := s_both_marks) l15 c15 k15
  have F16 := fun_mk (st := s_is_lost) l16 c16 k16
  have F17 := fun_mk (st := s_lost_marks) l17 c17 k17
  have F18 := fun_mk (st := s_key_marks) l18 c18 k18
  have F19 := fun_mk (st := s_ring_marks) l19 c19 k19
  have F20 := fun_mk (st := s_meet_of) l20 c20 k20
  have F21 := fun_mk (st := s__law_word) l21 c21 k21
  have F22 := fun_mk (st := s__law_mark) l22 c22 k22
  have F23 := fun_mk (st := s__law_kept) l23 c23 k23
  have F24 := fun_mk (st := s__law_changes) l24 c24 k24
  have F25 := fun_mk (st := s__law_due) l25 c25 k25
  have F26 := fun_mk (st := s__law_good) l26 c26 k26
  have F27 := fun_mk (st := s_law) l27 c27 k27
  have Fi_Word := fun_mk (st := si_Word) li_Word coi_Word ki_Word
  have Fi_Spot := fun_mk (st := si_Spot) li_Spot coi_Spot ki_Spot
  have Fi_Deed := fun_mk (st := si_Deed) li_Deed coi_Deed ki_Deed
  have clsF : ClsF K clNames flNames := by
    have q1 : ∀ (c : Str) (C : Addr), c ∈ clNames → PySem.W.nsIn K mainGlobals c = some (some (.ref C)) → Cls K C ∧ ∀ f ∈ flNames, NoAttr K C f := by
     intro c C hc hC
     simp only [clNames, List.mem_cons, List.not_mem_nil, or_false] at hc
     rcases hc with rfl | rfl
     · cases Option.some.inj (Option.some.inj (anc_Word.symm.trans hC))
       exact ⟨⟨pgc_Word, hdc_Word, poc_Word, sac_Word⟩, fun f hf => by simp only [flNames, List.mem_cons, List.not_mem_nil, or_false] at hf; rcases hf with rfl | rfl | rfl; exact naf_Word_mark; exact naf_Word_old; exact naf_Word_new⟩
     · cases Option.some.inj (Option.some.inj (anc_Spot.symm.trans hC))
       exact ⟨⟨pgc_Spot, hdc_Spot, poc_Spot, sac_Spot⟩, fun f hf => by simp only [flNames, List.mem_cons, List.not_mem_nil, or_false] at hf; rcases hf with rfl | rfl | rfl; exact naf_Spot_mark; exact naf_Spot_old; exact naf_Spot_new⟩
    exact ⟨fun c C hc hC => (q1 c C hc hC).1, fun c f C hc hf hC => (q1 c C hc hC).2 f hf⟩
  let T : Txt K mg := { a_Word_facts := f0, fd_Word_facts := _, F_Word_facts := F0, b_Word_facts := F0.binds (ps := P_Word_facts) (fun _ _ _ _ _ _ us hl => match us, hl with | [_], _ => rfl), a_Word_fits := f1, fd_Word_fits := _, F_Word_fits := F1, b_Word_fits := F1.binds (ps := P_Word_fits) (fun _ _ _ _ _ _ us hl => match us, hl with | [_, _], _ => rfl), a_Word_put_on := f2, fd_Word_put_on := _, F_Word_put_on := F2, b_Word_put_on := F2.binds (ps := P_Word_put_on) (fun _ _ _ _ _ _ us hl => match us, hl with | [_, _], _ => rfl), a_Word_told := f3, fd_Word_told := _, F_Word_told := F3, b_Word_told := F3.binds (ps := P_Word_told) (fun _ _ _ _ _ _ us hl => match us, hl with | [_], _ => rfl), a_Spot_facts := f4, fd_Spot_facts := _, F_Spot_facts := F4, b_Spot_facts := F4.binds (ps := P_Spot_facts) (fun _ _ _ _ _ _ us hl => match us, hl with | [_], _ => rfl), a_Spot_fits := f5, fd_Spot_fits := _, F_Spot_fits := F5, b_Spot_fits := F5.binds (ps := P_Spot_fits) (fun _ _ _ _ _ _ us hl => match us, hl with | [_, _], _ => rfl), a_Spot_put_on := f6, fd_Spot_put_on := _, F_Spot_put_on := F6, b_Spot_put_on := F6.binds (ps := P_Spot_put_on) (fun _ _ _ _ _ _ us hl => match us, hl with | [_, _], _ => rfl), a_Spot_told := f7, fd_Spot_told := _, F_Spot_told := F7, b_Spot_told := F7.binds (ps := P_Spot_told) (fun _ _ _ _ _ _ us hl => match us, hl with | [_], _ => rfl), a_leads_up := f8, fd_leads_up := _, F_leads_up := F8, m_leads_up := PySem.W.mg_of X G a8, b_leads_up := F8.binds (ps := P_leads_up) (fun _ _ _ _ _ _ us hl => match us, hl with | [_, _], _ => rfl), a_is_kept := f9, fd_is_kept := _, F_is_kept := F9, m_is_kept := PySem.W.mg_of X G a9, b_is_kept := F9.binds (ps := P_is_kept) (fun _ _ _ _ _ _ us hl => match us, hl with | [_], _ => rfl), a_root_mark := f10, fd_root_mark := _, F_root_mark := F10, m_root_mark := PySem.W.mg_of X G a10, b_root_mark := F10.binds (ps := P_root_mark) (fun _ _ _ _ _ _ us hl => match us, hl with | [_], _ => rfl), a_check_facts := f11, fd_check_facts := _, F_check_facts := F11, m_check_facts := PySem.W.mg_of X G a11, b_check_facts := F11.binds (ps := P_check_facts) (fun _ _ _ _ _ _ us hl => match us, hl with | [_], _ => rfl), a_done_on := f12, fd_done_on := _, F_done_on := F12, m_done_on := PySem.W.mg_of X G a12, b_done_on := F12.binds (ps := P_done_on) (fun _ _ _ _ _ _ us hl => match us, hl with | [_, _], _ => rfl), a_deeds_beyond := f13, fd_deeds_beyond := _, F_deeds_beyond := F13, m_deeds_beyond := PySem.W.mg_of X G a13, b_deeds_beyond := F13.binds (ps := P_deeds_beyond) (fun _ _ _ _ _ _ us hl => match us, hl with | [_, _], _ => rfl), a_facts_of := f14, fd_facts_of := _, F_facts_of := F14, m_facts_of := PySem.W.mg_of X G a14, b_facts_of := F14.binds (ps := P_facts_of) (fun _ _ _ _ _ _ us hl => match us, hl with | [_], _ => rfl), a_both_marks := f15, fd_both_marks := _, F_both_marks := F15, m_both_marks := PySem.W.mg_of X G a15, b_both_marks := F15.binds (ps := P_both_marks) (fun _ _ _ _ _ _ us hl => match us, hl with | [_, _], _ => rfl), a_is_lost := f16, fd_is_lost := _, F_is_lost := F16, m_is_lost := PySem.W.mg_of X G a16, b_is_lost := F16.binds (ps := P_is_lost) (fun _ _ _ _ _ _ us hl => match us, hl with | [_, _], _ => rfl), a_lost_marks := f17, fd_lost_marks := _, F_lost_marks := F17, m_lost_marks := PySem.W.mg_of X G a17, b_lost_marks := F17.binds (ps := P_lost_marks) (fun _ _ _ _ _ _ us hl => match us, hl with | [_], _ => rfl), a_key_marks := f18, fd_key_marks := _, F_key_marks := F18, m_key_marks := PySem.W.mg_of X G a18, b_key_marks := F18.binds (ps := P_key_marks) (fun _ _ _ _ _ _ us hl => match us, hl with | [_], _ => rfl), a_ring_marks := f19, fd_ring_marks := _, F_ring_marks := F19, m_ring_marks := PySem.W.mg_of X G a19, b_ring_marks := F19.binds (ps := P_ring_marks) (fun _ _ _ _ _ _ us hl => match us, hl with | [_], _ => rfl), a_meet_of := f20, fd_meet_of := _, F_meet_of := F20, m_meet_of := PySem.W.mg_of X G a20, b_meet_of := F20.binds (ps := P_meet_of) (fun _ _ _ _ _ _ us hl => match us, hl with | [_, _, _], _ => rfl), a__law_word := f21, fd__law_word := _, F__law_word := F21, m__law_word := PySem.W.mg_of X G a21, b__law_word := F21.binds (ps := P__law_word) (fun _ _ _ _ _ _ us hl => match us, hl with | [_], _ => rfl), a__law_mark := f22, fd__law_mark := _, F__law_mark := F22, m__law_mark := PySem.W.mg_of X G a22, b__law_mark := F22.binds (ps := P__law_mark) (fun _ _ _ _ _ _ us hl => match us, hl with | [_, _], _ => rfl), a__law_kept := f23, fd__law_kept := _, F__law_kept := F23, m__law_kept := PySem.W.mg_of X G a23, b__law_kept := F23.binds (ps := P__law_kept) (fun _ _ _ _ _ _ us hl => match us, hl with | [_], _ => rfl), a__law_changes := f24, fd__law_changes := _, F__law_changes := F24, m__law_changes := PySem.W.mg_of X G a24, b__law_changes := F24.binds (ps := P__law_changes) (fun _ _ _ _ _ _ us hl => match us, hl with | [_, _], _ => rfl), a__law_due := f25, fd__law_due := _, F__law_due := F25, m__law_due := PySem.W.mg_of X G a25, b__law_due := F25.binds (ps := P__law_due) (fun _ _ _ _ _ _ us hl => match us, hl with | [_, _, _], _ => rfl), a__law_good := f26, fd__law_good := _, F__law_good := F26, m__law_good := PySem.W.mg_of X G a26, b__law_good := F26.binds (ps := P__law_good) (fun _ _ _ _ _ _ us hl => match us, hl with | [_, _], _ => rfl), a_law := fa, fd_law := _, F_law := F27, m_law := PySem.W.mg_of X G a27, b_law := F27.binds (ps := P_law) (fun _ _ _ _ _ _ us hl => match us, hl with | [_], _ => rfl), a_Word := cc_Word, ai_Word := ci_Word, fdi_Word := _, mc_Word := PySem.W.mg_of X G anc_Word, Fi_Word := Fi_Word, bi_Word := Fi_Word.binds (ps := Pi_Word) (fun _ _ _ _ _ _ us hl => match us, hl with | [_, _, _, _], _ => rfl), a_Spot := cc_Spot, ai_Spot := ci_Spot, fdi_Spot := _, mc_Spot := PySem.W.mg_of X G anc_Spot, Fi_Spot := Fi_Spot, bi_Spot := Fi_Spot.binds (ps := Pi_Spot) (fun _ _ _ _ _ _ us hl => match us, hl with | [_, _, _, _], _ => rfl), a_Deed := cc_Deed, ai_Deed := ci_Deed, fdi_Deed := _, mc_Deed := PySem.W.mg_of X G anc_Deed, Fi_Deed := Fi_Deed, bi_Deed := Fi_Deed.binds (ps := Pi_Deed) (fun _ _ _ _ _ _ us hl => match us, hl with | [_, _], _ => rfl), cr_Deed := ⟨rd_Deed, gac_Deed⟩, cv_Deed := ⟨cvc_Deed, rfl⟩, nc_Word := anc_Word, mk_Word := ⟨mkc_Word, fic_Word, ific_Word, kcc_Word⟩, mt_Word_facts := ⟨mtf_Word_facts, fnm0, k0⟩, mt_Word_fits := ⟨mtf_Word_fits, fnm1, k1⟩, mt_Word_put_on := ⟨mtf_Word_put_on, fnm2, k2⟩, mt_Word_told := ⟨mtf_Word_told, fnm3, k3⟩, nc_Spot := anc_Spot, mk_Spot := ⟨mkc_Spot, fic_Spot, ific_Spot, kcc_Spot⟩, mt_Spot_facts := ⟨mtf_Spot_facts, fnm4, k4⟩, mt_Spot_fits := ⟨mtf_Spot_fits, fnm5, k5⟩, mt_Spot_put_on := ⟨mtf_Spot_put_on, fnm6, k6⟩, mt_Spot_told := ⟨mtf_Spot_told, fnm7, k7⟩, clsF := clsF, z_dict := PySem.W.mg_none_of X G z_dict, z_range := PySem.W.mg_none_of X G z_range, z_len := PySem.W.mg_none_of X G z_len, z_list := PySem.W.mg_none_of X G z_list, z_sorted := PySem.W.mg_none_of X G z_sorted, z_min := PySem.W.mg_none_of X G z_min, z_tuple := PySem.W.mg_none_of X G z_tuple, z_isinstance := PySem.W.mg_none_of X G z_isinstance, t_MOST := t_MOST, c_MOST := PySem.W.mg_of X G q_MOST, t_DEEP := t_DEEP, c_DEEP := PySem.W.mg_of X G q_DEEP }
  exact ⟨PySem.W.fnOf "law" "law" (defArgs s_law) (defBody s_law) (defScope s_law) .none kV27 dc27 pm27 an27 cd27 ct27, fun s v => .of_eq rfl, fun base _ _ => ok_law T⟩
end Law
open PySem PySem.W PyProof.Rows
set_option maxRecDepth 100000 in
set_option maxHeartbeats 0 in
theorem PySem.Challenge.cw_treemend_k51_words_meet_spots_holds : PySem.Challenge.rw_treemend_k51_words_meet_spots.Holds := by
  w_on; o_law; k_head; (case hw => w_witness2)
  k_fill
  refine L2.walk_ofB (l := PySem.Challenge.rw_treemend_k51_words_meet_spots) (n := 63) (k := 5) (x := "script") (CX := fun _ => L2.CX0) (sp := fun w => Tm.spD ⟨_, w⟩ Tm.specLaw) rfl (by decide) rfl ⟨rfl, by decide, by decide⟩ (fun w h Y => PySem.W.kIn_of Y) ?F (fun _ _ a ns hl hb _ hS => Tm.law_in hl hb hS) (fun _ _ _ _ _ h => h)
  case F =>
    intro w mg fa h KX G hmg
    refine' Law.all_mk KX G hmg ?l0 ?c0 ?k0 ?l1 ?c1 ?k1 ?l2 ?c2 ?k2 ?l3 ?c3 ?k3 ?l4 ?c4 ?k4 ?l5 ?c5 ?k5 ?l6 ?c6 ?k6 ?l7 ?c7 ?k7 ?a8 ?l8 ?c8 ?k8 ?a9 ?l9 ?c9 ?k9 ?a10 ?l10 ?c10 ?k10 ?a11 ?l11 ?c11 ?k11 ?a12 ?l12 ?c12 ?k12 ?a13 ?l13 ?c13 ?k13 ?a14 ?l14 ?c14 ?k14 ?a15 ?l15 ?c15 ?k15 ?a16 ?l16 ?c16 ?k16 ?a17 ?l17 ?c17 ?k17 ?a18 ?l18 ?c18 ?k18 ?a19 ?l19 ?c19 ?k19 ?a20 ?l20 ?c20 ?k20 ?a21 ?l21 ?c21 ?k21 ?a22 ?l22 ?c22 ?k22 ?a23 ?l23 ?c23 ?k23 ?a24 ?l24 ?c24 ?k24 ?a25 ?l25 ?c25 ?k25 ?a26 ?l26 ?c26 ?k26 ?a27 ?l27 ?c27 ?k27 ?anc_Word ?fic_Word ?ific_Word ?pgc_Word ?hdc_Word ?poc_Word ?sac_Word ?mkc_Word ?kcc_Word ?mtf_Word_facts ?mtf_Word_fits ?mtf_Word_put_on ?mtf_Word_told ?naf_Word_mark ?naf_Word_old ?naf_Word_new ?li_Word ?coi_Word ?ki_Word ?anc_Spot ?fic_Spot ?ific_Spot ?pgc_Spot ?hdc_Spot ?poc_Spot ?sac_Spot ?mkc_Spot ?kcc_Spot ?mtf_Spot_facts ?mtf_Spot_fits ?mtf_Spot_put_on ?mtf_Spot_told ?naf_Spot_mark ?naf_Spot_old ?naf_Spot_new ?li_Spot ?coi_Spot ?ki_Spot ?anc_Deed ?rd_Deed ?gac_Deed ?cvc_Deed ?li_Deed ?coi_Deed ?ki_Deed ?fnm0 ?fnm1 ?fnm2 ?fnm3 ?fnm4 ?fnm5 ?fnm6 ?fnm7 ?z_dict ?z_range ?z_len ?z_list ?z_sorted ?z_min ?z_tuple ?z_isinstance ?q_MOST ?q_DEEP
    (case anc_Word => k_is)
    (case fic_Word => k_is)
    (case ific_Word => k_is)
    (case pgc_Word => k_is)
    (case hdc_Word => k_is)
    (case poc_Word => k_is)
    (case sac_Word => k_is)
    (case mkc_Word => k_is)
    (case kcc_Word => k_is)
    (case mtf_Word_facts => k_is)
    (case mtf_Word_fits => k_is)
    (case mtf_Word_put_on => k_is)
    (case mtf_Word_told => k_is)
    (case naf_Word_mark => k_is)
    (case naf_Word_old => k_is)
    (case naf_Word_new => k_is)
    (case li_Word => k_is)
    (case coi_Word => k_is)
    (case ki_Word => k_is)
    (case anc_Spot => k_is)
    (case fic_Spot => k_is)
    (case ific_Spot => k_is)
    (case pgc_Spot => k_is)
    (case hdc_Spot => k_is)
    (case poc_Spot => k_is)
    (case sac_Spot => k_is)
    (case mkc_Spot => k_is)
    (case kcc_Spot => k_is)
    (case mtf_Spot_facts => k_is)
    (case mtf_Spot_fits => k_is)
    (case mtf_Spot_put_on => k_is)
    (case mtf_Spot_told => k_is)
    (case naf_Spot_mark => k_is)
    (case naf_Spot_old => k_is)
    (case naf_Spot_new => k_is)
    (case li_Spot => k_is)
    (case coi_Spot => k_is)
    (case ki_Spot => k_is)
    (case anc_Deed => k_is)
    (case rd_Deed => k_is)
    (case gac_Deed => k_is)
    (case cvc_Deed => k_is)
    (case li_Deed => k_is)
    (case coi_Deed => k_is)
    (case ki_Deed => k_is)
    (case fnm0 => k_is)
    (case fnm1 => k_is)
    (case fnm2 => k_is)
    (case fnm3 => k_is)
    (case fnm4 => k_is)
    (case fnm5 => k_is)
    (case fnm6 => k_is)
    (case fnm7 => k_is)
    (case l0 => k_is)
    (case c0 => k_is)
    (case k0 => k_is)
    (case l1 => k_is)
    (case c1 => k_is)
    (case k1 => k_is)
    (case l2 => k_is)
    (case c2 => k_is)
    (case k2 => k_is)
    (case l3 => k_is)
    (case c3 => k_is)
    (case k3 => k_is)
    (case l4 => k_is)
    (case c4 => k_is)
    (case k4 => k_is)
    (case l5 => k_is)
    (case c5 => k_is)
    (case k5 => k_is)
    (case l6 => k_is)
    (case c6 => k_is)
    (case k6 => k_is)
    (case l7 => k_is)
    (case c7 => k_is)
    (case k7 => k_is)
    (case a8 => k_is)
    (case l8 => k_is)
    (case c8 => k_is)
    (case k8 => k_is)
    (case a9 => k_is)
    (case l9 => k_is)
    (case c9 => k_is)
    (case k9 => k_is)
    (case a10 => k_is)
    (case l10 => k_is)
    (case c10 => k_is)
    (case k10 => k_is)
    (case a11 => k_is)
    (case l11 => k_is)
    (case c11 => k_is)
    (case k11 => k_is)
    (case a12 => k_is)
    (case l12 => k_is)
    (case c12 => k_is)
    (case k12 => k_is)
    (case a13 => k_is)
    (case l13 => k_is)
    (case c13 => k_is)
    (case k13 => k_is)
    (case a14 => k_is)
    (case l14 => k_is)
    (case c14 => k_is)
    (case k14 => k_is)
    (case a15 => k_is)
    (case l15 => k_is)
    (case c15 => k_is)
    (case k15 => k_is)
    (case a16 => k_is)
    (case l16 => k_is)
    (case c16 => k_is)
    (case k16 => k_is)
    (case a17 => k_is)
    (case l17 => k_is)
    (case c17 => k_is)
    (case k17 => k_is)
    (case a18 => k_is)
    (case l18 => k_is)
    (case c18 => k_is)
    (case k18 => k_is)
    (case a19 => k_is)
    (case l19 => k_is)
    (case c19 => k_is)
    (case k19 => k_is)
    (case a20 => k_is)
    (case l20 => k_is)
    (case c20 => k_is)
    (case k20 => k_is)
    (case a21 => k_is)
    (case l21 => k_is)
    (case c21 => k_is)
    (case k21 => k_is)
    (case a22 => k_is)
    (case l22 => k_is)
    (case c22 => k_is)
    (case k22 => k_is)
    (case a23 => k_is)
    (case l23 => k_is)
    (case c23 => k_is)
    (case k23 => k_is)
    (case a24 => k_is)
    (case l24 => k_is)
    (case c24 => k_is)
    (case k24 => k_is)
    (case a25 => k_is)
    (case l25 => k_is)
    (case c25 => k_is)
    (case k25 => k_is)
    (case a26 => k_is)
    (case l26 => k_is)
    (case c26 => k_is)
    (case k26 => k_is)
    (case a27 => k_is)
    (case l27 => k_is)
    (case c27 => k_is)
    (case k27 => k_is)
    (case z_dict => k_is)
    (case z_range => k_is)
    (case z_len => k_is)
    (case z_list => k_is)
    (case z_sorted => k_is)
    (case z_min => k_is)
    (case z_tuple => k_is)
    (case z_isinstance => k_is)
    (case q_MOST => k_is)
    (case q_DEEP => k_is)
#print axioms PySem.Challenge.cw_treemend_k51_words_meet_spots_holds
