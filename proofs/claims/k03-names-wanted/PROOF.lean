import PyProof.Rows.All
import Wide.All
import OpenK.AllK
import Wide.FinOn
import HandS.ForMost
import HandS.ForExc
import HandS.Deep
import HandS.DictComp
import HandS.IsInst
import HandS.TupLen
import HandS.StrMore
import HandS.Replace
import HandS.NoneIn
import HandS.Small
import HandS.Finally
import HandS.Set
import HandS.Strs
import HandS.SetKeys
import PyProof.Rows.SetFrom
import HandS.More
import KE.KDictSum
import HandS.Iter
import HandS.RevRange
import PyProof.Rows.SeqCalls
import PySem.Challenge.RW_joinmarks_k03_names_wanted
set_option Elab.async false
set_option linter.all false
set_option maxRecDepth 100000
set_option maxHeartbeats 4000000
/-! VL part 1: data trees with ownership marks, how the abstract heap bears them -/
namespace VL
open PySem PySem.Spec PyProof.Rows L2
/-- a key of a dict: an int or a text; or a tuple of such -/
abbrev KD := Sum Key (List Key)
/-- data: a mark tells whether a mutable node is owned -/
inductive D where
  | non | bl (b : Bool) | int (i : Int) | str (x : Str)
  | tup (l : List D)
  | lst (o : Bool) (l : List D)
  | dct (o : Bool) (ks : List KD) (l : List D)
  | obj (o : Bool) (c : Nat) (ns : List Str) (l : List D)
  | scr (ns : List Int)
  | raw (vs : List V)
mutual
def frz : D → D
  | .tup l => .tup (frzL l)
  | .lst _ l => .lst false (frzL l)
  | .dct _ ks l => .dct false ks (frzL l)
  | .obj _ c ns l => .obj false c ns (frzL l)
  | .non => .non
  | .bl b => .bl b
  | .int i => .int i
  | .str x => .str x
  | .scr ns => .scr ns
  | .raw vs => .raw vs
def frzL : List D → List D
  | [] => []
  | d :: l => frz d :: frzL l
end
mutual
def fzd : D → Bool
  | .tup l => fzdL l
  | .lst o l => !o && fzdL l
  | .dct o _ l => !o && fzdL l
  | .obj o _ _ l => !o && fzdL l
  | .non => true
  | .bl _ => true
  | .int _ => true
  | .str _ => true
  | .scr _ => true
  | .raw _ => true
def fzdL : List D → Bool
  | [] => true
  | d :: l => fzd d && fzdL l
end
mutual
theorem frz_of : ∀ (d : D), fzd d = true → frz d = d
  | .tup l, h => by simp only [frz, frzL_of l (by simpa only [fzd] using h)]
  | .lst o l, h => by
    simp only [fzd, Bool.and_eq_true, Bool.not_eq_true'] at h
    simp only [frz, frzL_of l h.2, h.1]
  | .dct o _ l, h => by
    simp only [fzd, Bool.and_eq_true, Bool.not_eq_true'] at h
    simp only [frz, frzL_of l h.2, h.1]
  | .obj o _ _ l, h => by
    simp only [fzd, Bool.and_eq_true, Bool.not_eq_true'] at h
    simp only [frz, frzL_of l h.2, h.1]
  | .non, _ => rfl
  | .bl _, _ => rfl
  | .int _, _ => rfl
  | .str _, _ => rfl
  | .scr _, _ => rfl
  | .raw _, _ => rfl
theorem frzL_of : ∀ (l : List D), fzdL l = true → frzL l = l
  | [], _ => rfl
  | d :: l, h => by
    simp only [fzdL, Bool.and_eq_true] at h
    simp only [frzL, frz_of d h.1, frzL_of l h.2]
end
mutual
theorem fzd_frz : ∀ (d : D), fzd (frz d) = true
  | .tup l => by simp only [frz, fzd, fzdL_frzL l]
  | .lst o l => by simp only [frz, fzd, fzdL_frzL l, Bool.not_false, Bool.and_self]
  | .dct o _ l => by simp only [frz, fzd, fzdL_frzL l, Bool.not_false, Bool.and_self]
  | .obj o _ _ l => by simp only [frz, fzd, fzdL_frzL l, Bool.not_false, Bool.and_self]
  | .non => rfl
  | .bl _ => rfl
  | .int _ => rfl
  | .str _ => rfl
  | .scr _ => rfl
  | .raw _ => rfl
theorem fzdL_frzL : ∀ (l : List D), fzdL (frzL l) = true
  | [] => rfl
  | d :: l => by simp only [frzL, fzdL, fzd_frz d, fzdL_frzL l, Bool.and_self]
end
theorem frzL_length : ∀ l : List D, (frzL l).length = l.length
  | [] => rfl
  | d :: l => by simp only [frzL, List.length_cons, frzL_length l]
theorem fzdL_iff : ∀ {l : List D}, fzdL l = true ↔ ∀ d ∈ l, fzd d = true
  | [] => by simp [fzdL]
  | d :: l => by simp [fzdL, fzdL_iff (l := l)]
theorem fzdL_append {a b : List D} : fzdL (a ++ b) = (fzdL a && fzdL b) := by
  induction a with
  | nil => simp [fzdL]
  | cons d l ih => simp [fzdL, ih, Bool.and_assoc]
/-- the dict of these keys and values -/
def DkIs0 (ks : List KD) (vs : List V) : HO → Prop
  | .dK kvs => kvs.map (fun p => (Sum.inl p.1 : KD)) = ks ∧ kvs.map (·.2) = vs
  | .dT kvs => kvs.map (fun p => (Sum.inr p.1 : KD)) = ks ∧ kvs.map (·.2) = vs ∧ kvs ≠ []
  | _ => False
structure DkIs (ks : List KD) (vs : List V) (u : HO) : Prop where
  nd : ks.Nodup
  is : DkIs0 ks vs u
def isDk : HO → Prop
  | .dK _ => True
  | .dT _ => True
  | _ => False
theorem DkIs.isDk {ks : List KD} {vs : List V} {u : HO} (h : DkIs ks vs u) : isDk u := by
  obtain ⟨_, h⟩ := h
  cases u <;> first | trivial | exact h.elim
theorem isDk.mut {u : HO} (h : isDk u) : Mut (some u) := by cases u <;> first | trivial | exact h.elim
theorem DkIs.len {ks : List KD} {vs : List V} {u : HO} (h : DkIs ks vs u) : ks.length = vs.length := by
  obtain ⟨_, h⟩ := h
  cases u <;> first
    | exact h.elim
    | (obtain ⟨rfl, rfl⟩ := h; simp)
    | (obtain ⟨rfl, rfl, _⟩ := h; simp)
/-- where the classes stand; which dicts are locked -/
def ScrAt (K : PySem.W.Frag) (Hf : Hp) (p : Addr) (ns : List Int) : Prop := (∃ o : Obj, Hf p = some (.frz o (.lst (ns.map V.int)))) ∨
  ∃ (o : Obj) (its : Array Value) (n : Nat), K.lookup p = some o ∧ o.cls = .type "list" ∧ o.dict = none ∧ o.data = .seq its n ∧ its.size ≤ sizeLine ∧ Vals (ns.map V.int) its.toList
theorem ScrAt.carry {K : PySem.W.Frag} {Hf Hf' : Hp} {p : Addr} {ns : List Int} (h : ScrAt K Hf p ns) (k : ∀ a u, Hf a = some u → Hf' a = some u) : ScrAt K Hf' p ns := by
  rcases h with ⟨o, h⟩ | h
  · exact .inl ⟨o, k _ _ h⟩
  · exact .inr h
theorem ScrAt.sq {K : PySem.W.Frag} {H : Hp} {p : Addr} {ns : List Int} (h : ScrAt K H p ns) : SqL K H p (ns.map V.int) := by
  rcases h with ⟨o, h⟩ | h
  · exact .inl (.inr ⟨o, h⟩)
  · exact .inr h
structure Ct where
  K : PySem.W.Frag
  cls : Nat → Option Addr
  lk : List (Addr × Obj × HO)
section
variable (CA : Ct) (Hf H : Hp)
mutual
/-- the value v bears d; F: the owned cells. Hf: what stands still -/
inductive Rep : V → D → List Addr → Prop
  | non : Rep .non .non []
  | bl (b : Bool) : Rep (.bl b) (.bl b) []
  | int (i : Int) : Rep (.int i) (.int i) []
  | str (x : Str) : Rep (.str x) (.str x) []
  | scr {p : Addr} {ns : List Int} : ScrAt CA.K Hf p ns → Rep (.ref p) (.scr ns) []
  | raw {p : Addr} {vs : List V} : Hf p = some (.tup vs) → Rep (.ref p) (.raw vs) []
  | tup {p : Addr} {vs : List V} {ds : List D} {F : List Addr} : Hf p = some (.tup vs) → Reps vs ds F → Rep (.ref p) (.tup ds) F
  | lstF {p : Addr} {vs : List V} {ds : List D} : Hf p = some (.lst vs) → Reps vs ds [] → Rep (.ref p) (.lst false ds) []
  | lstT {p : Addr} {vs : List V} {ds : List D} {F : List Addr} : H p = some (.lst vs) → Reps vs ds F → Rep (.ref p) (.lst true ds) (p :: F)
  | dctF {p : Addr} {ks : List KD} {vs : List V} {u : HO} {ds : List D} : Hf p = some u → DkIs ks vs u → Reps vs ds [] → Rep (.ref p) (.dct false ks ds) []
  | dctT {p : Addr} {ks : List KD} {vs : List V} {u : HO} {ds : List D} {F : List Addr} : H p = some u → DkIs ks vs u → Reps vs ds F → Rep (.ref p) (.dct true ks ds) (p :: F)
  | objF {p C dx : Addr} {c : Nat} {ns : List Str} {vs : List V} {ds : List D} : CA.cls c = some C → Hf p = some (.ins C dx (ns.zip vs)) → ns.length = vs.length → Reps vs ds [] → Rep (.ref p) (.obj false c ns ds) []
  | objT {p C dx : Addr} {c : Nat} {ns : List Str} {vs : List V} {ds : List D} {F : List Addr} : CA.cls c = some C → H p = some (.ins C dx (ns.zip vs)) → ns.length = vs.length → Reps vs ds F → Rep (.ref p) (.obj true c ns ds) (p :: F)
inductive Reps : List V → List D → List Addr → Prop
  | nil : Reps [] [] []
  | cons {v : V} {d : D} {vs : List V} {ds : List D} {F G : List Addr} : Rep v d F → Reps vs ds G → Reps (v :: vs) (d :: ds) (F ++ G)
end
end
section
variable {CA : Ct} {Hf H Hf' H' : Hp}
theorem Reps.len {vs : List V} {ds : List D} {F : List Addr} (h : Reps CA Hf H vs ds F) : vs.length = ds.length := by
  induction ds generalizing vs F with
  | nil => cases h; rfl
  | cons d ds ih => cases h with
    | cons h1 h2 => simp [ih h2]
mutual
/-- carried over: what stands still stays, the owned cells are alike -/
theorem Rep.carry : ∀ {v : V} {d : D} {F : List Addr}, Rep CA Hf H v d F → (∀ a u, Hf a = some u → Hf' a = some u) → (∀ a ∈ F, H' a = H a) → Rep CA Hf' H' v d F
  | _, _, _, .non, _, _ => .non
  | _, _, _, .bl b, _, _ => .bl b
  | _, _, _, .int i, _, _ => .int i
  | _, _, _, .str x, _, _ => .str x
  | _, _, _, .scr h, k, _ => .scr (h.carry k)
  | _, _, _, .raw h, k, _ => .raw (k _ _ h)
  | _, _, _, .tup h r, k, e => .tup (k _ _ h) (Reps.carry r k e)
  | _, _, _, .lstF h r, k, e => .lstF (k _ _ h) (Reps.carry r k e)
  | _, _, _, .lstT h r, k, e => .lstT ((e _ (List.mem_cons_self)).trans h) (Reps.carry r k fun a ha => e a (List.mem_cons_of_mem _ ha))
  | _, _, _, .dctF h c r, k, e => .dctF (k _ _ h) c (Reps.carry r k e)
  | _, _, _, .dctT h c r, k, e => .dctT ((e _ (List.mem_cons_self)).trans h) c (Reps.carry r k fun a ha => e a (List.mem_cons_of_mem _ ha))
  | _, _, _, .objF c h l r, k, e => .objF c (k _ _ h) l (Reps.carry r k e)
  | _, _, _, .objT c h l r, k, e => .objT c ((e _ (List.mem_cons_self)).trans h) l (Reps.carry r k fun a ha => e a (List.mem_cons_of_mem _ ha))
theorem Reps.carry : ∀ {vs : List V} {ds : List D} {F : List Addr}, Reps CA Hf H vs ds F → (∀ a u, Hf a = some u → Hf' a = some u) → (∀ a ∈ F, H' a = H a) → Reps CA Hf' H' vs ds F
  | _, _, _, .nil, _, _ => .nil
  | _, _, _, .cons r t, k, e => .cons (Rep.carry r k fun a ha => e a (List.mem_append_left _ ha)) (Reps.carry t k fun a ha => e a (List.mem_append_right _ ha))
end
theorem trk_here {p a : Addr} {F : List Addr} {u : HO} (q : H p = some u) (mu : Mut (some u)) (h : a ∈ p :: F) (k : a ∈ F → ∃ u, H a = some u ∧ Mut (some u)) : ∃ u, H a = some u ∧ Mut (some u) := by
  rcases List.mem_cons.mp h with e | h
  · subst e; exact ⟨u, q, mu⟩
  · exact k h
mutual
/-- an owned cell is tracked -/
theorem Rep.trk : ∀ {v : V} {d : D} {F : List Addr}, Rep CA Hf H v d F → ∀ a ∈ F, ∃ u, H a = some u ∧ Mut (some u)
  | _, _, _, .non, _, h => nomatch h
  | _, _, _, .bl b, _, h => nomatch h
  | _, _, _, .int i, _, h => nomatch h
  | _, _, _, .str x, _, h => nomatch h
  | _, _, _, .scr _, _, h => nomatch h
  | _, _, _, .raw _, _, h => nomatch h
  | _, _, _, .tup _ r, a, h => Reps.trk r a h
  | _, _, _, .lstF _ _, _, h => nomatch h
  | _, _, _, .lstT q r, a, h => trk_here q trivial h (Reps.trk r a)
  | _, _, _, .dctF _ _ _, _, h => nomatch h
  | _, _, _, .dctT q k r, a, h => trk_here q k.isDk.mut h (Reps.trk r a)
  | _, _, _, .objF _ _ _ _, _, h => nomatch h
  | _, _, _, .objT _ q _ r, a, h => trk_here q trivial h (Reps.trk r a)
theorem Reps.trk : ∀ {vs : List V} {ds : List D} {F : List Addr}, Reps CA Hf H vs ds F → ∀ a ∈ F, ∃ u, H a = some u ∧ Mut (some u)
  | _, _, _, .nil, _, h => nomatch h
  | _, _, _, .cons r t, a, h => (List.mem_append.mp h).elim (Rep.trk r a) (Reps.trk t a)
end
mutual
/-- frozen: no owned cell -/
theorem Rep.fz : ∀ {v : V} {d : D} {F : List Addr}, Rep CA Hf H v d F → fzd d = true → F = []
  | _, _, _, .non, _ => rfl
  | _, _, _, .bl b, _ => rfl
  | _, _, _, .int i, _ => rfl
  | _, _, _, .str x, _ => rfl
  | _, _, _, .scr _, _ => rfl
  | _, _, _, .raw _, _ => rfl
  | _, _, _, .tup _ r, h => Reps.fz r (by simpa only [fzd] using h)
  | _, _, _, .lstF _ _, _ => rfl
  | _, _, _, .lstT q r, h => by simp [fzd] at h
  | _, _, _, .dctF _ _ _, _ => rfl
  | _, _, _, .dctT q _ r, h => by simp [fzd] at h
  | _, _, _, .objF _ _ _ _, _ => rfl
  | _, _, _, .objT _ q _ r, h => by simp [fzd] at h
theorem Reps.fz : ∀ {vs : List V} {ds : List D} {F : List Addr}, Reps CA Hf H vs ds F → fzdL ds = true → F = []
  | _, _, _, .nil, _ => rfl
  | _, _, _, .cons r t, h => by
    simp only [fzdL, Bool.and_eq_true] at h
    rw [Rep.fz r h.1, Reps.fz t h.2]; rfl
end
mutual
/-- frozen in place: its cells stand still from now on -/
theorem Rep.freeze : ∀ {v : V} {d : D} {F : List Addr}, Rep CA Hf H v d F → (∀ a u, Hf a = some u → Hf' a = some u) → (∀ a ∈ F, Hf' a = H a) → Rep CA Hf' H v (frz d) []
  | _, _, _, .non, _, _ => .non
  | _, _, _, .bl b, _, _ => .bl b
  | _, _, _, .int i, _, _ => .int i
  | _, _, _, .str x, _, _ => .str x
  | _, _, _, .scr h, k, _ => .scr (h.carry k)
  | _, _, _, .raw h, k, _ => .raw (k _ _ h)
  | _, _, _, .tup h r, k, e => by simp only [frz]; exact .tup (k _ _ h) (Reps.freeze r k e)
  | _, _, _, .lstF h r, k, e => by simp only [frz]; exact .lstF (k _ _ h) (Reps.freeze r k e)
  | _, _, _, .lstT h r, k, e => by simp only [frz]; exact .lstF ((e _ (List.mem_cons_self)).trans h) (Reps.freeze r k fun a ha => e a (List.mem_cons_of_mem _ ha))
  | _, _, _, .dctF h c r, k, e => by simp only [frz]; exact .dctF (k _ _ h) c (Reps.freeze r k e)
  | _, _, _, .dctT h c r, k, e => by simp only [frz]; exact .dctF ((e _ (List.mem_cons_self)).trans h) c (Reps.freeze r k fun a ha => e a (List.mem_cons_of_mem _ ha))
  | _, _, _, .objF c h l r, k, e => by simp only [frz]; exact .objF c (k _ _ h) l (Reps.freeze r k e)
  | _, _, _, .objT c h l r, k, e => by simp only [frz]; exact .objF c ((e _ (List.mem_cons_self)).trans h) l (Reps.freeze r k fun a ha => e a (List.mem_cons_of_mem _ ha))
theorem Reps.freeze : ∀ {vs : List V} {ds : List D} {F : List Addr}, Reps CA Hf H vs ds F → (∀ a u, Hf a = some u → Hf' a = some u) → (∀ a ∈ F, Hf' a = H a) → Reps CA Hf' H vs (frzL ds) []
  | _, _, _, .nil, _, _ => by simp only [frzL]; exact .nil
  | _, _, _, .cons r t, k, e => by
    simp only [frzL]
    exact .cons (F := []) (G := []) (Rep.freeze r k fun a ha => e a (List.mem_append_left _ ha)) (Reps.freeze t k fun a ha => e a (List.mem_append_right _ ha))
end
theorem Reps.append {vs ws : List V} {ds es : List D} {F G : List Addr} (h : Reps CA Hf H vs ds F) (h' : Reps CA Hf H ws es G) : Reps CA Hf H (vs ++ ws) (ds ++ es) (F ++ G) := by
  induction ds generalizing vs F with
  | nil => cases h; exact h'
  | cons d ds ih => cases h with
    | cons h1 h2 => rw [List.append_assoc]; exact .cons h1 (ih h2)
theorem Reps.split : ∀ {vs ws : List V} {ds es : List D} {F : List Addr}, vs.length = ds.length → Reps CA Hf H (vs ++ ws) (ds ++ es) F → ∃ F1 F2, F = F1 ++ F2 ∧ Reps CA Hf H vs ds F1 ∧ Reps CA Hf H ws es F2
  | [], ws, [], es, F, _, h => ⟨[], F, rfl, .nil, h⟩
  | v :: vs, ws, d :: ds, es, _, l, .cons r t => by
    obtain ⟨F1, F2, rfl, h1, h2⟩ := Reps.split (by simpa using l) t
    exact ⟨_, F2, (List.append_assoc _ _ _).symm, .cons r h1, h2⟩
  | [], _, _ :: _, _, _, l, _ => by simp at l
  | _ :: _, _, [], _, _, l, _ => by simp at l
end
/-- what stands still stands in the heap; a dict may be locked -/
def Le (CA : Ct) (Hf H : Hp) : Prop := ∀ a u, Hf a = some u → H a = some u ∨ ((isDk u ∧ ∃ o, (a, o, u) ∈ CA.lk) ∧ ∃ o, H a = some (.frz o u))
abbrev VD := V × D
/-- R: owned cells that are open; L: what the code holds -/
def MR (CA : Ct) (H : Hp) (R : List Addr) (L : List VD) : Prop :=
  ∃ (Hf : Hp) (F : List Addr), Le CA Hf H ∧ Reps CA Hf H (L.map (·.1)) (L.map (·.2)) F ∧ (R ++ F).Nodup ∧ (∀ a ∈ R ++ F, Hf a = none) ∧ (∀ a ∈ R, ∃ u, H a = some u ∧ Mut (some u)) ∧ ∀ x ∈ CA.lk, H x.1 = some (.frz x.2.1 x.2.2) ∧ Hf x.1 = some x.2.2 ∧ isDk x.2.2
abbrev M (CA : Ct) (H : Hp) (L : List VD) : Prop := MR CA H [] L
section
variable {CA : Ct} {Hf H Hf' H' : Hp} {R : List Addr} {L L' : List VD}
theorem Reps.perm (p : L.Perm L') : ∀ {F : List Addr}, Reps CA Hf H (L.map (·.1)) (L.map (·.2)) F → ∃ F', F.Perm F' ∧ Reps CA Hf H (L'.map (·.1)) (L'.map (·.2)) F' := by
  induction p with
  | nil => intro F h; exact ⟨F, .refl _, h⟩
  | cons x _ ih =>
    intro F h
    cases h with
    | cons r t =>
      obtain ⟨G, q, t'⟩ := ih t
      exact ⟨_, q.append_left _, .cons r t'⟩
  | swap x y l =>
    intro F h
    cases h with
    | cons r t =>
      cases t with
      | cons r' t =>
        refine ⟨_, ?_, .cons r' (.cons r t)⟩
        rw [← List.append_assoc, ← List.append_assoc]
        exact List.Perm.append_right _ List.perm_append_comm
  | trans _ _ ih1 ih2 =>
    intro F h
    obtain ⟨G, q, t⟩ := ih1 h
    obtain ⟨G', q', t'⟩ := ih2 t
    exact ⟨G', q.trans q', t'⟩
theorem MR.perm (m : MR CA H R L) (p : L.Perm L') : MR CA H R L' := by
  obtain ⟨Hf, F, le, rs, nd, no, tr, lk⟩ := m
  obtain ⟨F', q, rs'⟩ := Reps.perm p rs
  have q' := q.append_left R
  exact ⟨Hf, F', le, rs', (q'.nodup_iff).mp nd, fun a ha => no a (q'.mem_iff.mpr ha), tr, lk⟩
theorem MR.drop {x : VD} (m : MR CA H R (x :: L)) : MR CA H R L := by
  obtain ⟨Hf, F, le, rs, nd, no, tr, lk⟩ := m
  cases rs with
  | cons r t =>
    refine ⟨Hf, _, le, t, ?_, fun a ha => no a ?_, tr, lk⟩
    · refine nd.sublist ?_
      exact List.Sublist.append (List.Sublist.refl _) (List.sublist_append_right _ _)
    · rcases List.mem_append.mp ha with h | h
      · exact List.mem_append_left _ h
      · exact List.mem_append_right _ (List.mem_append_right _ h)
theorem MR.dropL {K : List VD} (m : MR CA H R (K ++ L)) : MR CA H R L := by
  induction K with
  | nil => exact m
  | cons x K ih => exact ih (MR.drop m)
/-- frozen things may be had twice -/
theorem MR.copy {v : V} {d : D} (m : MR CA H R ((v, d) :: L)) (h : fzd d = true) : MR CA H R ((v, d) :: (v, d) :: L) := by
  obtain ⟨Hf, F, le, rs, nd, no, tr, lk⟩ := m
  cases rs with
  | cons r t =>
    have e := r.fz h
    subst e
    exact ⟨Hf, _, le, .cons r (.cons r t), nd, no, tr, lk⟩
theorem MR.freeze {v : V} {d : D} (m : MR CA H R ((v, d) :: L)) : MR CA H R ((v, frz d) :: L) := by
  obtain ⟨Hf, F, le, rs, nd, no, tr, lk⟩ := m
  cases rs with
  | @cons _ _ _ _ F G r t =>
    have nd' := nd
    rw [List.nodup_append] at nd'
    obtain ⟨_, nd2, nd3⟩ := nd'
    rw [List.nodup_append] at nd2
    obtain ⟨_, _, nd4⟩ := nd2
    classical
    refine ⟨fun a => if a ∈ F then H a else Hf a, G, fun a u e => ?_, .cons (F := []) (Rep.freeze r (fun a u e => ?_) fun a ha => ?_) (t.carry (fun a u e => ?_) fun _ _ => rfl), ?_, fun a ha => ?_, tr, fun x hx => ?_⟩
    · by_cases ha : a ∈ F
      · simp only [if_pos ha] at e; exact .inl e
      · simp only [if_neg ha] at e; exact le a u e
    · by_cases ha : a ∈ F
      · rw [no a (List.mem_append_right _ (List.mem_append_left _ ha))] at e; cases e
      · simp only [if_neg ha]; exact e
    · simp only [if_pos ha]
    · by_cases ha : a ∈ F
      · rw [no a (List.mem_append_right _ (List.mem_append_left _ ha))] at e; cases e
      · simp only [if_neg ha]; exact e
    · refine nd.sublist ?_
      exact List.Sublist.append (List.Sublist.refl _) (List.sublist_append_right _ _)
    · have hn : a ∉ F := fun hF => by
        rcases List.mem_append.mp ha with h | h
        · exact nd3 a h a (List.mem_append_left _ hF) rfl
        · exact nd4 a hF a h rfl
      simp only [if_neg hn]
      refine no a ?_
      rcases List.mem_append.mp ha with h | h
      · exact List.mem_append_left _ h
      · exact List.mem_append_right _ (List.mem_append_right _ h)
    · obtain ⟨h1, h2, h3⟩ := lk x hx
      have hn : x.1 ∉ F := fun hF => by rw [no _ (List.mem_append_right _ (List.mem_append_left _ hF))] at h2; cases h2
      exact ⟨h1, by simp only [if_neg hn]; exact h2, h3⟩
/-- a new cell beside -/
theorem MR.fresh {p : Addr} {u : HO} (m : MR CA H R L) (hp : H p = none) : MR CA (upd H p u) R L := by
  obtain ⟨Hf, F, le, rs, nd, no, tr, lk⟩ := m
  refine ⟨Hf, F, fun a w e => ?_, rs.carry (fun _ _ e => e) fun a ha => ?_, nd, no, fun a ha => ?_, fun x hx => ?_⟩
  · have hne : a ≠ p := fun z => by
      subst z
      rcases le a w e with q | ⟨_, o, q⟩ <;> (rw [hp] at q; cases q)
    rw [upd_ne hne]; exact le a w e
  · obtain ⟨w, q, _⟩ := rs.trk a ha
    rw [upd_ne (ne_of_none q hp)]
  · obtain ⟨w, q, mu⟩ := tr a ha
    exact ⟨w, by rw [upd_ne (ne_of_none q hp)]; exact q, mu⟩
  · obtain ⟨h1, h2, h3⟩ := lk x hx
    exact ⟨by rw [upd_ne (ne_of_none h1 hp)]; exact h1, h2, h3⟩
/-- a reservation given back -/
theorem MR.unres {p : Addr} (m : MR CA H (p :: R) L) : MR CA H R L := by
  obtain ⟨Hf, F, le, rs, nd, no, tr, lk⟩ := m
  rw [List.cons_append, List.nodup_cons] at nd
  exact ⟨Hf, F, le, rs, nd.2, fun a ha => no a (by rw [List.cons_append]; exact List.mem_cons_of_mem _ ha), fun a ha => tr a (List.mem_cons_of_mem _ ha), lk⟩
/-- a tuple that stands in the heap, taken up -/
theorem MR.takeT {p : Addr} {vs : List V} (m : MR CA H R L) (hp : H p = some (.tup vs)) : MR CA H R ((.ref p, .raw vs) :: L) := by
  obtain ⟨Hf, F, le, rs, nd, no, tr, lk⟩ := m
  have hn : ∀ {a : Addr}, (∃ u, H a = some u ∧ Mut (some u)) → a ≠ p := fun ⟨w, q, mu⟩ z => by
    subst z; rw [hp] at q; cases q; exact mu
  have k : ∀ a u, Hf a = some u → upd Hf p (.tup vs) a = some u := fun a u e => by
    by_cases z : a = p
    · subst z
      rcases le a u e with q | ⟨d, o, q⟩
      · rw [hp] at q; cases q; exact upd_same
      · rw [hp] at q; cases q
    · rw [upd_ne z]; exact e
  refine ⟨upd Hf p (.tup vs), F, fun a w e => ?_, .cons (F := []) (.raw upd_same) (rs.carry k fun _ _ => rfl), nd, fun a ha => ?_, tr, fun x hx => ?_⟩
  · by_cases z : a = p
    · subst z; rw [upd_same] at e; cases e; exact .inl hp
    · rw [upd_ne z] at e; exact le a w e
  · have : a ≠ p := by
      rcases List.mem_append.mp ha with h | h
      · exact hn (tr a h)
      · exact hn (rs.trk a h)
    rw [upd_ne this]; exact no a ha
  · obtain ⟨h1, h2, h3⟩ := lk x hx
    exact ⟨h1, k _ _ h2, h3⟩
end
end VL
/-! VL part 2: opening and closing of cells -/
namespace VL
open PySem PySem.Spec PyProof.Rows L2
section
variable {CA : Ct} {Hf H Hf' H' : Hp} {R : List Addr} {L L' : List VD}
theorem zip_fst : ∀ {vs : List V} {ds : List D}, vs.length = ds.length → (vs.zip ds).map (·.1) = vs
  | [], [], _ => rfl
  | v :: vs, d :: ds, h => by simp only [List.zip_cons_cons, List.map_cons, zip_fst (vs := vs) (ds := ds) (by simpa using h)]
  | [], _ :: _, h => by simp at h
  | _ :: _, [], h => by simp at h
theorem zip_snd : ∀ {vs : List V} {ds : List D}, vs.length = ds.length → (vs.zip ds).map (·.2) = ds
  | [], [], _ => rfl
  | v :: vs, d :: ds, h => by simp only [List.zip_cons_cons, List.map_cons, zip_snd (vs := vs) (ds := ds) (by simpa using h)]
  | [], _ :: _, h => by simp at h
  | _ :: _, [], h => by simp at h
theorem upd_id {p : Addr} {u : HO} (h : H p = some u) : upd H p u = H := by
  funext b
  by_cases e : b = p
  · subst e; rw [upd_same, h]
  · rw [upd_ne e]
theorem Reps.zip {vs : List V} {ds : List D} {F G : List Addr} (h : Reps CA Hf H vs ds F) (t : Reps CA Hf H (L.map (·.1)) (L.map (·.2)) G) :
    Reps CA Hf H ((vs.zip ds ++ L).map (·.1)) ((vs.zip ds ++ L).map (·.2)) (F ++ G) := by
  rw [List.map_append, List.map_append, zip_fst h.len, zip_snd h.len]
  exact h.append t
theorem Reps.unzip {vs : List V} {ds : List D} {F : List Addr} (l : vs.length = ds.length) (t : Reps CA Hf H ((vs.zip ds ++ L).map (·.1)) ((vs.zip ds ++ L).map (·.2)) F) :
    ∃ F1 F2, F = F1 ++ F2 ∧ Reps CA Hf H vs ds F1 ∧ Reps CA Hf H (L.map (·.1)) (L.map (·.2)) F2 := by
  rw [List.map_append, List.map_append, zip_fst l, zip_snd l] at t
  exact Reps.split l t
theorem nodup_move {R F G : List Addr} {p : Addr} (h : (R ++ (p :: F ++ G)).Nodup) : ((p :: R) ++ (F ++ G)).Nodup := by
  have q : (R ++ (p :: F ++ G)).Perm ((p :: R) ++ (F ++ G)) := by
    rw [List.cons_append, List.cons_append]
    exact List.perm_middle
  exact q.nodup_iff.mp h
theorem mem_move {R F G : List Addr} {p a : Addr} : a ∈ R ++ (p :: F ++ G) ↔ a ∈ (p :: R) ++ (F ++ G) := by
  have q : (R ++ (p :: F ++ G)).Perm ((p :: R) ++ (F ++ G)) := by
    rw [List.cons_append, List.cons_append]
    exact List.perm_middle
  exact q.mem_iff
theorem nodup_back {R F G : List Addr} {p : Addr} (h : ((p :: R) ++ (F ++ G)).Nodup) : (R ++ (p :: F ++ G)).Nodup := by
  have q : (R ++ (p :: F ++ G)).Perm ((p :: R) ++ (F ++ G)) := by
    rw [List.cons_append, List.cons_append]
    exact List.perm_middle
  exact q.nodup_iff.mpr h
/-- a reserved cell may be written -/
theorem MR.wr {p : Addr} {u : HO} (m : MR CA H R L) (hp : p ∈ R) (mu : Mut (some u)) : MR CA (upd H p u) R L := by
  obtain ⟨Hf, F, le, rs, nd, no, tr, lk⟩ := m
  refine ⟨Hf, F, fun a w e => ?_, rs.carry (fun _ _ e => e) fun a ha => ?_, nd, no, fun a ha => ?_, fun x hx => ?_⟩
  · have hne : a ≠ p := fun z => by
      subst z
      rw [no a (List.mem_append_left _ hp)] at e; cases e
    rw [upd_ne hne]; exact le a w e
  · rw [List.nodup_append] at nd
    exact upd_ne fun z => nd.2.2 p hp a ha z.symm
  · by_cases e : a = p
    · subst e; exact ⟨u, upd_same, mu⟩
    · rw [upd_ne e]; exact tr a ha
  · obtain ⟨h1, h2, h3⟩ := lk x hx
    have hne : x.1 ≠ p := fun z => by rw [z, no p (List.mem_append_left _ hp)] at h2; cases h2
    exact ⟨by rw [upd_ne hne]; exact h1, h2, h3⟩
/-- a new cell, reserved -/
theorem MR.reserve {p : Addr} {u : HO} (m : MR CA H R L) (hp : H p = none) (mu : Mut (some u)) : MR CA (upd H p u) (p :: R) L := by
  obtain ⟨Hf, F, le, rs, nd, no, tr, lk⟩ := m.fresh (u := u) hp
  obtain ⟨Hf0, F0, le0, rs0, nd0, no0, tr0, lk0⟩ := m
  have hn : ∀ {a : Addr}, (∃ w, H a = some w ∧ Mut (some w)) → a ≠ p := fun ⟨w, q, _⟩ => ne_of_none q hp
  have hf0 : Hf0 p = none := by
    cases e : Hf0 p with
    | none => rfl
    | some w => rcases le0 p w e with q | ⟨_, o, q⟩ <;> (rw [hp] at q; cases q)
  refine ⟨Hf0, F0, fun a w e => ?_, rs0.carry (fun _ _ e => e) fun a ha => upd_ne (hn (rs0.trk a ha)), ?_, fun a ha => ?_, fun a ha => ?_, fun x hx => ?_⟩
  · have hne : a ≠ p := fun z => by subst z; rw [hf0] at e; cases e
    rw [upd_ne hne]; exact le0 a w e
  · rw [List.cons_append, List.nodup_cons]
    refine ⟨fun h => ?_, nd0⟩
    rcases List.mem_append.mp h with h | h
    · exact hn (tr0 p h) rfl
    · exact hn (rs0.trk p h) rfl
  · rw [List.cons_append] at ha
    rcases List.mem_cons.mp ha with h | h
    · subst h; exact hf0
    · exact no0 a h
  · rcases List.mem_cons.mp ha with h | h
    · subst h; exact ⟨u, upd_same, mu⟩
    · obtain ⟨w, q, mw⟩ := tr0 a h
      exact ⟨w, by rw [upd_ne (ne_of_none q hp)]; exact q, mw⟩
  · obtain ⟨h1, h2, h3⟩ := lk0 x hx
    exact ⟨by rw [upd_ne (ne_of_none h1 hp)]; exact h1, h2, h3⟩
/-! ### lists -/
theorem MR.openL {v : V} {ds : List D} (m : MR CA H R ((v, .lst true ds) :: L)) : ∃ p vs, v = .ref p ∧ vs.length = ds.length ∧ H p = some (.lst vs) ∧ MR CA H (p :: R) (vs.zip ds ++ L) := by
  obtain ⟨Hf, F, le, rs, nd, no, tr, lk⟩ := m
  cases rs with
  | cons r t =>
    cases r with
    | @lstT p vs _ F0 hp rr =>
      refine ⟨p, vs, rfl, rr.len, hp, Hf, _, le, rr.zip t, nodup_move nd, fun a ha => no a (mem_move.mpr ha), fun a ha => ?_, lk⟩
      rcases List.mem_cons.mp ha with h | h
      · subst h; exact ⟨_, hp, trivial⟩
      · exact tr a h
theorem MR.closeL {p : Addr} {vs : List V} {ds : List D} (m : MR CA H (p :: R) (vs.zip ds ++ L)) (l : vs.length = ds.length) : MR CA (upd H p (.lst vs)) R ((.ref p, .lst true ds) :: L) := by
  obtain ⟨Hf, F, le, rs, nd, no, tr, lk⟩ := m.wr (u := .lst vs) (List.mem_cons_self) trivial
  obtain ⟨F1, F2, rfl, r1, r2⟩ := Reps.unzip l rs
  exact ⟨Hf, p :: F1 ++ F2, le, .cons (.lstT upd_same r1) r2, nodup_back nd, fun a ha => no a (mem_move.mp ha), fun a ha => tr a (List.mem_cons_of_mem _ ha), lk⟩
theorem MR.closeL0 {p : Addr} {vs : List V} {ds : List D} (m : MR CA H (p :: R) (vs.zip ds ++ L)) (l : vs.length = ds.length) (hp : H p = some (.lst vs)) : MR CA H R ((.ref p, .lst true ds) :: L) := by
  have h := m.closeL l
  rwa [upd_id hp] at h
theorem MR.newL {p : Addr} {vs : List V} {ds : List D} (m : MR CA H R (vs.zip ds ++ L)) (l : vs.length = ds.length) (hp : H p = none) : MR CA (upd H p (.lst vs)) R ((.ref p, .lst true ds) :: L) := by
  have h := (m.reserve (u := .lst vs) hp trivial).closeL l
  rwa [upd_upd] at h
/-- a frozen list: its items beside it -/
theorem MR.itemsF {v : V} {ds : List D} (m : MR CA H R ((v, .lst false ds) :: L)) : ∃ p vs, v = .ref p ∧ vs.length = ds.length ∧ H p = some (.lst vs) ∧ MR CA H R (vs.zip ds ++ (v, .lst false ds) :: L) := by
  obtain ⟨Hf, F, le, rs, nd, no, tr, lk⟩ := m
  cases rs with
  | cons r t =>
    cases r with
    | @lstF p vs _ hp rr =>
      refine ⟨p, vs, rfl, rr.len, ?_, Hf, _, le, Reps.zip (F := []) rr (.cons (F := []) (.lstF hp rr) t), nd, no, tr, lk⟩
      rcases le p _ hp with h | ⟨h, _⟩
      · exact h
      · exact h.1.elim
theorem MR.readL {v : V} {o : Bool} {ds : List D} (m : MR CA H R ((v, .lst o ds) :: L)) : ∃ p vs, v = .ref p ∧ vs.length = ds.length ∧ H p = some (.lst vs) := by
  cases o with
  | true => obtain ⟨p, vs, a, b, c, _⟩ := m.openL; exact ⟨p, vs, a, b, c⟩
  | false => obtain ⟨p, vs, a, b, c, _⟩ := m.itemsF; exact ⟨p, vs, a, b, c⟩
/-! ### tuples -/
theorem MR.newT {p : Addr} {vs : List V} {ds : List D} (m : MR CA H R (vs.zip ds ++ L)) (l : vs.length = ds.length) (hp : H p = none) : MR CA (upd H p (.tup vs)) R ((.ref p, .tup ds) :: L) := by
  obtain ⟨Hf, F, le, rs, nd, no, tr, lk⟩ := m
  obtain ⟨F1, F2, rfl, r1, r2⟩ := Reps.unzip l rs
  have hn : ∀ {a : Addr}, (∃ w, H a = some w ∧ Mut (some w)) → a ≠ p := fun ⟨w, q, _⟩ => ne_of_none q hp
  have hf0 : Hf p = none := by
    cases e : Hf p with
    | none => rfl
    | some w => rcases le p w e with q | ⟨_, o, q⟩ <;> (rw [hp] at q; cases q)
  have k : ∀ a u, Hf a = some u → upd Hf p (.tup vs) a = some u := fun a u e => by
    have : a ≠ p := fun z => by subst z; rw [hf0] at e; cases e
    rw [upd_ne this]; exact e
  refine ⟨upd Hf p (.tup vs), F1 ++ F2, fun a w e => ?_, .cons (.tup upd_same (r1.carry k fun a ha => upd_ne (hn (r1.trk a ha)))) (r2.carry k fun a ha => upd_ne (hn (r2.trk a ha))), nd, fun a ha => ?_, fun a ha => ?_, fun x hx => ?_⟩
  · by_cases z : a = p
    · subst z; rw [upd_same] at e; cases e; exact .inl upd_same
    · rw [upd_ne z] at e ⊢; exact le a w e
  · have : a ≠ p := by
      rcases List.mem_append.mp ha with h | h
      · exact hn (tr a h)
      · rcases List.mem_append.mp h with h | h
        · exact hn (r1.trk a h)
        · exact hn (r2.trk a h)
    rw [upd_ne this]; exact no a ha
  · obtain ⟨w, q, mw⟩ := tr a ha
    exact ⟨w, by rw [upd_ne (ne_of_none q hp)]; exact q, mw⟩
  · obtain ⟨h1, h2, h3⟩ := lk x hx
    exact ⟨by rw [upd_ne (ne_of_none h1 hp)]; exact h1, k _ _ h2, h3⟩
theorem MR.openT {v : V} {ds : List D} (m : MR CA H R ((v, .tup ds) :: L)) : ∃ p vs, v = .ref p ∧ vs.length = ds.length ∧ H p = some (.tup vs) ∧ MR CA H R (vs.zip ds ++ (v, .raw vs) :: L) := by
  obtain ⟨Hf, F, le, rs, nd, no, tr, lk⟩ := m
  cases rs with
  | cons r t =>
    cases r with
    | @tup p vs _ F0 hp rr =>
      refine ⟨p, vs, rfl, rr.len, ?_, Hf, _, le, rr.zip (.cons (F := []) (.raw hp) t), nd, no, tr, lk⟩
      rcases le p _ hp with h | ⟨h, _⟩
      · exact h
      · exact h.1.elim
theorem MR.closeT {v : V} {vs : List V} {ds : List D} (m : MR CA H R (vs.zip ds ++ (v, .raw vs) :: L)) (l : vs.length = ds.length) : MR CA H R ((v, .tup ds) :: L) := by
  obtain ⟨Hf, F, le, rs, nd, no, tr, lk⟩ := m
  obtain ⟨F1, F2, rfl, r1, r2⟩ := Reps.unzip l rs
  cases r2 with
  | @cons _ _ _ _ F3 F4 r3 t =>
    cases r3 with
    | raw hp => exact ⟨Hf, F1 ++ F4, le, .cons (.tup hp r1) t, nd, no, tr, lk⟩
theorem MR.raw {v : V} {vs : List V} (m : MR CA H R ((v, .raw vs) :: L)) : ∃ p, v = .ref p ∧ H p = some (.tup vs) := by
  obtain ⟨Hf, _, le, rs, _⟩ := m
  cases rs with
  | cons r _ =>
    cases r with
    | @raw p _ h =>
      refine ⟨p, rfl, ?_⟩
      rcases le p _ h with q | ⟨q, _⟩
      · exact q
      · exact q.1.elim
theorem MR.itemsT {v : V} {ds : List D} (m : MR CA H R ((v, .tup ds) :: L)) (f : fzdL ds = true) : ∃ p vs, v = .ref p ∧ vs.length = ds.length ∧ H p = some (.tup vs) ∧ MR CA H R (vs.zip ds ++ (v, .tup ds) :: L) := by
  obtain ⟨p, vs, rfl, l, hp, m'⟩ := (m.copy (by simpa only [fzd] using f)).openT
  exact ⟨p, vs, rfl, l, hp, (m'.perm List.perm_middle).drop⟩
/-! ### dicts -/
theorem MR.openD {v : V} {ks : List KD} {ds : List D} (m : MR CA H R ((v, .dct true ks ds) :: L)) : ∃ p vs u, v = .ref p ∧ vs.length = ds.length ∧ H p = some u ∧ DkIs ks vs u ∧ MR CA H (p :: R) (vs.zip ds ++ L) := by
  obtain ⟨Hf, F, le, rs, nd, no, tr, lk⟩ := m
  cases rs with
  | cons r t =>
    cases r with
    | @dctT p _ vs u _ F0 hp hk rr =>
      refine ⟨p, vs, u, rfl, rr.len, hp, hk, Hf, _, le, rr.zip t, nodup_move nd, fun a ha => no a (mem_move.mpr ha), fun a ha => ?_, lk⟩
      rcases List.mem_cons.mp ha with h | h
      · subst h; exact ⟨_, hp, hk.isDk.mut⟩
      · exact tr a h
theorem MR.closeD {p : Addr} {ks : List KD} {vs : List V} {ds : List D} {u : HO} (m : MR CA H (p :: R) (vs.zip ds ++ L)) (l : vs.length = ds.length) (k : DkIs ks vs u) : MR CA (upd H p u) R ((.ref p, .dct true ks ds) :: L) := by
  obtain ⟨Hf, F, le, rs, nd, no, tr, lk⟩ := m.wr (u := u) (List.mem_cons_self) k.isDk.mut
  obtain ⟨F1, F2, rfl, r1, r2⟩ := Reps.unzip l rs
  exact ⟨Hf, p :: F1 ++ F2, le, .cons (.dctT upd_same k r1) r2, nodup_back nd, fun a ha => no a (mem_move.mp ha), fun a ha => tr a (List.mem_cons_of_mem _ ha), lk⟩
theorem MR.closeD0 {p : Addr} {ks : List KD} {vs : List V} {ds : List D} {u : HO} (m : MR CA H (p :: R) (vs.zip ds ++ L)) (l : vs.length = ds.length) (k : DkIs ks vs u) (hp : H p = some u) : MR CA H R ((.ref p, .dct true ks ds) :: L) := by
  have h := m.closeD l k
  rwa [upd_id hp] at h
theorem MR.newD {p : Addr} {ks : List KD} {vs : List V} {ds : List D} {u : HO} (m : MR CA H R (vs.zip ds ++ L)) (l : vs.length = ds.length) (k : DkIs ks vs u) (hp : H p = none) : MR CA (upd H p u) R ((.ref p, .dct true ks ds) :: L) := by
  have h := (m.reserve (u := u) hp k.isDk.mut).closeD l k
  rwa [upd_upd] at h
theorem MR.itemsD {v : V} {ks : List KD} {ds : List D} (m : MR CA H R ((v, .dct false ks ds) :: L)) : ∃ p vs u, v = .ref p ∧ vs.length = ds.length ∧ Rd H p u ∧ DkIs ks vs u ∧ MR CA H R (vs.zip ds ++ (v, .dct false ks ds) :: L) := by
  obtain ⟨Hf, F, le, rs, nd, no, tr, lk⟩ := m
  cases rs with
  | cons r t =>
    cases r with
    | @dctF p _ vs u _ hp hk rr =>
      refine ⟨p, vs, u, rfl, rr.len, ?_, hk, Hf, _, le, Reps.zip (F := []) rr (.cons (F := []) (.dctF hp hk rr) t), nd, no, tr, lk⟩
      rcases le p _ hp with h | ⟨_, o, h⟩
      · exact .inl h
      · exact .inr ⟨o, h⟩
theorem MR.readD {v : V} {o : Bool} {ks : List KD} {ds : List D} (m : MR CA H R ((v, .dct o ks ds) :: L)) : ∃ p vs u, v = .ref p ∧ vs.length = ds.length ∧ Rd H p u ∧ DkIs ks vs u := by
  cases o with
  | true => obtain ⟨p, vs, u, a, b, c, d, _⟩ := m.openD; exact ⟨p, vs, u, a, b, .inl c, d⟩
  | false => obtain ⟨p, vs, u, a, b, c, d, _⟩ := m.itemsD; exact ⟨p, vs, u, a, b, c, d⟩
/-- a frozen dict is locked, unlocked -/
def Ct.lock (CA : Ct) (p : Addr) (o : Obj) (u : HO) : Ct := { CA with lk := (p, o, u) :: CA.lk }
mutual
theorem Rep.cls {CA CB : Ct} (e : CA.cls = CB.cls ∧ CA.K = CB.K) {Hf H : Hp} : ∀ {v : V} {d : D} {F : List Addr}, Rep CA Hf H v d F → Rep CB Hf H v d F
  | _, _, _, .non => .non
  | _, _, _, .bl b => .bl b
  | _, _, _, .int i => .int i
  | _, _, _, .str x => .str x
  | _, _, _, .scr h => .scr (e.2 ▸ h)
  | _, _, _, .raw h => .raw h
  | _, _, _, .tup h r => .tup h (Reps.cls e r)
  | _, _, _, .lstF h r => .lstF h (Reps.cls e r)
  | _, _, _, .lstT h r => .lstT h (Reps.cls e r)
  | _, _, _, .dctF h c r => .dctF h c (Reps.cls e r)
  | _, _, _, .dctT h c r => .dctT h c (Reps.cls e r)
  | _, _, _, .objF c h l r => .objF (by rw [← e.1]; exact c) h l (Reps.cls e r)
  | _, _, _, .objT c h l r => .objT (by rw [← e.1]; exact c) h l (Reps.cls e r)
theorem Reps.cls {CA CB : Ct} (e : CA.cls = CB.cls ∧ CA.K = CB.K) {Hf H : Hp} : ∀ {vs : List V} {ds : List D} {F : List Addr}, Reps CA Hf H vs ds F → Reps CB Hf H vs ds F
  | _, _, _, .nil => .nil
  | _, _, _, .cons r t => .cons (Rep.cls e r) (Reps.cls e t)
end
theorem MR.lock {p : Addr} {ks : List KD} {ds : List D} {u : HO} {o : Obj} (m : MR CA H R ((.ref p, .dct false ks ds) :: L)) (hp : H p = some u) (hu : isDk u) : MR (CA.lock p o u) (upd H p (.frz o u)) R ((.ref p, .dct false ks ds) :: L) := by
  obtain ⟨Hf, F, le, rs, nd, no, tr, lk⟩ := m
  obtain ⟨u0, hf⟩ : ∃ u0, Hf p = some u0 := by
    cases rs with
    | cons r t => cases r with
      | dctF h _ _ => exact ⟨_, h⟩
  have hu0 : u0 = u := by
    rcases le p u0 hf with q | ⟨_, o', q⟩
    · rw [hp] at q; cases q; rfl
    · rw [hp] at q; cases q; exact hu.elim
  subst hu0
  have hne : ∀ a ∈ R ++ F, a ≠ p := fun a ha z => by subst z; rw [no a ha] at hf; cases hf
  refine ⟨Hf, F, fun a w e => ?_, Reps.cls (show CA.cls = (CA.lock p o u0).cls ∧ CA.K = (CA.lock p o u0).K from ⟨rfl, rfl⟩) (rs.carry (fun _ _ e => e) fun a ha => upd_ne (hne a (List.mem_append_right _ ha))), nd, no, fun a ha => ?_, fun x hx => ?_⟩
  · by_cases z : a = p
    · subst z
      rw [upd_same]
      rw [hf] at e; cases e
      exact .inr ⟨⟨hu, o, List.mem_cons_self⟩, o, rfl⟩
    · rw [upd_ne z]
      exact (le a w e).imp id fun ⟨⟨h1, o1, h2⟩, h3⟩ => ⟨⟨h1, o1, List.mem_cons_of_mem _ h2⟩, h3⟩
  · rw [upd_ne (hne a (List.mem_append_left _ ha))]; exact tr a ha
  · rcases List.mem_cons.mp hx with e | hx
    · subst e; exact ⟨upd_same, hf, hu⟩
    · obtain ⟨h1, h2, h3⟩ := lk x hx
      have : x.1 ≠ p := fun z => by rw [z, hp] at h1; cases h1; exact hu.elim
      exact ⟨by rw [upd_ne this]; exact h1, h2, h3⟩
theorem MR.locked {p : Addr} {u : HO} {o : Obj} (m : MR (CA.lock p o u) H R L) : H p = some (.frz o u) := by
  obtain ⟨Hf, F, le, rs, nd, no, tr, lk⟩ := m
  exact (lk (p, o, u) List.mem_cons_self).1
/-- what the lock list tells; each dict is locked once -/
theorem MR.unlock {p : Addr} {u : HO} {o : Obj} (m : MR (CA.lock p o u) H R L) (once : ∀ x ∈ CA.lk, x.1 ≠ p) : MR CA (upd H p u) R L := by
  obtain ⟨Hf, F, le, rs, nd, no, tr, lk⟩ := m
  obtain ⟨hp, hf, hd⟩ := lk (p, o, u) List.mem_cons_self
  have hne : ∀ a ∈ R ++ F, a ≠ p := fun a ha z => by subst z; rw [no a ha] at hf; cases hf
  refine ⟨Hf, F, fun a w e => ?_, Reps.cls (show (CA.lock p o u).cls = CA.cls ∧ (CA.lock p o u).K = CA.K from ⟨rfl, rfl⟩) (rs.carry (fun _ _ e => e) fun a ha => upd_ne (hne a (List.mem_append_right _ ha))), nd, no, fun a ha => ?_, fun x hx => ?_⟩
  · by_cases z : a = p
    · subst z
      rw [upd_same]
      have hf' : Hf a = some u := hf
      rw [hf'] at e; cases e
      exact .inl rfl
    · rw [upd_ne z]
      refine (le a w e).imp id fun ⟨⟨h1, o1, h2⟩, h3⟩ => ⟨⟨h1, o1, ?_⟩, h3⟩
      rcases List.mem_cons.mp h2 with h2 | h2
      · cases h2; exact absurd rfl z
      · exact h2
  · rw [upd_ne (hne a (List.mem_append_left _ ha))]; exact tr a ha
  · obtain ⟨h1, h2, h3⟩ := lk x (List.mem_cons_of_mem _ hx)
    exact ⟨by rw [upd_ne (once x hx)]; exact h1, h2, h3⟩
theorem MR.lkd {x : Addr × Obj × HO} (m : MR CA H R L) (hx : x ∈ CA.lk) : H x.1 = some (.frz x.2.1 x.2.2) := by
  obtain ⟨Hf, F, le, rs, nd, no, tr, lk⟩ := m
  exact (lk x hx).1
/-- a frozen dict that is locked is told so -/
theorem MR.inLk {p : Addr} {ks : List KD} {ds : List D} {u : HO} {o : Obj} (m : MR CA H R ((.ref p, .dct false ks ds) :: L)) (hp : H p = some (.frz o u)) : (p, o, u) ∈ CA.lk := by
  obtain ⟨Hf, F, le, rs, nd, no, tr, lk⟩ := m
  obtain ⟨u0, hf, hd⟩ : ∃ u0, Hf p = some u0 ∧ isDk u0 := by
    cases rs with
    | cons r t => cases r with
      | dctF h k _ => exact ⟨_, h, k.isDk⟩
  rcases le p u0 hf with q | ⟨⟨_, o1, q1⟩, o', q⟩
  · rw [hp] at q; cases q; exact hd.elim
  · have h1 := (lk _ q1).1
    rw [hp] at q
    cases q
    rw [hp] at h1
    cases h1
    exact q1
/-! ### objects -/
theorem MR.openO {v : V} {c : Nat} {ns : List Str} {ds : List D} (m : MR CA H R ((v, .obj true c ns ds) :: L)) : ∃ p vs C dx, v = .ref p ∧ vs.length = ds.length ∧ ns.length = vs.length ∧ CA.cls c = some C ∧ H p = some (.ins C dx (ns.zip vs)) ∧ MR CA H (p :: R) (vs.zip ds ++ L) := by
  obtain ⟨Hf, F, le, rs, nd, no, tr, lk⟩ := m
  cases rs with
  | cons r t =>
    cases r with
    | @objT p C dx _ _ vs _ F0 hc hp hl rr =>
      refine ⟨p, vs, C, dx, rfl, rr.len, hl, hc, hp, Hf, _, le, rr.zip t, nodup_move nd, fun a ha => no a (mem_move.mpr ha), fun a ha => ?_, lk⟩
      rcases List.mem_cons.mp ha with h | h
      · subst h; exact ⟨_, hp, trivial⟩
      · exact tr a h
theorem MR.closeO {p C dx : Addr} {c : Nat} {ns : List Str} {vs : List V} {ds : List D} (m : MR CA H (p :: R) (vs.zip ds ++ L)) (l : vs.length = ds.length) (hc : CA.cls c = some C) (hl : ns.length = vs.length) : MR CA (upd H p (.ins C dx (ns.zip vs))) R ((.ref p, .obj true c ns ds) :: L) := by
  obtain ⟨Hf, F, le, rs, nd, no, tr, lk⟩ := m.wr (u := .ins C dx (ns.zip vs)) (List.mem_cons_self) trivial
  obtain ⟨F1, F2, rfl, r1, r2⟩ := Reps.unzip l rs
  exact ⟨Hf, p :: F1 ++ F2, le, .cons (.objT hc upd_same hl r1) r2, nodup_back nd, fun a ha => no a (mem_move.mp ha), fun a ha => tr a (List.mem_cons_of_mem _ ha), lk⟩
theorem MR.closeO0 {p C dx : Addr} {c : Nat} {ns : List Str} {vs : List V} {ds : List D} (m : MR CA H (p :: R) (vs.zip ds ++ L)) (l : vs.length = ds.length) (hc : CA.cls c = some C) (hl : ns.length = vs.length) (hp : H p = some (.ins C dx (ns.zip vs))) : MR CA H R ((.ref p, .obj true c ns ds) :: L) := by
  have h := m.closeO (dx := dx) l hc hl
  rwa [upd_id hp] at h
theorem MR.itemsO {v : V} {c : Nat} {ns : List Str} {ds : List D} (m : MR CA H R ((v, .obj false c ns ds) :: L)) : ∃ p vs C dx, v = .ref p ∧ vs.length = ds.length ∧ ns.length = vs.length ∧ CA.cls c = some C ∧ H p = some (.ins C dx (ns.zip vs)) ∧ MR CA H R (vs.zip ds ++ (v, .obj false c ns ds) :: L) := by
  obtain ⟨Hf, F, le, rs, nd, no, tr, lk⟩ := m
  cases rs with
  | cons r t =>
    cases r with
    | @objF p C dx _ _ vs _ hc hp hl rr =>
      refine ⟨p, vs, C, dx, rfl, rr.len, hl, hc, ?_, Hf, _, le, Reps.zip (F := []) rr (.cons (F := []) (.objF hc hp hl rr) t), nd, no, tr, lk⟩
      rcases le p _ hp with h | ⟨h, _⟩
      · exact h
      · exact h.1.elim
theorem MR.readO {v : V} {o : Bool} {c : Nat} {ns : List Str} {ds : List D} (m : MR CA H R ((v, .obj o c ns ds) :: L)) : ∃ p vs C dx, v = .ref p ∧ vs.length = ds.length ∧ ns.length = vs.length ∧ CA.cls c = some C ∧ H p = some (.ins C dx (ns.zip vs)) := by
  cases o with
  | true => obtain ⟨p, vs, C, dx, a, b, c, d, e, _⟩ := m.openO; exact ⟨p, vs, C, dx, a, b, c, d, e⟩
  | false => obtain ⟨p, vs, C, dx, a, b, c, d, e, _⟩ := m.itemsO; exact ⟨p, vs, C, dx, a, b, c, d, e⟩
/-! ### flat values -/
theorem MR.int {v : V} {i : Int} (m : MR CA H R ((v, .int i) :: L)) : v = .int i := by
  obtain ⟨_, _, _, rs, _⟩ := m
  cases rs with
  | cons r _ => cases r; rfl
theorem MR.bl {v : V} {b : Bool} (m : MR CA H R ((v, .bl b) :: L)) : v = .bl b := by
  obtain ⟨_, _, _, rs, _⟩ := m
  cases rs with
  | cons r _ => cases r; rfl
theorem MR.str {v : V} {x : Str} (m : MR CA H R ((v, .str x) :: L)) : v = .str x := by
  obtain ⟨_, _, _, rs, _⟩ := m
  cases rs with
  | cons r _ => cases r; rfl
theorem MR.non {v : V} (m : MR CA H R ((v, .non) :: L)) : v = .non := by
  obtain ⟨_, _, _, rs, _⟩ := m
  cases rs with
  | cons r _ => cases r; rfl
theorem MR.scr {v : V} {ns : List Int} (m : MR CA H R ((v, .scr ns) :: L)) : ∃ p, v = .ref p ∧ ScrAt CA.K H p ns := by
  obtain ⟨Hf, _, le, rs, _⟩ := m
  cases rs with
  | cons r _ =>
    cases r with
    | @scr p _ h =>
      refine ⟨p, rfl, ?_⟩
      rcases h with ⟨o, h⟩ | h
      · rcases le p _ h with q | ⟨q, _⟩
        · exact .inl ⟨o, q⟩
        · exact q.1.elim
      · exact .inr h
theorem MR.pInt {i : Int} (m : MR CA H R L) : MR CA H R ((.int i, .int i) :: L) := by
  obtain ⟨Hf, F, le, rs, r⟩ := m
  exact ⟨Hf, F, le, .cons (F := []) (.int i) rs, r⟩
theorem MR.pBl {b : Bool} (m : MR CA H R L) : MR CA H R ((.bl b, .bl b) :: L) := by
  obtain ⟨Hf, F, le, rs, r⟩ := m
  exact ⟨Hf, F, le, .cons (F := []) (.bl b) rs, r⟩
theorem MR.pStr {x : Str} (m : MR CA H R L) : MR CA H R ((.str x, .str x) :: L) := by
  obtain ⟨Hf, F, le, rs, r⟩ := m
  exact ⟨Hf, F, le, .cons (F := []) (.str x) rs, r⟩
theorem MR.pNon (m : MR CA H R L) : MR CA H R ((.non, .non) :: L) := by
  obtain ⟨Hf, F, le, rs, r⟩ := m
  exact ⟨Hf, F, le, .cons (F := []) .non rs, r⟩
end
end VL
/-! VL part 3: the small syntax and its evaluator -/
namespace VL
open PySem PySem.Spec PyProof.Rows L2
inductive Out (α : Type) where
  | no | err (c : Nat) | ok (a : α)
def Out.bind {α β : Type} (x : Out α) (f : α → Out β) : Out β := match x with
  | .no => .no
  | .err c => .err c
  | .ok a => f a
@[simp] theorem Out.bind_ok {α β : Type} {a : α} {f : α → Out β} : (Out.ok a).bind f = f a := rfl
@[simp] theorem Out.bind_no {α β : Type} {f : α → Out β} : (Out.no : Out α).bind f = .no := rfl
@[simp] theorem Out.bind_err {α β : Type} {c : Nat} {f : α → Out β} : (Out.err c : Out α).bind f = .err c := rfl
theorem Out.bind_eq {α β : Type} {x : Out α} {f : α → Out β} {b : β} (h : x.bind f = .ok b) : ∃ a, x = .ok a ∧ f a = .ok b := by
  cases x with
  | no => cases h
  | err c => cases h
  | ok a => exact ⟨a, rfl, h⟩
def Out.of {α : Type} (x : Option α) : Out α := match x with
  | none => .no
  | some a => .ok a
@[simp] theorem Out.of_some {α : Type} {a : α} : Out.of (some a) = .ok a := rfl
theorem Out.of_eq {α : Type} {x : Option α} {a : α} (h : Out.of x = .ok a) : x = some a := by
  cases x with
  | none => cases h
  | some b => cases h; rfl
def Out.guard {α : Type} (b : Bool) (x : Out α) : Out α := match b with
  | true => x
  | false => .no
@[simp] theorem Out.guard_true {α : Type} {x : Out α} : Out.guard true x = x := rfl
theorem Out.guard_eq {α : Type} {b : Bool} {x : Out α} {a : α} (h : Out.guard b x = .ok a) : b = true ∧ x = .ok a := by
  cases b with
  | true => exact ⟨rfl, h⟩
  | false => cases h
abbrev Env := List (Option D)
def lim : Nat := 16777216
inductive Bop where | add | sub | mul | fdiv | mod | pow
inductive Cop where | lt | le | gt | ge | eq | ne
inductive B1 where | len | all | lset | int | max
inductive C1 where | sorted | sset | list | tuple | dict
inductive B2 where | min | max
inductive M0 where | isalpha | islower
inductive M1 where | index | join | split
inductive Ty where | int | bool | str | tuple | list
inductive Tg where | one (i : Nat) | tup (is : List Nat)
mutual
inductive E where
  | cn | cb (b : Bool) | ci (i : Int) | cs (x : Str)
  | gl (j : Nat)
  | nm (i : Nat) | mv (i : Nat) | rf (i : Nat) | lnm (i : Nat) | bnm (i : Nat) | bsub (i : Nat) (b : E) | bfld (i : Nat) (f : Str) | np
  | bin (o : Bop) (a b : E) | neg (a : E)
  | cmp (o : Cop) (a b : E) | inn (n : Bool) (a b : E) | isn (n : Bool) (a : E) | chn (o p : Cop) (a b c : E)
  | and1 (a : E) | and2 (a b : E) | or1 (a : E) | or2 (a b : E) | not_ (a : E) | ite (c a b : E)
  | call (k : Nat) (as : List E) | meth (k : Nat) (o : E) (as : List E) | mk (k : Nat) (as : List E)
  | b1 (f : B1) (a : E) | c1 (f : C1) (a : E) | b2 (f : B2) (a b : E) | isi (a : E) (t : Ty)
  | m0 (f : M0) (o : E) | m1 (f : M1) (o a : E) | get1 (o a : E) | get2 (o a d : E) | pop (i : Nat)
  | sub (a b : E) | sl (a lo hi : E) | fld (a : E) (f : Str)
  | tup (as : List E) | lst (as : List E) | dct (kvs : List E)
  | lc (own : List Nat) (g : Tg) (it : It) (t : E) (el : E)
  | lcn (own : List Nat) (g : Tg) (it : It) (el : E)
inductive It where
  | seq (a : E) | rng (a : E) | rrng (a : E) | rev (a : E) | enm (a : E) | zip (a b : E) | dk (a : E)
end
inductive P where
  | root (i : Nat) | idx (i : Nat) (e : E) | fld (i : Nat) (f : Str)
inductive MO where | app | ext | rem | upd
inductive S where
  | set (i : Nat) (e : E) | sets (is : List Nat) (e : E)
  | seti (p : P) (k e : E) | setf (i : Nat) (f : Str) (e : E)
  | mo (o : MO) (p : P) (e : E) | clr (p : P) | moi (o : MO) (i : Nat) (k e : E)
  | ex (e : E) | ret (e : E) | retn
  | ifs (c : E) (a b : List S) | whl (c : E) (a : List S) | for_ (g : Tg) (it : It) (a : List S)
  | rais (c : Nat) (e : E) | pass
/-! ### data operations -/
def fl (d : D) : Out Bool := match d with
  | .bl b => .ok b
  | _ => .no
def num (d : D) : Out Int := match d with
  | .int i => .ok i
  | _ => .no
def kdD : KD → D
  | .inl (.inl i) => .int i
  | .inl (.inr x) => .str x
  | .inr l => .tup (l.map fun k => match k with
    | .inl i => .int i
    | .inr x => .str x)
def toK : D → Option Key
  | .int i => some (.inl i)
  | .str x => some (.inr x)
  | _ => none
def toKs : List D → Option (List Key)
  | [] => some []
  | d :: l => match toK d, toKs l with
    | some k, some ks => some (k :: ks)
    | _, _ => none
def toKD : D → Option KD
  | .int i => some (.inl (.inl i))
  | .str x => some (.inl (.inr x))
  | .tup l => (toKs l).map .inr
  | _ => none
def didx : List KD → KD → Option Nat
  | [], _ => none
  | k' :: ks, k => if k' = k then some 0 else (didx ks k).map (· + 1)
def dget {α : Type} (ks : List KD) (l : List α) (k : KD) : Option α := (didx ks k).bind fun j => l[j]?
def dput {α : Type} (ks : List KD) (l : List α) (k : KD) (d : α) : List KD × List α :=
  if (didx ks k).isSome then (ks, (ks.zip l).map fun p => if p.1 = k then d else p.2) else (ks ++ [k], l ++ [d])
def sameKind (k : KD) (ks : List KD) : Bool := ks.all fun k' => k'.isLeft == k.isLeft
def binD (o : Bop) (a b : D) : Out D := match o, a, b with
  | .add, .int i, .int j => .ok (.int (i + j))
  | .add, .str x, .str y => Out.guard (decide (x.length + y.length ≤ lim)) (.ok (.str (x ++ y)))
  | .add, .lst _ l, .lst _ m => Out.guard (fzdL l && fzdL m && decide (l.length + m.length ≤ lim)) (.ok (.lst true (l ++ m)))
  | .add, .tup l, .tup m => Out.guard (fzdL l && fzdL m && !l.isEmpty && decide (l.length + m.length ≤ lim)) (.ok (.tup (l ++ m)))
  | .sub, .int i, .int j => .ok (.int (i - j))
  | .mul, .int i, .int j => Out.guard (decide (-(2 ^ 64) < i ∧ i < 2 ^ 64) || decide (-(2 ^ 64) < j ∧ j < 2 ^ 64)) (.ok (.int (i * j)))
  | .fdiv, .int i, .int j => Out.guard (decide (0 < j ∧ j < 1073741824)) (.ok (.int (i / j)))
  | .mod, .int i, .int j => Out.guard (decide (0 < j)) (.ok (.int (i % j)))
  | .pow, .int i, .int j => Out.guard (decide (0 ≤ j ∧ j ≤ 1000 ∧ i.natAbs < 2 ^ 64)) (.ok (.int (i ^ j.toNat)))
  | _, _, _ => .no
/-- none, ints, texts; tuples and lists of such, up to a depth -/
def flat : D → Bool
  | .non => true
  | .int _ => true
  | .str _ => true
  | _ => false
def pl : Nat → D → Bool
  | _, .non => true
  | _, .int _ => true
  | _, .str x => PyData.strOk x
  | n + 1, .tup l => l.all (pl n)
  | n + 1, .lst _ l => l.all (pl n)
  | _, _ => false
def plain (d : D) : Bool := pl 10 d
open Classical in
/-- == -/
noncomputable def eqv (a b : D) : Bool := decide (frz a = frz b)
open Classical in
theorem eqv_iff {a b : D} : eqv a b = true ↔ frz a = frz b := by unfold eqv; exact decide_eq_true_iff
open Classical in
noncomputable def eqD (a b : D) : Out Bool := match a, b with
  | .dct _ ks l, .dct _ ks' l' => Out.guard (decide (ks = ks' ∧ frzL l = frzL l') && ks.all (·.isLeft) && l.all fun d => match d with
    | .int _ => true
    | _ => false) (.ok true)
  | a, b => Out.guard (flat a && flat b || plain a && plain b) (.ok (eqv a b))
noncomputable def cmpD (o : Cop) (a b : D) : Out Bool := match o, a, b with
  | .lt, .int i, .int j => .ok (decide (i < j))
  | .le, .int i, .int j => .ok (decide (i ≤ j))
  | .gt, .int i, .int j => .ok (decide (j < i))
  | .ge, .int i, .int j => .ok (decide (j ≤ i))
  | .eq, a, b => eqD a b
  | .ne, a, b => (eqD a b).bind fun c => .ok (!c)
  | _, _, _ => .no
noncomputable def inD (a b : D) : Out Bool := match b with
  | .lst _ l => Out.guard (flat a && l.all flat || plain a && l.all plain) (.ok (l.any fun d => eqv d a))
  | .tup l => Out.guard (flat a && l.all flat) (.ok (l.any fun d => eqv d a))
  | .dct _ ks _ => (Out.of (toKD a)).bind fun k => Out.guard (sameKind k ks) (.ok (didx ks k).isSome)
  | .str y => match a with
    | .str x => match x.cps.toList with
      | [c] => .ok (decide (c ∈ y.cps.toList))
      | _ => .no
    | _ => .no
  | _ => .no
def isN (d : D) : Bool := match d with
  | .non => true
  | _ => false
def lenD (d : D) : Out Int := match d with
  | .lst _ l => .ok l.length
  | .tup l => .ok l.length
  | .dct _ ks _ => .ok ks.length
  | .str x => Out.guard (decide (x.length ≤ lim)) (.ok x.length)
  | .scr ns => .ok ns.length
  | _ => .no
def isiD (d : D) (t : Ty) : Bool := match d, t with
  | .int _, .int => true
  | .bl _, .int => true
  | .bl _, .bool => true
  | .str _, .str => true
  | .tup _, .tuple => true
  | .raw _, .tuple => true
  | .lst _ _, .list => true
  | .scr _, .list => true
  | _, _ => false
def isiOk : D → Bool
  | .dct _ _ _ => false
  | .obj _ _ _ _ => false
  | _ => true
def bools : List D → Option (List Bool)
  | [] => some []
  | .bl b :: l => (bools l).map (b :: ·)
  | _ => none
def intsD : List D → Option (List Int)
  | [] => some []
  | .int i :: l => (intsD l).map (i :: ·)
  | _ => none
def strsD : List D → Option (List Str)
  | [] => some []
  | .str i :: l => (strsD l).map (i :: ·)
  | _ => none
def marksD : List D → Option (List (Str × Int))
  | [] => some []
  | .tup [.str x, .int i] :: l => (marksD l).map ((x, i) :: ·)
  | _ => none
def strLe (x y : Str) : Bool := decide (¬ y.cps.toList < x.cps.toList)
def markLe (x y : Str × Int) : Bool := if x.1 = y.1 then decide (x.2 ≤ y.2) else strLe x.1 y.1
/-- the sorted list -/
def sortI (ns : List Int) : List Int := ns.mergeSort fun a b => decide (a ≤ b)
def sortS (xs : List Str) : List Str := xs.mergeSort strLe
def sortD (l : List D) : Out (List D) := match intsD l with
  | some ns => .ok ((sortI ns).map .int)
  | none => match strsD l with
    | some xs => .ok ((sortS xs).map .str)
    | none => .no
noncomputable def addO {α : Type} (acc : List α) (x : α) : List α := @ite _ (x ∈ acc) (Classical.propDecidable _) acc (x :: acc)
/-- the different ones -/
noncomputable def once {α : Type} (l : List α) : List α := l.foldl addO []
noncomputable def onceD (l : List D) : Out (List D) := match intsD l with
  | some ns => .ok ((once ns).map .int)
  | none => match strsD l with
    | some xs => .ok ((once xs).map .str)
    | none => .no
/-- the items that a walk gives -/
def itemsD (d : D) : Out (List D) := match d with
  | .lst _ l => .ok l
  | .tup l => .ok l
  | .dct _ ks _ => .ok (ks.map kdD)
  | .str x => .ok (x.cps.toList.map fun c => .str ⟨#[c]⟩)
  | _ => .no
/-- the places of a sequence by an int of either sign -/
def ixD {α : Type} (l : List α) (i : Int) : Option α := atI l i
def pairsD : List D → Option (List (KD × D))
  | [] => some []
  | .tup [k, v] :: l => match toKD k, pairsD l with
    | some k, some r => some ((k, v) :: r)
    | _, _ => none
  | _ => none
def dputs (ks : List KD) (l : List D) : List (KD × D) → List KD × List D
  | [] => (ks, l)
  | (k, d) :: r => dputs (dput ks l k d).1 (dput ks l k d).2 r
def maxI : List Int → Option Int
  | [] => none
  | [i] => some i
  | i :: r => (maxI r).map fun m => if m > i then m else i
noncomputable def b1D (f : B1) (d : D) : Out D := match f, d with
  | .len, d => (lenD d).bind fun n => .ok (.int n)
  | .all, .lst _ l => (Out.of (bools l)).bind fun bs => .ok (.bl (bs.all id))
  | .lset, .lst _ l => Out.guard (decide (l.length < 64)) ((onceD l).bind fun r => .ok (.int r.length))
  | .int, .int i => .ok (.int i)
  | .int, .bl b => .ok (.int (if b then 1 else 0))
  | .max, .lst _ l => (Out.of (intsD l)).bind fun ns => (Out.of (maxI ns)).bind fun m => .ok (.int m)
  | _, _ => .no
noncomputable def c1D (f : C1) (d : D) : Out D := match f, d with
  | .sorted, .lst _ l => Out.guard (decide (l.length < 64)) ((sortD l).bind fun r => .ok (.lst true r))
  | .sorted, .dct _ ks _ => Out.guard (decide (ks.length < 64) && ks.all (·.isLeft)) ((sortD (ks.map kdD)).bind fun r => .ok (.lst true r))
  | .sset, .lst _ l => Out.guard (decide (l.length < 64)) ((onceD l).bind fun r => (sortD r).bind fun r => .ok (.lst true r))
  | .list, .lst _ l => Out.guard (fzdL l) (.ok (.lst true l))
  | .list, .tup l => Out.guard (fzdL l) (.ok (.lst true l))
  | .list, .dct _ ks _ => Out.guard (ks.all (·.isLeft)) (.ok (.lst true (ks.map kdD)))
  | .tuple, .lst _ l => Out.guard (fzdL l) (.ok (.tup l))
  | .tuple, .tup l => Out.guard (fzdL l) (.ok (.tup l))
  | .dict, .dct _ ks l => Out.guard (fzdL l && ks.all (·.isLeft)) (.ok (.dct true ks l))
  | .dict, .lst _ l => (Out.of (pairsD l)).bind fun ps => Out.guard (fzdL l && ps.all (·.1.isLeft)) (.ok (.dct true (dputs [] [] ps).1 (dputs [] [] ps).2))
  | _, _ => .no
def b2D (f : B2) (a b : D) : Out D := match f, a, b with
  | .min, .int i, .int j => .ok (.int (if j < i then j else i))
  | .max, .int i, .int j => .ok (.int (if j > i then j else i))
  | _, _, _ => .no
/-- which child: by an item or a key -/
def whichD (a b : D) : Option Nat := match a, b with
  | .lst _ l, .int i => ixN l.length i
  | .tup l, .int i => ixN l.length i
  | .dct _ ks _, k => match toKD k with
    | some k => if sameKind k ks then didx ks k else none
    | none => none
  | _, _ => none
def kids (a : D) : List D := match a with
  | .lst _ l => l
  | .tup l => l
  | .dct _ _ l => l
  | .obj _ _ _ l => l
  | _ => []
/-- a[b]: its item -/
def subD (a b : D) : Out D := match a with
  | .scr ns => (num b).bind fun i => (Out.of (ixD ns i)).bind fun n => .ok (.int n)
  | .str x => (num b).bind fun i => Out.guard (decide (x.length ≤ lim)) ((Out.of (ixD x.cps.toList i)).bind fun c => .ok (.str ⟨#[c]⟩))
  | a => (Out.of (whichD a b)).bind fun j => Out.of ((kids a)[j]?)
def partD (d : D) : Out (Option Int) := match d with
  | .int i => .ok (some i)
  | _ => .no
def cutD {α : Type} (l : List α) (lo hi : Option Int) : List α := (l.drop (HT.sIx l.length 0 lo)).take (HT.sIx l.length l.length hi - HT.sIx l.length 0 lo)
def slD (a : D) (lo hi : Option Int) : Out D := match a with
  | .lst _ l => Out.guard (fzdL l) (.ok (.lst true (cutD l lo hi)))
  | .tup l => Out.guard (fzdL l && !(decide (HT.sIx l.length 0 lo = 0 ∧ HT.sIx l.length l.length hi = l.length))) (.ok (.tup (cutD l lo hi)))
  | .str x => Out.guard (decide (x.length ≤ lim)) (.ok (.str (cutS x lo hi)))
  | _ => .no
def joinS (y : Str) (l : List Str) : Str := Txt.join y l
def m1D (f : M1) (a b : D) : Out D := match f, a, b with
  | .join, .str y, .lst _ l => (Out.of (strsD l)).bind fun xs => Out.guard (decide ((xs.map (·.length)).sum + xs.length * y.length ≤ 16777216)) (.ok (.str (joinS y xs)))
  | .split, .str x, .str y => Out.guard (!(y.length == 0) && decide (x.length + 2 ≤ lim)) (.ok (.lst true ((Txt.split x y).map .str)))
  | .index, .str x, .str y => match Builtin.Str.occurrences x y 0 x.length 1 with
    | i :: _ => .ok (.int (i : Nat))
    | [] => .no
  | _, _, _ => .no
def m0D (f : M0) (a : D) : Out D := match f, a with
  | .isalpha, .str x => .ok (.bl (Txt.isalpha x))
  | .islower, .str x => .no
  | _, _ => .no
def fldD (a : D) (f : Str) : Out D := match a with
  | .obj _ _ ns l => Out.of ((ns.zip l).lookup f)
  | _ => .no
/-- the child at a path's last step, frozen in place -/
def frzAt (a : D) (j : Nat) : D := match a with
  | .lst o l => .lst o (l.modify j frz)
  | .tup l => .tup (l.modify j frz)
  | .dct o ks l => .dct o ks (l.modify j frz)
  | .obj o c ns l => .obj o c ns (l.modify j frz)
  | d => d
def getv (ρ : Env) (i : Nat) : Option D := (ρ[i]?).join
def whichF (a : D) (f : Str) : Option Nat := match a with
  | .obj _ _ ns _ => if f ∈ ns then some (ns.idxOf f) else none
  | _ => none
def setKid (a : D) (j : Nat) (d : D) : D := match a with
  | .lst o l => .lst o (l.set j d)
  | .tup l => .tup (l.set j d)
  | .dct o ks l => .dct o ks (l.set j d)
  | .obj o c ns l => .obj o c ns (l.set j d)
  | d => d
/-- the child j of slot i, frozen in place and told -/
def takeKid (ρ : Env) (i : Nat) (a : D) (j : Nat) : Out (D × Env) :=
  (Out.of ((kids a)[j]?)).bind fun d => if fzd d then .ok (d, ρ) else .ok (frz d, ρ.set i (some (setKid a j (frz d))))
def subE (ρ : Env) (i : Nat) (b : D) : Out (D × Env) := match getv ρ i with
  | some a => match a with
    | .scr _ => (subD a b).bind fun d => .ok (d, ρ)
    | .str _ => (subD a b).bind fun d => .ok (d, ρ)
    | a => (Out.of (whichD a b)).bind fun j => takeKid ρ i a j
  | none => .no
def fldE (ρ : Env) (i : Nat) (f : Str) : Out (D × Env) := match getv ρ i with
  | some a => (Out.of (whichF a f)).bind fun j => takeKid ρ i a j
  | none => .no
/-- what a def (a method, a class made) gives: the result and how its parameters are left -/
abbrev Sem' := List D → Out (D × List (Option D))
structure Ctx where
  gl : List D
  fn : List Sem'
def Ctx.at (G : Ctx) (k : Nat) : Sem' := G.fn.getD k fun _ => .no
/-- arguments handed by reference: taken out of their slots -/
def pull : List (Sum D Nat) → Env → Out (List D × Env)
  | [], ρ => .ok ([], ρ)
  | .inl d :: r, ρ => (pull r ρ).bind fun q => .ok (d :: q.1, q.2)
  | .inr i :: r, ρ => (Out.of (getv ρ i)).bind fun d => if fzd d then (pull r ρ).bind fun q => .ok (d :: q.1, q.2) else (pull r (ρ.set i none)).bind fun q => .ok (d :: q.1, q.2)
/-- .. and put back -/
def push : List (Sum D Nat) → List D → List (Option D) → Env → Env
  | .inr i :: r, d :: ds, f :: fs, ρ => if fzd d then push r ds fs ρ else push r ds fs (ρ.set i f)
  | .inl _ :: r, _ :: ds, _ :: fs, ρ => push r ds fs ρ
  | _, _, _, ρ => ρ
def applyF (F : Sem') (its : List (Sum D Nat)) (ρ : Env) : Out (D × Env) :=
  (pull its ρ).bind fun q => (F q.1).bind fun r => .ok (r.1, push its q.1 r.2 q.2)
def makeF (F : Sem') (c : Nat) (its : List (Sum D Nat)) (ρ : Env) : Out (D × Env) :=
  (pull its ρ).bind fun q => (F (.obj true c [] [] :: q.1)).bind fun r => match r.2 with
    | some d :: fs => .ok (d, push its q.1 fs q.2)
    | _ => .no
def setv (ρ : Env) (i : Nat) (d : D) : Out Env := Out.guard (decide (i < ρ.length)) (.ok (ρ.set i (some d)))
def asgL : List Nat → List D → Env → Out Env
  | [], [], ρ => .ok ρ
  | i :: is, d :: ds, ρ => (setv ρ i d).bind fun ρ1 => asgL is ds ρ1
  | _, _, _ => .no
def asgT (g : Tg) (d : D) (ρ : Env) : Out Env := match g with
  | .one i => setv ρ i d
  | .tup is => match d with
    | .tup l => asgL is l ρ
    | .lst _ l => Out.guard (fzdL l) (asgL is l ρ)
    | _ => .no
def wipeE (ρ : Env) (own : List Nat) : Env := own.foldl (fun ρ i => ρ.set i none) ρ
def keepE (old ρ : Env) (own : List Nat) : Env := own.foldl (fun ρ i => ρ.set i (getv old i)) ρ
/-- a walk's items, and a slot that has to stay as it is meanwhile -/
abbrev Wk := List D × Option (Nat × D)
open Classical in
noncomputable def stayE (c : Option (Nat × D)) (ρ : Env) : Bool := match c with
  | none => true
  | some (i, d) => decide (getv ρ i = some d)
open Classical in
theorem stayE_iff {i : Nat} {d : D} {ρ : Env} : stayE (some (i, d)) ρ = true ↔ getv ρ i = some d := by unfold stayE; exact decide_eq_true_iff
noncomputable def compF (ch : Option (Nat × D)) (asg : D → Env → Out Env) (t : Env → Out (Bool × Env)) (el : Env → Out (D × Env)) : List D → List D → Env → Out (List D × Env)
  | [], acc, ρ => Out.guard (stayE ch ρ) (.ok (acc, ρ))
  | d :: r, acc, ρ => Out.guard (stayE ch ρ) ((asg d ρ).bind fun ρ1 => (t ρ1).bind fun b => match b.1 with
    | true => (el b.2).bind fun e => compF ch asg t el r (acc ++ [e.1]) e.2
    | false => compF ch asg t el r acc b.2)
def look (x : Sum D Nat) (ρ : Env) : Option D := match x with
  | .inl d => some d
  | .inr i => getv ρ i
def isD (u : D) : Bool := match u with
  | .dct _ _ _ => true
  | _ => false
def getD (u k e : D) : Out D := match u with
  | .dct _ ks l => (Out.of (toKD k)).bind fun k => Out.guard (sameKind k ks) (match dget ks l k with
    | some d => Out.guard (fzd d) (.ok d)
    | none => .ok e)
  | _ => .no
/-- a first operand: a name is read late -/
def argN (a : E) (f : Env → Out (D × Env)) (ρ : Env) : Out (Sum D Nat × Env) := match a with
  | .lnm i => (Out.of (getv ρ i)).bind fun _ => .ok (.inr i, ρ)
  | _ => (f ρ).bind fun x => .ok (.inl x.1, x.2)
/-- an argument: by reference, or a value -/
def argR (a : E) (f : Env → Out (D × Env)) (ρ : Env) : Out (Sum D Nat × Env) := match a with
  | .rf i => (Out.of (getv ρ i)).bind fun _ => .ok (.inr i, ρ)
  | _ => (f ρ).bind fun x => .ok (.inl x.1, x.2)
def argP (a : E) (f : Env → Out (D × Env)) (ρ : Env) : Out (Option Int × Env) := match a with
  | .np => .ok (none, ρ)
  | _ => (f ρ).bind fun x => (partD x.1).bind fun i => .ok (i, x.2)
def pairUp : List D → Option (List (D × D))
  | [] => some []
  | k :: v :: r => (pairUp r).map ((k, v) :: ·)
  | _ => none
def dctD (l : List D) : Out D := (Out.of (pairUp l)).bind fun ps => (Out.of (pairsD (ps.map fun p => .tup [p.1, p.2]))).bind fun ps =>
  Out.guard (ps.all (·.1.isLeft) && decide (ps.length ≤ 15)) (.ok (.dct true (dputs [] [] ps).1 (dputs [] [] ps).2))
/-- a walk over a sequence: a name is walked where it stands, anything else is frozen -/
def slotW (i : Nat) (ρ : Env) : Out (Wk × Env) := (Out.of (getv ρ i)).bind fun d => match d with
    | .lst true l => .ok ((frzL l, some (i, .lst true (frzL l))), ρ.set i (some (.lst true (frzL l))))
    | .lst false l => .ok ((l, none), ρ)
    | .tup l => Out.guard (fzdL l) (.ok ((l, none), ρ))
    | .str x => .ok ((x.cps.toList.map fun c => .str ⟨#[c]⟩, none), ρ)
    | _ => .no
def seqsD (d : D) : Out (List D) := match d with
  | .lst _ l => .ok l
  | .tup l => .ok l
  | .str x => .ok (x.cps.toList.map fun c => .str ⟨#[c]⟩)
  | _ => .no
def itSeq (a : E) (f : Env → Out (D × Env)) (ρ : Env) : Out (Wk × Env) := match a with
  | .bnm i => slotW i ρ
  | _ => (f ρ).bind fun x => (seqsD (frz x.1)).bind fun l => .ok ((l, none), x.2)
def itRng (d : D) (ρ : Env) : Out (Wk × Env) := (num d).bind fun j => Out.guard (decide (-(2 ^ 62) ≤ j ∧ j < 2 ^ 62)) (.ok (((List.range j.toNat).map fun (i : Nat) => .int i, none), ρ))
def itRev (d : D) (ρ : Env) : Out (Wk × Env) := match frz d with
  | .lst _ l => .ok ((l.reverse, none), ρ)
  | _ => .no
def itEnm (d : D) (ρ : Env) : Out (Wk × Env) := match frz d with
  | .lst _ l => .ok ((l.zipIdx.map fun p => .tup [.int (p.2 : Nat), p.1], none), ρ)
  | _ => .no
def itZip (a b : D) (ρ : Env) : Out (Wk × Env) := match frz a, frz b with
  | .lst _ l, .lst _ m => .ok (((l.zip m).map fun p => .tup [p.1, p.2], none), ρ)
  | .tup l, .tup m => .ok (((l.zip m).map fun p => .tup [p.1, p.2], none), ρ)
  | _, _ => .no
/-- the keys of a dict in a slot, or of one in a slot's list; it is frozen in place -/
def dkF (a : E) (ρ : Env) : Out (List D × Env) := match a with
  | .nm i => (Out.of (getv ρ i)).bind fun d => match d with
    | .dct _ ks l => Out.guard (ks.all (·.isLeft)) (.ok (ks.map kdD, ρ.set i (some (.dct false ks (frzL l)))))
    | _ => .no
  | .sub (.lnm i) k => (match k with
    | .nm k => (Out.of (getv ρ k)).bind num
    | .ci n => .ok n
    | _ => .no).bind fun n => (Out.of (getv ρ i)).bind fun d => match d with
      | .lst o l => (Out.of (ixN l.length n)).bind fun j => (Out.of (l[j]?)).bind fun e => match e with
        | .dct _ ks l' => Out.guard (ks.all (·.isLeft)) (.ok (ks.map kdD, ρ.set i (some (.lst o (l.set j (.dct false ks (frzL l')))))))
        | _ => .no
      | _ => .no
  | _ => .no
def tstF (f : Env → Out (D × Env)) (ρ : Env) : Out (Bool × Env) := (f ρ).bind fun x => (fl x.1).bind fun b => .ok (b, x.2)
noncomputable def lcF (own : List Nat) (g : Tg) (t : Env → Out (Bool × Env)) (el : Env → Out (D × Env)) (w : Wk × Env) : Out (D × Env) :=
  Out.guard (decide (w.1.1.length < lim)) ((compF w.1.2 (fun d ρ => asgT g d (wipeE ρ own)) t el w.1.1 [] w.2).bind fun r => .ok (.lst true r.1, keepE w.2 r.2 own))
mutual
noncomputable def evE (G : Ctx) : E → Env → Out (D × Env)
  | .cn, ρ => .ok (.non, ρ)
  | .cb b, ρ => .ok (.bl b, ρ)
  | .ci i, ρ => .ok (.int i, ρ)
  | .cs x, ρ => .ok (.str x, ρ)
  | .gl j, ρ => (Out.of (G.gl[j]?)).bind fun d => .ok (d, ρ)
  | .nm i, ρ => (Out.of (getv ρ i)).bind fun d => if fzd d then .ok (d, ρ) else .ok (frz d, ρ.set i (some (frz d)))
  | .mv i, ρ => (Out.of (getv ρ i)).bind fun d => .ok (d, ρ.set i none)
  | .rf _, _ => .no
  | .lnm _, _ => .no
  | .np, _ => .no
  | .bnm i, ρ => (Out.of (getv ρ i)).bind fun d => .ok (d, ρ)
  | .bsub i b, ρ => (Out.of (getv ρ i)).bind fun _ => (evE G b ρ).bind fun y => (Out.of (getv y.2 i)).bind fun u => (subD u y.1).bind fun d => .ok (d, y.2)
  | .bfld i f, ρ => (Out.of (getv ρ i)).bind fun u => (fldD u f).bind fun d => .ok (d, ρ)
  | .bin o a b, ρ => (argN a (evE G a) ρ).bind fun x => (argN b (evE G b) x.2).bind fun y => (Out.of (look x.1 y.2)).bind fun u => (Out.of (look y.1 y.2)).bind fun v => (binD o u v).bind fun r => .ok (r, y.2)
  | .neg a, ρ => (evE G a ρ).bind fun x => (num x.1).bind fun i => .ok (.int (-i), x.2)
  | .cmp o a b, ρ => (argN a (evE G a) ρ).bind fun x => (evE G b x.2).bind fun y => (Out.of (look x.1 y.2)).bind fun u => (cmpD o u y.1).bind fun r => .ok (.bl r, y.2)
  | .inn n a b, ρ => (argN a (evE G a) ρ).bind fun x => (evE G b x.2).bind fun y => (Out.of (look x.1 y.2)).bind fun u => (inD u y.1).bind fun r => .ok (.bl (if n then !r else r), y.2)
  | .isn n a, ρ => (evE G a ρ).bind fun x => .ok (.bl (if n then !isN x.1 else isN x.1), x.2)
  | .chn o p a b c, ρ => (evE G a ρ).bind fun x => (evE G b x.2).bind fun y => (cmpD o x.1 y.1).bind fun r => match r with
    | true => (evE G c y.2).bind fun z => (cmpD p y.1 z.1).bind fun q => .ok (.bl q, z.2)
    | false => .ok (.bl false, y.2)
  | .and1 a, ρ => evE G a ρ
  | .or1 a, ρ => evE G a ρ
  | .and2 a b, ρ => (evE G a ρ).bind fun x => (fl x.1).bind fun c => match c with
    | true => evE G b x.2
    | false => .ok (.bl false, x.2)
  | .or2 a b, ρ => (evE G a ρ).bind fun x => (fl x.1).bind fun c => match c with
    | true => .ok (.bl true, x.2)
    | false => evE G b x.2
  | .not_ a, ρ => (evE G a ρ).bind fun x => (fl x.1).bind fun c => .ok (.bl (!c), x.2)
  | .ite c a b, ρ => (evE G c ρ).bind fun x => (fl x.1).bind fun c => match c with
    | true => evE G a x.2
    | false => evE G b x.2
  | .call k as, ρ => (evalA G as ρ).bind fun x => applyF (G.at k) x.1 x.2
  | .meth k o as, ρ => (argR o (evE G o) ρ).bind fun u => (evalA G as u.2).bind fun x => applyF (G.at k) (u.1 :: x.1) x.2
  | .mk k as, ρ => (evalA G as ρ).bind fun x => makeF (G.at k) k x.1 x.2
  | .b1 f a, ρ => (evE G a ρ).bind fun x => (b1D f x.1).bind fun r => .ok (r, x.2)
  | .c1 f a, ρ => (argN a (evE G a) ρ).bind fun x => (Out.of (look x.1 x.2)).bind fun u => (c1D f u).bind fun r => .ok (r, x.2)
  | .b2 f a b, ρ => (evE G a ρ).bind fun x => (evE G b x.2).bind fun y => (b2D f x.1 y.1).bind fun r => .ok (r, y.2)
  | .isi a t, ρ => (evE G a ρ).bind fun x => Out.guard (isiOk x.1) (.ok (.bl (isiD x.1 t), x.2))
  | .m0 f a, ρ => (evE G a ρ).bind fun x => (m0D f x.1).bind fun r => .ok (r, x.2)
  | .m1 f a b, ρ => (evE G a ρ).bind fun x => (evE G b x.2).bind fun y => (m1D f x.1 y.1).bind fun r => .ok (r, y.2)
  | .get1 a b, ρ => (argN a (evE G a) ρ).bind fun x => (Out.of (look x.1 x.2)).bind fun u0 => Out.guard (isD u0) ((evE G b x.2).bind fun y => (Out.of (look x.1 y.2)).bind fun u => (getD u y.1 .non).bind fun r => .ok (r, y.2))
  | .get2 a b c, ρ => (argN a (evE G a) ρ).bind fun x => (Out.of (look x.1 x.2)).bind fun u0 => Out.guard (isD u0) <| (evE G b x.2).bind fun y => (evE G c y.2).bind fun z => (Out.of (look x.1 z.2)).bind fun u => (getD u y.1 z.1).bind fun r => .ok (r, z.2)
  | .pop i, ρ => match getv ρ i with
    | some (.lst true l) => (Out.of (l[l.length - 1]?)).bind fun d => .ok (d, ρ.set i (some (.lst true l.dropLast)))
    | _ => .no
  | .sub a b, ρ => (argN a (evE G a) ρ).bind fun x => (evE G b x.2).bind fun y => match x.1 with
    | .inr i => subE y.2 i y.1
    | .inl u => (subD u y.1).bind fun d => .ok (frz d, y.2)
  | .sl a lo hi, ρ => (argN a (evE G a) ρ).bind fun x => (argP lo (evE G lo) x.2).bind fun y => (argP hi (evE G hi) y.2).bind fun z => (Out.of (look x.1 z.2)).bind fun u => (slD u y.1 z.1).bind fun r => .ok (r, z.2)
  | .fld a f, ρ => (argN a (evE G a) ρ).bind fun x => match x.1 with
    | .inr i => fldE x.2 i f
    | .inl u => (fldD u f).bind fun d => .ok (frz d, x.2)
  | .tup as, ρ => (evalL G as ρ).bind fun x => .ok (.tup x.1, x.2)
  | .lst as, ρ => (evalL G as ρ).bind fun x => .ok (.lst true x.1, x.2)
  | .dct kvs, ρ => (evalL G kvs ρ).bind fun x => (dctD x.1).bind fun r => .ok (r, x.2)
  | .lc own g it t el, ρ => (evalIt G it ρ).bind fun w => lcF own g (tstF (evE G t)) (evE G el) w
  | .lcn own g it el, ρ => (evalIt G it ρ).bind fun w => lcF own g (fun ρ => .ok (true, ρ)) (evE G el) w
noncomputable def evalL (G : Ctx) : List E → Env → Out (List D × Env)
  | [], ρ => .ok ([], ρ)
  | a :: r, ρ => (evE G a ρ).bind fun x => (evalL G r x.2).bind fun y => .ok (x.1 :: y.1, y.2)
noncomputable def evalA (G : Ctx) : List E → Env → Out (List (Sum D Nat) × Env)
  | [], ρ => .ok ([], ρ)
  | a :: r, ρ => (argR a (evE G a) ρ).bind fun x => (evalA G r x.2).bind fun y => .ok (x.1 :: y.1, y.2)
noncomputable def evalIt (G : Ctx) : It → Env → Out (Wk × Env)
  | .seq a, ρ => itSeq a (evE G a) ρ
  | .rng a, ρ => (evE G a ρ).bind fun x => itRng x.1 x.2
  | .rrng a, ρ => (evE G a ρ).bind fun x => (itRng x.1 x.2).bind fun w => .ok ((w.1.1.reverse, none), w.2)
  | .rev a, ρ => (evE G a ρ).bind fun x => itRev x.1 x.2
  | .enm a, ρ => (evE G a ρ).bind fun x => itEnm x.1 x.2
  | .zip a b, ρ => (evE G a ρ).bind fun x => (evE G b x.2).bind fun y => itZip x.1 y.1 y.2
  | .dk a, ρ => (dkF a ρ).bind fun w => .ok ((w.1, none), w.2)
end
/-! ### statements -/
inductive Fl where
  | nx (ρ : Env) | rt (d : D) (ρ : Env)
/-- a node whose children may be owned -/
def ownP : D → Bool
  | .tup _ => true
  | .lst o _ => o
  | .dct o _ _ => o
  | .obj o _ _ _ => o
  | _ => false
/-- the slot, or a child of it, changed in place -/
def mend (a : D) (f : D → Out D) : Option Nat → Out D
  | none => f a
  | some j => Out.guard (ownP a) ((Out.of ((kids a)[j]?)).bind fun d => (f d).bind fun d' => .ok (setKid a j d'))
def mendE (ρ : Env) (i : Nat) (j : Option Nat) (f : D → Out D) : Out Env :=
  (Out.of (getv ρ i)).bind fun a => (mend a f j).bind fun a' => .ok (ρ.set i (some a'))
def appD (d : D) : D → Out D
  | .lst true l => Out.guard (decide (l.length < lim)) (.ok (.lst true (l ++ [d])))
  | _ => .no
def extD (d : D) : D → Out D
  | .lst true l => match d with
    | .lst _ m => Out.guard (fzdL m && decide (l.length + m.length ≤ lim)) (.ok (.lst true (l ++ m)))
    | _ => .no
  | _ => .no
def clrD : D → Out D
  | .lst true _ => .ok (.lst true [])
  | _ => .no
noncomputable def remD (d : D) : D → Out D
  | .lst true l => Out.guard (plain d && l.all plain && l.any fun e => eqv e d) (.ok (.lst true (l.eraseIdx (l.findIdx fun e => eqv e d))))
  | _ => .no
def updD (d : D) : D → Out D
  | .dct true ks l => match d with
    | .dct _ ks' l' => Out.guard (fzdL l' && ks.all (·.isLeft) && ks'.all (·.isLeft) && decide (ks.length + ks'.length < lim)) (.ok (.dct true (dputs ks l (ks'.zip l')).1 (dputs ks l (ks'.zip l')).2))
    | _ => .no
  | _ => .no
def nodeOk (o : MO) (a : D) : Bool := match o, a with
  | .upd, .dct true _ _ => true
  | .app, .lst true _ => true
  | .ext, .lst true _ => true
  | .rem, .lst true _ => true
  | _, _ => false
def nodeAt (ρ : Env) (i : Nat) (j : Option Nat) : Option D := match j with
  | none => getv ρ i
  | some j => (getv ρ i).bind fun a => (kids a)[j]?
noncomputable def moD (o : MO) (d : D) : D → Out D := match o with
  | .app => appD d
  | .ext => extD d
  | .rem => remD d
  | .upd => updD d
/-- o[k] = d -/
def putD (k d : D) : D → Out D
  | .lst true l => (num k).bind fun i => (Out.of (ixN l.length i)).bind fun j => .ok (.lst true (l.set j d))
  | .dct true ks l => (Out.of (toKD k)).bind fun k => Out.guard (sameKind k ks && decide (ks.length < lim)) (.ok (.dct true (dput ks l k d).1 (dput ks l k d).2))
  | _ => .no
def setF (f : Str) (d : D) : D → Out D
  | .obj true c ns l => Out.guard (decide (ns.length < 100)) (if f ∈ ns then .ok (.obj true c ns (l.set (ns.idxOf f) d)) else .ok (.obj true c (ns ++ [f]) (l ++ [d])))
  | _ => .no
def P.slot : P → Nat
  | .root i => i
  | .idx i _ => i
  | .fld i _ => i
/-- which child a path leads to -/
noncomputable def pathE (G : Ctx) (p : P) (ρ : Env) : Out (Option Nat × Env) := match p with
  | .root i => (Out.of (getv ρ i)).bind fun _ => .ok (none, ρ)
  | .idx i e => (evE G e ρ).bind fun x => (Out.of (getv x.2 i)).bind fun a => (Out.of (whichD a x.1)).bind fun j => .ok (some j, x.2)
  | .fld i f => (Out.of (getv ρ i)).bind fun a => (Out.of (whichF a f)).bind fun j => .ok (some j, ρ)
noncomputable def forF (ch : Option (Nat × D)) (asg : D → Env → Out Env) (body : Env → Out Fl) : List D → Env → Out Fl
  | [], ρ => Out.guard (stayE ch ρ) (.ok (.nx ρ))
  | d :: r, ρ => Out.guard (stayE ch ρ) ((asg d ρ).bind fun ρ1 => (body ρ1).bind fun f => match f with
    | .nx ρ2 => forF ch asg body r ρ2
    | .rt v ρ2 => .ok (.rt v ρ2))
def whlF (c : Env → Out (Bool × Env)) (body : Env → Out Fl) : Nat → Env → Out Fl
  | 0, _ => .no
  | n + 1, ρ => (c ρ).bind fun b => match b.1 with
    | true => (body b.2).bind fun f => match f with
      | .nx ρ2 => whlF c body n ρ2
      | .rt v ρ2 => .ok (.rt v ρ2)
    | false => .ok (.nx b.2)
def fuel : Nat := 1000000000000
def seqF (x : Out Fl) (f : Env → Out Fl) : Out Fl := x.bind fun r => match r with
  | .nx ρ => f ρ
  | .rt v ρ => .ok (.rt v ρ)
mutual
noncomputable def exS (G : Ctx) : S → Env → Out Fl
  | .set i e, ρ => (evE G e ρ).bind fun x => (setv x.2 i x.1).bind fun ρ1 => .ok (.nx ρ1)
  | .sets is e, ρ => (evE G e ρ).bind fun x => (asgT (.tup is) x.1 x.2).bind fun ρ1 => .ok (.nx ρ1)
  | .seti p k e, ρ => (evE G e ρ).bind fun x => (pathE G p x.2).bind fun q => (evE G k q.2).bind fun y => (mendE y.2 p.slot q.1 (putD y.1 x.1)).bind fun ρ1 => .ok (.nx ρ1)
  | .setf i f e, ρ => (evE G e ρ).bind fun x => (mendE x.2 i none (setF f x.1)).bind fun ρ1 => .ok (.nx ρ1)
  | .mo o p e, ρ => (pathE G p ρ).bind fun q => (Out.of (nodeAt q.2 p.slot q.1)).bind fun n => Out.guard (nodeOk o n) <| (evE G e q.2).bind fun x => (mendE x.2 p.slot q.1 (moD o x.1)).bind fun ρ1 => .ok (.nx ρ1)
  | .moi o i k e, ρ => (Out.of (getv ρ i)).bind fun _ => (evE G k ρ).bind fun y => (Out.of (getv y.2 i)).bind fun a => match a with
    | .lst true l => (Out.of (whichD (.lst true l) y.1)).bind fun j => (Out.of (l[j]?)).bind fun n => Out.guard (nodeOk o n) ((evE G e y.2).bind fun x => Out.guard (flat x.1) ((moD o x.1 n).bind fun n' => .ok (.nx (y.2.set i (some (.lst true (l.set j n')))))))
    | _ => .no
  | .clr p, ρ => (pathE G p ρ).bind fun q => (mendE q.2 p.slot q.1 clrD).bind fun ρ1 => .ok (.nx ρ1)
  | .ex e, ρ => (evE G e ρ).bind fun x => .ok (.nx x.2)
  | .ret e, ρ => (evE G e ρ).bind fun x => .ok (.rt x.1 x.2)
  | .retn, ρ => .ok (.rt .non ρ)
  | .ifs c a b, ρ => (tstF (evE G c) ρ).bind fun x => match x.1 with
    | true => exB G a x.2
    | false => exB G b x.2
  | .whl c a, ρ => whlF (tstF (evE G c)) (exB G a) fuel ρ
  | .for_ g it a, ρ => (evalIt G it ρ).bind fun w => forF w.1.2 (asgT g) (exB G a) w.1.1 w.2
  | .rais c e, ρ => .err c
  | .pass, ρ => .ok (.nx ρ)
noncomputable def exB (G : Ctx) : List S → Env → Out Fl
  | [], ρ => .ok (.nx ρ)
  | s :: r, ρ => seqF (exS G s ρ) (exB G r)
end
/-- the slots that a block stores by name -/
def Tg.slots : Tg → List Nat
  | .one i => [i]
  | .tup is => is
mutual
def S.asg : S → List Nat
  | .set i _ => [i]
  | .sets is _ => is
  | .ifs _ a b => asgs a ++ asgs b
  | .whl _ a => asgs a
  | .for_ g _ a => g.slots ++ asgs a
  | _ => []
def asgs : List S → List Nat
  | [] => []
  | s :: r => s.asg ++ asgs r
end
/-- a def: the number of its slots, of its parameters; its body -/
structure Df where
  n : Nat
  ps : Nat
  body : List S
def endF (d : Df) (x : Out Fl) : Out (D × List (Option D)) := x.bind fun r => match r with
  | .nx ρ => .ok (.non, (List.range d.ps).map fun i => if i ∈ asgs d.body then none else getv ρ i)
  | .rt v ρ => .ok (v, (List.range d.ps).map fun i => if i ∈ asgs d.body then none else getv ρ i)
noncomputable def Df.run (G : Ctx) (d : Df) : Sem' := fun ds => Out.guard (decide (ds.length = d.ps)) (endF d (exB G d.body (ds.map some ++ List.replicate (d.n - d.ps) none)))
end VL
/-! VL part 4: slots and temporaries -/
namespace VL
open PySem PySem.Spec L2
def envL : St → Env → List VD
  | some v :: σ, some d :: ρ => (v, d) :: envL σ ρ
  | _ :: σ, _ :: ρ => envL σ ρ
  | _, _ => []
/-- the slots that hold data have values -/
def Dom (σ : St) (ρ : Env) : Prop := ρ.length = σ.length ∧ ∀ (i : Nat) (d : D), getv ρ i = some d → ∃ v, σ[i]? = some (some v)
theorem getv_nil (i : Nat) : getv [] i = none := by simp [getv]
theorem getv_zero (o : Option D) (ρ : Env) : getv (o :: ρ) 0 = o := by cases o <;> simp [getv]
theorem getv_succ (o : Option D) (ρ : Env) (i : Nat) : getv (o :: ρ) (i + 1) = getv ρ i := by simp [getv]
theorem getv_set_same {ρ : Env} {i : Nat} {o : Option D} (h : i < ρ.length) : getv (ρ.set i o) i = o := by
  simp [getv, h]
theorem getv_set_ne {ρ : Env} {i j : Nat} {o : Option D} (h : i ≠ j) : getv (ρ.set i o) j = getv ρ j := by
  simp [getv, List.getElem?_set_ne h]
theorem getv_lt {ρ : Env} {i : Nat} {d : D} (h : getv ρ i = some d) : i < ρ.length := by
  unfold getv at h
  by_cases q : i < ρ.length
  · exact q
  · rw [List.getElem?_eq_none (by omega)] at h; cases h
theorem Dom.set {σ : St} {ρ : Env} {i : Nat} {v : V} {o : Option D} (h : Dom σ ρ) : Dom (σ.set i (some v)) (ρ.set i o) := by
  refine ⟨by simp [h.1], fun j d e => ?_⟩
  by_cases hj : i = j
  · subst hj
    have hl : i < (ρ.set i o).length := getv_lt e
    refine ⟨v, ?_⟩
    rw [List.getElem?_set_self (by rw [List.length_set] at hl; rw [← h.1]; exact hl)]
  · rw [getv_set_ne hj] at e
    rw [List.getElem?_set_ne hj]
    exact h.2 j d e
theorem Dom.none {σ : St} {ρ : Env} {i : Nat} (h : Dom σ ρ) : Dom σ (ρ.set i none) := by
  refine ⟨by simp [h.1], fun j d e => ?_⟩
  by_cases hj : i = j
  · subst hj
    rw [getv_set_same (by have := getv_lt e; simpa using this)] at e; cases e
  · rw [getv_set_ne hj] at e; exact h.2 j d e
theorem Dom.put {σ : St} {ρ : Env} {i : Nat} {v : V} {o : Option D} (h : Dom σ ρ) (hv : σ[i]? = some (some v)) : Dom σ (ρ.set i o) := by
  refine ⟨by simp [h.1], fun j d e => ?_⟩
  by_cases hj : i = j
  · subst hj; exact ⟨v, hv⟩
  · rw [getv_set_ne hj] at e; exact h.2 j d e
theorem envL_none : ∀ {σ : St} {ρ : Env} {i : Nat}, getv ρ i = none → envL σ (ρ.set i none) = envL σ ρ
  | [], [], _, _ => rfl
  | [], _ :: _, _, _ => by simp [envL]
  | _ :: _, [], _, _ => by simp [envL]
  | s :: σ, o :: ρ, 0, h => by
    rw [getv_zero] at h; subst h; rfl
  | s :: σ, o :: ρ, i + 1, h => by
    rw [getv_succ] at h
    rw [List.set_cons_succ]
    cases s <;> cases o <;> simp [envL, envL_none h]
/-- a slot taken out -/
theorem envL_take : ∀ {σ : St} {ρ : Env} {i : Nat} {v : V} {d : D}, σ[i]? = some (some v) → getv ρ i = some d → (envL σ ρ).Perm ((v, d) :: envL σ (ρ.set i none))
  | [], _, _, _, _, h, _ => by simp at h
  | _ :: _, [], _, _, _, _, h => by simp [getv] at h
  | s :: σ, o :: ρ, 0, v, d, hs, hr => by
    rw [getv_zero] at hr
    subst hr
    have e : s = some v := by simpa using hs
    subst e
    exact List.Perm.refl _
  | s :: σ, o :: ρ, i + 1, v, d, hs, hr => by
    rw [getv_succ] at hr
    have ih := envL_take (σ := σ) (ρ := ρ) (i := i) (by simpa using hs) hr
    rw [List.set_cons_succ]
    cases s <;> cases o <;> simp only [envL] <;> first
      | exact ih
      | exact (ih.cons _).trans (List.Perm.swap _ _ _)
/-- a slot filled -/
theorem envL_put {σ : St} {ρ : Env} {i : Nat} {v : V} {d : D} (hv : σ[i]? = some (some v)) (hl : i < ρ.length) : (envL σ (ρ.set i (some d))).Perm ((v, d) :: envL σ (ρ.set i none)) := by
  have h := envL_take (σ := σ) (ρ := ρ.set i (some d)) hv (getv_set_same hl)
  rwa [List.set_set] at h
theorem envL_sset : ∀ {σ : St} {ρ : Env} {i : Nat} {o : Option V}, envL (σ.set i o) (ρ.set i none) = envL σ (ρ.set i none)
  | [], ρ, i, o => by simp [envL]
  | _ :: _, [], i, o => by cases i <;> simp [envL]
  | s :: σ, r :: ρ, 0, o => by cases s <;> cases o <;> simp [envL]
  | s :: σ, r :: ρ, i + 1, o => by
    rw [List.set_cons_succ, List.set_cons_succ]
    cases s <;> cases r <;> simp only [envL] <;> (try rw [envL_sset])
theorem envL_store {σ : St} {ρ : Env} {i : Nat} {v : V} {d : D} (hd : Dom σ ρ) (hl : i < σ.length) : (envL (σ.set i (some v)) (ρ.set i (some d))).Perm ((v, d) :: envL σ (ρ.set i none)) := by
  have h := envL_put (σ := σ.set i (some v)) (ρ := ρ) (i := i) (v := v) (d := d) (by simp [hl]) (by rw [hd.1]; exact hl)
  rwa [envL_sset] at h
section
variable {CA : Ct} {H : Hp} {R : List Addr} {L : List VD} {σ : St} {ρ : Env}
theorem MR.dropSlot {i : Nat} (m : MR CA H R (envL σ ρ ++ L)) (dm : Dom σ ρ) : MR CA H R (envL σ (ρ.set i none) ++ L) := by
  cases e : getv ρ i with
  | none => rw [envL_none e]; exact m
  | some d =>
    obtain ⟨v, hv⟩ := dm.2 i d e
    exact (m.perm ((envL_take hv e).append_right L)).drop
/-- a value stored in a slot -/
theorem MR.store {i : Nat} {v : V} {d : D} (m : MR CA H R ((v, d) :: (envL σ ρ ++ L))) (dm : Dom σ ρ) (hl : i < σ.length) : MR CA H R (envL (σ.set i (some v)) (ρ.set i (some d)) ++ L) := by
  have m1 : MR CA H R (envL σ ρ ++ ((v, d) :: L)) := m.perm (List.perm_middle.symm)
  have m2 := m1.dropSlot (i := i) dm
  have m3 : MR CA H R ((v, d) :: (envL σ (ρ.set i none) ++ L)) := m2.perm List.perm_middle
  exact m3.perm (((envL_store dm hl).symm).append_right L)
/-- a slot brought to the front -/
theorem MR.front {i : Nat} {v : V} {d : D} (m : MR CA H R (envL σ ρ ++ L)) (hv : σ[i]? = some (some v)) (hd : getv ρ i = some d) : MR CA H R ((v, d) :: (envL σ (ρ.set i none) ++ L)) :=
  m.perm ((envL_take hv hd).append_right L)
theorem MR.back {i : Nat} {v : V} {d : D} (m : MR CA H R ((v, d) :: (envL σ (ρ.set i none) ++ L))) (hv : σ[i]? = some (some v)) (hl : i < ρ.length) : MR CA H R (envL σ (ρ.set i (some d)) ++ L) :=
  m.perm (((envL_put hv hl).symm).append_right L)
theorem set_self {ρ : Env} {i : Nat} {d : D} (h : getv ρ i = some d) : ρ.set i (some d) = ρ := by
  have hl := getv_lt h
  unfold getv at h
  rw [List.getElem?_eq_getElem hl] at h
  have e : ρ[i] = some d := by simpa using h
  rw [← e]; exact List.set_getElem_self hl
theorem MR.back0 {i : Nat} {v : V} {d : D} (m : MR CA H R ((v, d) :: (envL σ (ρ.set i none) ++ L))) (hv : σ[i]? = some (some v)) (hd : getv ρ i = some d) : MR CA H R (envL σ ρ ++ L) := by
  have h := m.back hv (getv_lt hd)
  rwa [set_self hd] at h
/-- swap the first with what follows -/
theorem MR.rot {x : VD} {K : List VD} (m : MR CA H R (x :: (K ++ L))) : MR CA H R (K ++ x :: L) := m.perm List.perm_middle.symm
theorem MR.unrot {x : VD} {K : List VD} (m : MR CA H R (K ++ x :: L)) : MR CA H R (x :: (K ++ L)) := m.perm List.perm_middle
/-- one of the firsts, the others dropped -/
theorem mem_zip_get {vs : List V} {ds : List D} {j : Nat} {v : V} {d : D} (hv : vs[j]? = some v) (hd : ds[j]? = some d) : ∃ K, (vs.zip ds).Perm ((v, d) :: K) := by
  have h : (vs.zip ds)[j]? = some (v, d) := by
    rw [List.getElem?_zip_eq_some]; exact ⟨hv, hd⟩
  obtain ⟨A, B, e⟩ := List.append_of_mem (List.mem_of_getElem? h)
  exact ⟨A ++ B, by rw [e]; exact List.perm_middle⟩
theorem MR.pick {vs : List V} {ds : List D} {j : Nat} {v : V} {d : D} (m : MR CA H R (vs.zip ds ++ L)) (hv : vs[j]? = some v) (hd : ds[j]? = some d) : MR CA H R ((v, d) :: L) := by
  obtain ⟨K, p⟩ := mem_zip_get hv hd
  have m1 : MR CA H R ((v, d) :: (K ++ L)) := m.perm (p.append_right L)
  have m2 : MR CA H R (K ++ (v, d) :: L) := m1.rot
  exact m2.dropL
theorem MR.pickC {vs : List V} {ds : List D} {j : Nat} {v : V} {d : D} (m : MR CA H R (vs.zip ds ++ L)) (hv : vs[j]? = some v) (hd : ds[j]? = some d) (f : fzd d = true) : MR CA H R ((v, d) :: (vs.zip ds ++ L)) := by
  obtain ⟨K, p⟩ := mem_zip_get hv hd
  have m1 : MR CA H R ((v, d) :: (K ++ L)) := m.perm (p.append_right L)
  have m2 := m1.copy f
  exact m2.perm ((p.append_right L).symm.cons _)
theorem MR.copyL {K : List VD} (m : MR CA H R (K ++ L)) (f : ∀ x ∈ K, fzd x.2 = true) : MR CA H R (K ++ (K ++ L)) := by
  induction K generalizing L with
  | nil => exact m
  | cons x K ih =>
    have m1 : MR CA H R (x :: (x :: (K ++ L))) := MR.copy (v := x.1) (d := x.2) m (f x List.mem_cons_self)
    have m2 : MR CA H R (K ++ (x :: x :: L)) := by
      refine m1.perm ?_
      have e : (x :: x :: (K ++ L)).Perm (K ++ x :: x :: L) := by
        refine (List.Perm.cons x (List.perm_middle (l₁ := K) (l₂ := L) (a := x)).symm).trans ?_
        exact (List.perm_middle (l₁ := K) (l₂ := x :: L) (a := x)).symm
      exact e
    have m3 := ih m2 (fun y hy => f y (List.mem_cons_of_mem _ hy))
    -- K ++ (K ++ x :: x :: L) to (x :: K) ++ ((x :: K) ++ L)
    refine m3.perm ?_
    have e1 : (K ++ (K ++ x :: x :: L)).Perm (x :: (K ++ (K ++ x :: L))) := by
      rw [← List.append_assoc, ← List.append_assoc]
      exact List.perm_middle
    refine e1.trans ?_
    refine List.Perm.cons x ?_
    have e2 : (K ++ x :: L).Perm (x :: (K ++ L)) := List.perm_middle
    exact e2.append_left K
theorem fzd_zip {vs : List V} {ds : List D} (f : fzdL ds = true) : ∀ x ∈ vs.zip ds, fzd x.2 = true := fun x hx => by
  obtain ⟨v, d⟩ := x
  exact fzdL_iff.mp f d (List.of_mem_zip hx).2
/-- the items of a list beside it, where they are frozen -/
theorem MR.itemsL {v : V} {o : Bool} {l : List D} (m : MR CA H R ((v, .lst o l) :: L)) (f : fzdL l = true) : ∃ p vs, v = .ref p ∧ vs.length = l.length ∧ H p = some (.lst vs) ∧ MR CA H R (vs.zip l ++ (v, .lst o l) :: L) := by
  cases o with
  | false => exact m.itemsF
  | true =>
    obtain ⟨p, vs, rfl, hl, hp, m1⟩ := m.openL
    refine ⟨p, vs, rfl, hl, hp, ?_⟩
    have m2 := m1.copyL (fzd_zip f)
    have m3 : MR CA H (p :: R) (vs.zip l ++ (vs.zip l ++ L)) := m2
    exact (m3.closeL0 hl hp).rot
theorem MR.itemsTup {v : V} {l : List D} (m : MR CA H R ((v, .tup l) :: L)) (f : fzdL l = true) : ∃ p vs, v = .ref p ∧ vs.length = l.length ∧ H p = some (.tup vs) ∧ MR CA H R (vs.zip l ++ (v, .tup l) :: L) := m.itemsT f
/-- the values of a dict beside it, where they are frozen -/
theorem MR.itemsDct {v : V} {o : Bool} {ks : List KD} {l : List D} (m : MR CA H R ((v, .dct o ks l) :: L)) (f : fzdL l = true) : ∃ p vs u, v = .ref p ∧ vs.length = l.length ∧ Rd H p u ∧ DkIs ks vs u ∧ MR CA H R (vs.zip l ++ (v, .dct o ks l) :: L) := by
  cases o with
  | false => exact m.itemsD
  | true =>
    obtain ⟨p, vs, u, rfl, hl, hp, hk, m1⟩ := m.openD
    refine ⟨p, vs, u, rfl, hl, .inl hp, hk, ?_⟩
    have m2 := m1.copyL (fzd_zip f)
    exact (m2.closeD0 hl hk hp).rot
theorem MR.itemsObj {v : V} {o : Bool} {c : Nat} {ns : List Str} {l : List D} (m : MR CA H R ((v, .obj o c ns l) :: L)) (f : fzdL l = true) : ∃ p vs C dx, v = .ref p ∧ vs.length = l.length ∧ ns.length = vs.length ∧ CA.cls c = some C ∧ H p = some (.ins C dx (ns.zip vs)) ∧ MR CA H R (vs.zip l ++ (v, .obj o c ns l) :: L) := by
  cases o with
  | false => exact m.itemsO
  | true =>
    obtain ⟨p, vs, C, dx, rfl, hl, hn, hc, hp, m1⟩ := m.openO
    refine ⟨p, vs, C, dx, rfl, hl, hn, hc, hp, ?_⟩
    have m2 := m1.copyL (fzd_zip f)
    exact (m2.closeO0 hl hc hn hp).rot
end
/-- v may be read as d -/
def Vw (CA : Ct) (H : Hp) (v : V) (d : D) : Prop := ∃ R L, MR CA H R ((v, d) :: L)
section
variable {CA : Ct} {H : Hp} {R : List Addr} {L : List VD} {v : V}
theorem MR.vw {d : D} (m : MR CA H R ((v, d) :: L)) : Vw CA H v d := ⟨R, L, m⟩
theorem get_of_len {vs : List V} {l : List D} {j : Nat} {d : D} (h : vs.length = l.length) (e : l[j]? = some d) : ∃ v, vs[j]? = some v := by
  have : j < vs.length := by rw [h]; exact (List.getElem?_eq_some_iff.mp e).1
  exact ⟨vs[j], List.getElem?_eq_getElem this⟩
/-- a child may be read -/
theorem Vw.kidL {o : Bool} {l : List D} (w : Vw CA H v (.lst o l)) : ∃ p vs, v = .ref p ∧ vs.length = l.length ∧ H p = some (.lst vs) ∧ ∀ (j : Nat) (x : V) (d : D), vs[j]? = some x → l[j]? = some d → Vw CA H x d := by
  obtain ⟨R, L, m⟩ := w
  cases o with
  | true =>
    obtain ⟨p, vs, rfl, hl, hp, m1⟩ := m.openL
    exact ⟨p, vs, rfl, hl, hp, fun j x d hx hd => (m1.pick hx hd).vw⟩
  | false =>
    obtain ⟨p, vs, rfl, hl, hp, m1⟩ := m.itemsF
    exact ⟨p, vs, rfl, hl, hp, fun j x d hx hd => (m1.pick hx hd).vw⟩
theorem Vw.kidT {l : List D} (w : Vw CA H v (.tup l)) : ∃ p vs, v = .ref p ∧ vs.length = l.length ∧ H p = some (.tup vs) ∧ ∀ (j : Nat) (x : V) (d : D), vs[j]? = some x → l[j]? = some d → Vw CA H x d := by
  obtain ⟨R, L, m⟩ := w
  obtain ⟨p, vs, rfl, hl, hp, m1⟩ := m.openT
  exact ⟨p, vs, rfl, hl, hp, fun j x d hx hd => (m1.pick hx hd).vw⟩
theorem Vw.kidD {o : Bool} {ks : List KD} {l : List D} (w : Vw CA H v (.dct o ks l)) : ∃ p vs u, v = .ref p ∧ vs.length = l.length ∧ Rd H p u ∧ DkIs ks vs u ∧ ∀ (j : Nat) (x : V) (d : D), vs[j]? = some x → l[j]? = some d → Vw CA H x d := by
  obtain ⟨R, L, m⟩ := w
  cases o with
  | true =>
    obtain ⟨p, vs, u, rfl, hl, hp, hk, m1⟩ := m.openD
    exact ⟨p, vs, u, rfl, hl, .inl hp, hk, fun j x d hx hd => (m1.pick hx hd).vw⟩
  | false =>
    obtain ⟨p, vs, u, rfl, hl, hp, hk, m1⟩ := m.itemsD
    exact ⟨p, vs, u, rfl, hl, hp, hk, fun j x d hx hd => (m1.pick hx hd).vw⟩
theorem Vw.kidO {o : Bool} {c : Nat} {ns : List Str} {l : List D} (w : Vw CA H v (.obj o c ns l)) : ∃ p vs C dx, v = .ref p ∧ vs.length = l.length ∧ ns.length = vs.length ∧ CA.cls c = some C ∧ H p = some (.ins C dx (ns.zip vs)) ∧ ∀ (j : Nat) (x : V) (d : D), vs[j]? = some x → l[j]? = some d → Vw CA H x d := by
  obtain ⟨R, L, m⟩ := w
  cases o with
  | true =>
    obtain ⟨p, vs, C, dx, rfl, hl, hn, hc, hp, m1⟩ := m.openO
    exact ⟨p, vs, C, dx, rfl, hl, hn, hc, hp, fun j x d hx hd => (m1.pick hx hd).vw⟩
  | false =>
    obtain ⟨p, vs, C, dx, rfl, hl, hn, hc, hp, m1⟩ := m.itemsO
    exact ⟨p, vs, C, dx, rfl, hl, hn, hc, hp, fun j x d hx hd => (m1.pick hx hd).vw⟩
theorem Vw.int {i : Int} (w : Vw CA H v (.int i)) : v = .int i := let ⟨_, _, m⟩ := w; m.int
theorem Vw.bl {b : Bool} (w : Vw CA H v (.bl b)) : v = .bl b := let ⟨_, _, m⟩ := w; m.bl
theorem Vw.str {x : Str} (w : Vw CA H v (.str x)) : v = .str x := let ⟨_, _, m⟩ := w; m.str
theorem Vw.non (w : Vw CA H v .non) : v = .non := let ⟨_, _, m⟩ := w; m.non
theorem Vw.scr {ns : List Int} (w : Vw CA H v (.scr ns)) : ∃ p, v = .ref p ∧ ScrAt CA.K H p ns := let ⟨_, _, m⟩ := w; m.scr
theorem Vw.raw {vs : List V} (w : Vw CA H v (.raw vs)) : ∃ p, v = .ref p ∧ H p = some (.tup vs) := let ⟨_, _, m⟩ := w; m.raw
theorem Vw.freeze {d : D} (w : Vw CA H v d) : Vw CA H v (frz d) := let ⟨_, _, m⟩ := w; m.freeze.vw
end
end VL
/-! VL part 5: rules for expressions -/
namespace VL
open PySem PySem.Spec L2
theorem _root_.L2.PE.imp {X : Cx} {e : Expr} {t t' : TE} (h : PE X e t) (i : ∀ σ H Q, t' σ H Q → t σ H Q) : PE X e t' := ⟨fun pins s σ H Q I q => h.run pins s σ H Q I (i σ H Q q)⟩
theorem _root_.L2.PT.imp {X : Cx} {e : Expr} {t t' : TT} (h : PT X e t) (i : ∀ σ H Q, t' σ H Q → t σ H Q) : PT X e t' := ⟨fun pins s σ H Q I q => h.run pins s σ H Q I (i σ H Q q)⟩
theorem _root_.L2.PW.imp {X : Cx} {e : Expr} {t t' : TT} (h : PW X e t) (i : ∀ σ H Q, t' σ H Q → t σ H Q) : PW X e t' := ⟨fun wh pins s σ H Q I q => h.run wh pins s σ H Q I (i σ H Q q)⟩
theorem _root_.L2.PE.or {X : Cx} {e : Expr} {t t' : TE} (h : PE X e t) (h' : PE X e t') : PE X e (fun σ H Q => t σ H Q ∨ t' σ H Q) := ⟨fun pins s σ H Q I q => q.elim (h.run pins s σ H Q I) (h'.run pins s σ H Q I)⟩
theorem _root_.L2.PT.or {X : Cx} {e : Expr} {t t' : TT} (h : PT X e t) (h' : PT X e t') : PT X e (fun σ H Q => t σ H Q ∨ t' σ H Q) := ⟨fun pins s σ H Q I q => q.elim (h.run pins s σ H Q I) (h'.run pins s σ H Q I)⟩
theorem _root_.L2.PE.none {X : Cx} {e : Expr} {t : TE} (i : ∀ σ H Q, ¬ t σ H Q) : PE X e t := ⟨fun pins s σ H Q I q => (i σ H Q q).elim⟩
abbrev Ev := Env → Out (D × Env)
abbrev EvN := Env → Out (Sum D Nat × Env)
section
variable (CA : Ct)
/-- a value that is the code's own -/
def tE (f : Ev) : TE := fun σ H Q => ∃ ρ L, Dom σ ρ ∧ M CA H (envL σ ρ ++ L) ∧ ∃ d ρ', f ρ = .ok (d, ρ') ∧ ∀ v H', Dom σ ρ' → M CA H' ((v, d) :: (envL σ ρ' ++ L)) → Q v H'
/-- a value that is looked at -/
def tV (f : Ev) : TE := fun σ H Q => ∃ ρ L, Dom σ ρ ∧ M CA H (envL σ ρ ++ L) ∧ ∃ d ρ', f ρ = .ok (d, ρ') ∧ ∀ v H', Dom σ ρ' → M CA H' (envL σ ρ' ++ L) → Vw CA H' v d → Q v H'
/-- a test -/
def tT (f : Env → Out (Bool × Env)) : TT := fun σ H Q => ∃ ρ L, Dom σ ρ ∧ M CA H (envL σ ρ ++ L) ∧ ∃ b ρ', f ρ = .ok (b, ρ') ∧ ∀ H', Dom σ ρ' → M CA H' (envL σ ρ' ++ L) → Q b H'
def tmp (v : V) (it : Sum D Nat) : List VD := match it with
  | .inl d => [(v, d)]
  | .inr _ => []
def Late (σ : St) (v : V) (it : Sum D Nat) : Prop := ∀ i, it = .inr i → σ[i]? = some (some v)
/-- a first operand -/
def tN (f : EvN) : TE := fun σ H Q => ∃ ρ L, Dom σ ρ ∧ M CA H (envL σ ρ ++ L) ∧ ∃ it ρ', f ρ = .ok (it, ρ') ∧ ∀ v H', Dom σ ρ' → M CA H' (tmp v it ++ (envL σ ρ' ++ L)) → Late σ v it → Q v H'
end
section
variable {X : Cx} {CA : Ct} {e a b c : Expr} {pos : Pos} {f g : Ev}
theorem _root_.L2.PE.view (h : PE X e (tE CA f)) : PE X e (tV CA f) := h.imp fun σ H Q ⟨ρ, L, dm, m, d, ρ', ev, k⟩ => ⟨ρ, L, dm, m, d, ρ', ev, fun v H' dm' m' => k v H' dm' m'.drop m'.vw⟩
theorem _root_.L2.PE.first (h : PE X e (tE CA f)) : PE X e (tN CA (fun ρ => (f ρ).bind fun x => .ok (.inl x.1, x.2))) := h.imp fun σ H Q ⟨ρ, L, dm, m, it, ρ', ev, k⟩ => by
  obtain ⟨x, e1, e2⟩ := Out.bind_eq ev
  cases e2
  exact ⟨ρ, L, dm, m, x.1, x.2, e1, fun v H' dm' m' => k v H' dm' m' (fun i q => by cases q)⟩
/-- a value of its own, as a test -/
theorem _root_.L2.PE.test (h : PE X e (tE CA f)) (he : ∀ whole, isTrue e X.env whole = (do let v ← whole; standAt e.pos; holding [v] (truthy v))) : PT X e (tT CA (tstF f)) :=
  (pt_val h he).imp fun σ H Q ⟨ρ, L, dm, m, b, ρ', ev, k⟩ => by
    obtain ⟨x, e1, e2⟩ := Out.bind_eq ev
    obtain ⟨c, e3, e4⟩ := Out.bind_eq e2
    cases e4
    refine ⟨ρ, L, dm, m, x.1, x.2, e1, fun v H' dm' m' => ?_⟩
    obtain ⟨d, ρ1⟩ := x
    cases d <;> first
      | (cases e3; exact ⟨_, m'.bl, k H' dm' m'.drop⟩)
      | (exact nomatch e3)
theorem pe_cint {i : Int} {j : Nat} : PE X (.Constant (.int i) j pos) (tE CA (fun ρ => .ok (.int i, ρ))) := pe_int.imp fun σ H Q ⟨ρ, L, dm, m, d, ρ', ev, k⟩ => by
  cases ev; exact k _ _ dm m.pInt
theorem pe_cbl {i : Bool} {j : Nat} : PE X (.Constant (.bool i) j pos) (tE CA (fun ρ => .ok (.bl i, ρ))) := pe_bl.imp fun σ H Q ⟨ρ, L, dm, m, d, ρ', ev, k⟩ => by
  cases ev; exact k _ _ dm m.pBl
theorem pe_cstr {i : Str} {j : Nat} : PE X (.Constant (.str i) j pos) (tE CA (fun ρ => .ok (.str i, ρ))) := pe_str.imp fun σ H Q ⟨ρ, L, dm, m, d, ρ', ev, k⟩ => by
  cases ev; exact k _ _ dm m.pStr
theorem pe_cnon {j : Nat} : PE X (.Constant .none j pos) (tE CA (fun ρ => .ok (.non, ρ))) := pe_non.imp fun σ H Q ⟨ρ, L, dm, m, d, ρ', ev, k⟩ => by
  cases ev; exact k _ _ dm m.pNon
/-! ### names -/
def nmF (i : Nat) : Ev := fun ρ => (Out.of (getv ρ i)).bind fun d => if fzd d then .ok (d, ρ) else .ok (frz d, ρ.set i (some (frz d)))
def mvF (i : Nat) : Ev := fun ρ => (Out.of (getv ρ i)).bind fun d => .ok (d, ρ.set i none)
def bnF (i : Nat) : Ev := fun ρ => (Out.of (getv ρ i)).bind fun d => .ok (d, ρ)
theorem pe_nm {i : Nat} (h : PE X e (tVar i)) : PE X e (tE CA (nmF i)) := h.imp fun σ H Q ⟨ρ, L, dm, m, d, ρ', ev, k⟩ => by
  obtain ⟨d0, e1, e2⟩ := Out.bind_eq ev
  have e1 := Out.of_eq e1
  obtain ⟨v, hv⟩ := dm.2 i d0 e1
  refine ⟨v, hv, ?_⟩
  have m1 := MR.front m hv e1
  by_cases hf : fzd d0 = true
  · rw [if_pos hf] at e2; cases e2
    refine k v H dm ?_
    have m4 : M CA H ((v, d) :: (envL σ (ρ.set i none) ++ ((v, d) :: L))) := by
      refine (m1.copy hf).perm (List.Perm.cons _ ?_)
      exact List.perm_middle.symm
    exact (MR.back0 m4 hv e1).unrot
  · rw [if_neg hf] at e2; cases e2
    have m2 := m1.freeze
    have m4 : M CA H ((v, frz d0) :: (envL σ (ρ.set i none) ++ ((v, frz d0) :: L))) := by
      refine (m2.copy (fzd_frz d0)).perm (List.Perm.cons _ ?_)
      exact List.perm_middle.symm
    exact k v H (dm.put hv) ((MR.back m4 hv (getv_lt e1)).unrot)
theorem pe_mv {i : Nat} (h : PE X e (tVar i)) : PE X e (tE CA (mvF i)) := h.imp fun σ H Q ⟨ρ, L, dm, m, d, ρ', ev, k⟩ => by
  obtain ⟨d0, e1, e2⟩ := Out.bind_eq ev
  have e1 := Out.of_eq e1
  obtain ⟨v, hv⟩ := dm.2 i d0 e1
  cases e2
  exact ⟨v, hv, k v H dm.none (MR.front m hv e1)⟩
theorem pe_bn {i : Nat} (h : PE X e (tVar i)) : PE X e (tV CA (bnF i)) := h.imp fun σ H Q ⟨ρ, L, dm, m, d, ρ', ev, k⟩ => by
  obtain ⟨d0, e1, e2⟩ := Out.bind_eq ev
  have e1 := Out.of_eq e1
  obtain ⟨v, hv⟩ := dm.2 i d0 e1
  cases e2
  exact ⟨v, hv, k v H dm m (MR.front m hv e1).vw⟩
def lnF (i : Nat) : EvN := fun ρ => (Out.of (getv ρ i)).bind fun _ => .ok (.inr i, ρ)
theorem pe_ln {i : Nat} (h : PE X e (tVar i)) : PE X e (tN CA (lnF i)) := h.imp fun σ H Q ⟨ρ, L, dm, m, d, ρ', ev, k⟩ => by
  obtain ⟨d0, e1, e2⟩ := Out.bind_eq ev
  have e1 := Out.of_eq e1
  obtain ⟨v, hv⟩ := dm.2 i d0 e1
  cases e2
  exact ⟨v, hv, k v H dm m (fun j q => by cases q; exact hv)⟩
/-! ### operands -/
theorem opVw {H : Hp} {σ : St} {ρ : Env} {L : List VD} {v : V} {it : Sum D Nat} {d : D} (m : M CA H (tmp v it ++ (envL σ ρ ++ L))) (lt : Late σ v it) (dm : Dom σ ρ) (h : look it ρ = some d) : Vw CA H v d := by
  cases it with
  | inl d0 => cases h; exact MR.vw m
  | inr i => exact (MR.front (v := v) m (lt i rfl) h).vw
theorem dropTmp {H : Hp} {v : V} {it : Sum D Nat} {L : List VD} (m : M CA H (tmp v it ++ L)) : M CA H L := by
  cases it with
  | inl d0 => exact MR.drop m
  | inr i => exact m
/-- an operand as the first entry, the slot's or its own -/
theorem opFront {H : Hp} {σ : St} {ρ : Env} {L : List VD} {v : V} {it : Sum D Nat} {d : D} {P : List VD} (m : M CA H (tmp v it ++ (envL σ ρ ++ L))) (lt : Late σ v it) (h : look it ρ = some d)
    (k : ∀ K, M CA H ((v, d) :: K) → M CA H (P ++ (v, d) :: K)) : M CA H (P ++ (envL σ ρ ++ L)) := by
  cases it with
  | inl d0 =>
    cases h
    exact MR.drop (MR.unrot (K := P) (k _ m))
  | inr i =>
    have m1 := MR.front (v := v) m (lt i rfl) h
    have m2 := k _ m1
    have m3 := MR.unrot (K := P) m2
    have m4 : M CA H ((v, d) :: (envL σ (ρ.set i none) ++ (P ++ L))) := by
      refine m3.perm (List.Perm.cons _ ?_)
      rw [← List.append_assoc, ← List.append_assoc]
      exact List.Perm.append_right _ List.perm_append_comm
    have m5 := MR.back0 m4 (lt i rfl) h
    refine m5.perm ?_
    rw [← List.append_assoc, ← List.append_assoc]
    exact List.Perm.append_right _ List.perm_append_comm
end
end VL
/-! VL part 6: operators -/
namespace VL
open PySem PySem.Spec L2
section
variable {X : Cx} {CA : Ct} {e a b c : Expr} {pos : Pos} {f g : Ev} {fa fb : EvN}
theorem opFrontE {α : Type} {Φ : α → Prop} {P : α → List VD} {H : Hp} {σ : St} {ρ : Env} {L : List VD} {v : V} {it : Sum D Nat} {d : D} (m : M CA H (tmp v it ++ (envL σ ρ ++ L))) (lt : Late σ v it) (h : look it ρ = some d)
    (k : ∀ K, M CA H ((v, d) :: K) → ∃ x, Φ x ∧ M CA H (P x ++ (v, d) :: K)) : ∃ x, Φ x ∧ M CA H (P x ++ (envL σ ρ ++ L)) := by
  cases it with
  | inl d0 =>
    cases h
    obtain ⟨x, p, q⟩ := k _ m
    exact ⟨x, p, MR.drop (MR.unrot (K := P x) q)⟩
  | inr i =>
    have m1 := MR.front (v := v) m (lt i rfl) h
    obtain ⟨x, p, m2⟩ := k _ m1
    have m3 := MR.unrot (K := P x) m2
    have m4 : M CA H ((v, d) :: (envL σ (ρ.set i none) ++ (P x ++ L))) := by
      refine m3.perm (List.Perm.cons _ ?_)
      rw [← List.append_assoc, ← List.append_assoc]
      exact List.Perm.append_right _ List.perm_append_comm
    have m5 := MR.back0 m4 (lt i rfl) h
    refine ⟨x, p, m5.perm ?_⟩
    rw [← List.append_assoc, ← List.append_assoc]
    exact List.Perm.append_right _ List.perm_append_comm
theorem opItemsL {H : Hp} {σ : St} {ρ : Env} {L : List VD} {v : V} {it : Sum D Nat} {o : Bool} {l : List D} (m : M CA H (tmp v it ++ (envL σ ρ ++ L))) (lt : Late σ v it) (h : look it ρ = some (.lst o l)) (f : fzdL l = true) :
    ∃ p vs, v = .ref p ∧ vs.length = l.length ∧ H p = some (.lst vs) ∧ M CA H (vs.zip l ++ (envL σ ρ ++ L)) := by
  obtain ⟨x, ⟨h1, h2, h3⟩, m'⟩ := opFrontE (α := Addr × List V) (Φ := fun x => v = .ref x.1 ∧ x.2.length = l.length ∧ H x.1 = some (.lst x.2)) (P := fun x => x.2.zip l) m lt h fun K mk => by
    obtain ⟨p, vs, h1, h2, h3, mm⟩ := mk.itemsL f
    exact ⟨(p, vs), ⟨h1, h2, h3⟩, mm⟩
  exact ⟨x.1, x.2, h1, h2, h3, m'⟩
theorem opItemsT {H : Hp} {σ : St} {ρ : Env} {L : List VD} {v : V} {it : Sum D Nat} {l : List D} (m : M CA H (tmp v it ++ (envL σ ρ ++ L))) (lt : Late σ v it) (h : look it ρ = some (.tup l)) (f : fzdL l = true) :
    ∃ p vs, v = .ref p ∧ vs.length = l.length ∧ H p = some (.tup vs) ∧ M CA H (vs.zip l ++ (envL σ ρ ++ L)) := by
  obtain ⟨x, ⟨h1, h2, h3⟩, m'⟩ := opFrontE (α := Addr × List V) (Φ := fun x => v = .ref x.1 ∧ x.2.length = l.length ∧ H x.1 = some (.tup x.2)) (P := fun x => x.2.zip l) m lt h fun K mk => by
    obtain ⟨p, vs, h1, h2, h3, mm⟩ := mk.itemsTup f
    exact ⟨(p, vs), ⟨h1, h2, h3⟩, mm⟩
  exact ⟨x.1, x.2, h1, h2, h3, m'⟩
theorem pswap {α : Type} (A B C : List α) : (A ++ (B ++ C)).Perm (B ++ (A ++ C)) := by
  rw [← List.append_assoc, ← List.append_assoc]
  exact List.Perm.append_right _ List.perm_append_comm
/-- two operands: the second in front, the first behind -/
theorem swap2 {H : Hp} {A B E L : List VD} (m : M CA H (B ++ (E ++ (A ++ L)))) : M CA H (A ++ (E ++ (B ++ L))) :=
  m.perm (((pswap E A L).append_left B).trans ((pswap B A (E ++ L)).trans ((pswap B E L).append_left A)))
theorem base2 {H : Hp} {x y : V} {ix iy : Sum D Nat} {E L : List VD} (m : M CA H (tmp y iy ++ (E ++ (tmp x ix ++ L)))) : M CA H (E ++ L) := dropTmp (swap2 (dropTmp m |> fun m => (show M CA H ([] ++ (E ++ (tmp x ix ++ L))) from m)))
theorem zip_append' {vs ws : List V} {l m : List D} (h : vs.length = l.length) : (vs ++ ws).zip (l ++ m) = vs.zip l ++ ws.zip m := List.zip_append h
def binF (o : Bop) (fa fb : EvN) : Ev := fun ρ => (fa ρ).bind fun x => (fb x.2).bind fun y => (Out.of (look x.1 y.2)).bind fun u => (Out.of (look y.1 y.2)).bind fun v => (binD o u v).bind fun r => .ok (r, y.2)
def opOf : Bop → Operator
  | .add => .Add | .sub => .Sub | .mul => .Mult | .fdiv => .FloorDiv | .mod => .Mod | .pow => .Pow
theorem sizeLine_lim : (sizeLine : Nat) = lim := sizeLine_eq
/-- by values: what the operator wants, from data -/
theorem bin_read {r : R2} {o : Bop} (ho : OpR X (binaryOp (opOf o)) r) (ha : PE X a (tN CA fa)) (hb : PE X b (tN CA fb))
    (k : ∀ (σ : St) (ρ : Env) (L : List VD) (x y : V) (H : Hp) (ix iy : Sum D Nat) (u w d : D) (Q : VK), M CA H (tmp y iy ++ (envL σ ρ ++ (tmp x ix ++ L))) → Late σ x ix → Late σ y iy → look ix ρ = some u → look iy ρ = some w → binD o u w = .ok d → Dom σ ρ →
      (∀ v H', M CA H' ((v, d) :: (envL σ ρ ++ L)) → Q v H') → r x y H Q) : PE X (.BinOp a (opOf o) b pos) (tE CA (binF o fa fb)) := (pe_op ho ha hb).imp fun σ H Q ⟨ρ, L, dm, m, d, ρ', ev, q⟩ => by
  obtain ⟨x1, e1, ev⟩ := Out.bind_eq ev
  obtain ⟨x2, e2, ev⟩ := Out.bind_eq ev
  obtain ⟨u, e3, ev⟩ := Out.bind_eq ev
  obtain ⟨w, e4, ev⟩ := Out.bind_eq ev
  obtain ⟨d', e5, ev⟩ := Out.bind_eq ev
  cases ev
  refine ⟨ρ, L, dm, m, x1.1, x1.2, e1, fun x H1 dm1 m1 lx => ⟨x1.2, tmp x x1.1 ++ L, dm1, ?_, x2.1, x2.2, e2, fun y H2 dm2 m2 ly => ?_⟩⟩
  · refine m1.perm ?_
    rw [← List.append_assoc, ← List.append_assoc]
    exact List.Perm.append_right _ List.perm_append_comm
  · exact k σ x2.2 L x y H2 x1.1 x2.1 u w d Q m2 lx ly (Out.of_eq e3) (Out.of_eq e4) e5 dm2 fun v H' m' => q v H' dm2 m'
def rAddD (K : PySem.W.Frag) : R2 := fun x y H Q => (rI0 (fun i j => .int (i + j)) x y H Q ∨ (∃ i j, x = .str i ∧ y = .str j ∧ i.length + j.length ≤ sizeLine ∧ Q (.str (i ++ j)) H)) ∨ (rCat x y H Q ∨ rCatT K x y H Q)
theorem op_addD : OpR X (binaryOp .Add) (rAddD X.K) := (op_add.or op_add_str).or (op_cat.or op_catT)
theorem cat_len {l m : List D} {vs ws : List V} (h1 : vs.length = l.length) (h2 : ws.length = m.length) (h : decide (l.length + m.length ≤ lim) = true) : vs.length + ws.length ≤ sizeLine := by
  rw [sizeLine_lim, h1, h2]; exact of_decide_eq_true h
theorem pe_binD (o : Bop) (ha : PE X a (tN CA fa)) (hb : PE X b (tN CA fb)) : PE X (.BinOp a (opOf o) b pos) (tE CA (binF o fa fb)) := by
  cases o with
  | add =>
    refine bin_read (o := .add) op_addD ha hb fun σ ρ L x y H ix iy u w d Q m lx ly eu ew ed dm q => ?_
    have my : Vw CA H y w := opVw m ly dm ew
    have mx : Vw CA H x u := opVw (swap2 m) lx dm eu
    have mb := base2 m
    cases u <;> cases w <;> first
      | (cases ed; done)
      | skip
    · cases ed
      exact .inl (.inl ⟨_, _, mx.int, my.int, q _ _ mb.pInt⟩)
    · obtain ⟨h, ed⟩ := Out.guard_eq ed
      cases ed
      exact .inl (.inr ⟨_, _, mx.str, my.str, by rw [sizeLine_lim]; exact of_decide_eq_true h, q _ _ mb.pStr⟩)
    · rename_i l k
      obtain ⟨h, ed⟩ := Out.guard_eq ed
      cases ed
      simp only [Bool.and_eq_true] at h
      obtain ⟨⟨⟨h1, h2⟩, h3⟩, h4⟩ := h
      obtain ⟨p, vs, rfl, hl, hp, m1⟩ := opItemsT (swap2 m) lx eu h1
      have m2 : M CA H (tmp y iy ++ (envL σ ρ ++ (vs.zip l ++ L))) := swap2 m1
      obtain ⟨p', ws, rfl, hl', hp', m3⟩ := opItemsT m2 ly ew h2
      refine .inr (.inr ⟨p, p', vs, ws, rfl, rfl, .of hp, .of hp', fun z => ?_, cat_len hl hl' h4, fun e => ?_, fun _ r hr => ?_⟩)
      · subst z
        cases l with
        | nil => simp at h3
        | cons _ _ => simp at hl
      · subst e
        have hk : k = [] := List.eq_nil_of_length_eq_zero (by simpa using hl'.symm)
        subst hk
        refine q _ _ ?_
        rw [List.append_nil]
        have m5 : M CA H (vs.zip l ++ (envL σ ρ ++ L)) := (swap2 (A := vs.zip l) (B := []) m3)
        have m6 := m5.takeT hp
        have m7 : M CA H (vs.zip l ++ ((V.ref p, D.raw vs) :: (envL σ ρ ++ L))) := m6.rot
        exact m7.closeT hl
      · have m5 : M CA H ((vs ++ ws).zip (l ++ k) ++ (envL σ ρ ++ L)) := by
          rw [zip_append' hl]
          refine m3.perm ?_
          rw [List.append_assoc]
          exact ((pswap (envL σ ρ) (vs.zip l) L).append_left _).trans (pswap _ _ _)
        exact q _ _ (m5.newT (by simp [hl, hl']) hr)
    · rename_i o1 l o2 k
      obtain ⟨h, ed⟩ := Out.guard_eq ed
      cases ed
      simp only [Bool.and_eq_true] at h
      obtain ⟨⟨h1, h2⟩, h4⟩ := h
      obtain ⟨p, vs, rfl, hl, hp, m1⟩ := opItemsL (swap2 m) lx eu h1
      have m2 : M CA H (tmp y iy ++ (envL σ ρ ++ (vs.zip l ++ L))) := swap2 m1
      obtain ⟨p', ws, rfl, hl', hp', m3⟩ := opItemsL m2 ly ew h2
      refine .inr (.inl ⟨p, p', vs, ws, rfl, rfl, hp, hp', cat_len hl hl' h4, fun r hr => ?_⟩)
      have m5 : M CA H ((vs ++ ws).zip (l ++ k) ++ (envL σ ρ ++ L)) := by
        rw [zip_append' hl]
        refine m3.perm ?_
        rw [List.append_assoc]
        exact ((pswap (envL σ ρ) (vs.zip l) L).append_left _).trans (pswap _ _ _)
      exact q _ _ (m5.newL (by simp [hl, hl']) hr)
  | sub =>
    refine bin_read (o := .sub) op_sub ha hb fun σ ρ L x y H ix iy u w d Q m lx ly eu ew ed dm q => ?_
    have my : Vw CA H y w := opVw m ly dm ew
    have mx : Vw CA H x u := opVw (swap2 m) lx dm eu
    cases u <;> cases w <;> first
      | (cases ed; done)
      | (cases ed; exact ⟨_, _, mx.int, my.int, q _ _ (base2 m).pInt⟩)
  | mul =>
    refine bin_read (o := .mul) op_mul ha hb fun σ ρ L x y H ix iy u w d Q m lx ly eu ew ed dm q => ?_
    have my : Vw CA H y w := opVw m ly dm ew
    have mx : Vw CA H x u := opVw (swap2 m) lx dm eu
    cases u <;> cases w <;> first
      | (cases ed; done)
      | (obtain ⟨h, ed⟩ := Out.guard_eq ed
         cases ed
         refine ⟨_, _, mx.int, my.int, ?_, q _ _ (base2 m).pInt⟩
         simp only [Bool.or_eq_true, decide_eq_true_eq] at h
         exact h)
  | fdiv =>
    refine bin_read (o := .fdiv) op_fdiv ha hb fun σ ρ L x y H ix iy u w d Q m lx ly eu ew ed dm q => ?_
    have my : Vw CA H y w := opVw m ly dm ew
    have mx : Vw CA H x u := opVw (swap2 m) lx dm eu
    cases u <;> cases w <;> first
      | (cases ed; done)
      | (obtain ⟨h, ed⟩ := Out.guard_eq ed
         cases ed
         exact ⟨_, _, mx.int, my.int, show 0 < _ ∧ _ < 1073741824 from of_decide_eq_true h, q _ _ (base2 m).pInt⟩)
  | mod =>
    refine bin_read (o := .mod) op_mod ha hb fun σ ρ L x y H ix iy u w d Q m lx ly eu ew ed dm q => ?_
    have my : Vw CA H y w := opVw m ly dm ew
    have mx : Vw CA H x u := opVw (swap2 m) lx dm eu
    cases u <;> cases w <;> first
      | (cases ed; done)
      | (obtain ⟨h, ed⟩ := Out.guard_eq ed
         cases ed
         exact ⟨_, _, mx.int, my.int, of_decide_eq_true h, q _ _ (base2 m).pInt⟩)
  | pow =>
    refine bin_read (o := .pow) op_pow ha hb fun σ ρ L x y H ix iy u w d Q m lx ly eu ew ed dm q => ?_
    have my : Vw CA H y w := opVw m ly dm ew
    have mx : Vw CA H x u := opVw (swap2 m) lx dm eu
    cases u <;> cases w <;> first
      | (cases ed; done)
      | (obtain ⟨h, ed⟩ := Out.guard_eq ed
         cases ed
         have h := of_decide_eq_true h
         exact ⟨_, _, mx.int, my.int, ⟨h.1, by omega, h.2.2⟩, q _ _ (base2 m).pInt⟩)
theorem pe_negD (ha : PE X a (tE CA f)) : PE X (.UnaryOp .USub a pos) (tE CA (fun ρ => (f ρ).bind fun x => (num x.1).bind fun i => .ok (.int (-i), x.2))) := (pe_un un_neg ha).imp fun σ H Q ⟨ρ, L, dm, m, d, ρ', ev, q⟩ => by
  obtain ⟨x, e1, ev⟩ := Out.bind_eq ev
  obtain ⟨i, e2, ev⟩ := Out.bind_eq ev
  cases ev
  refine ⟨ρ, L, dm, m, x.1, x.2, e1, fun v H' dm' m' => ?_⟩
  obtain ⟨d, ρ1⟩ := x
  cases d <;> first
    | (cases e2; exact ⟨_, m'.int, q _ _ dm' m'.drop.pInt⟩)
    | (cases e2; done)
end
end VL
/-! VL part 7: comparisons, tests -/
namespace VL
open PySem PySem.Spec L2
/-! ### == -/
mutual
def toPy : D → PyData
  | .int i => .int i
  | .str x => .str x
  | .tup l => .tuple (toPyL l)
  | .lst _ l => .list (toPyL l)
  | _ => .none
def toPyL : List D → List PyData
  | [] => []
  | d :: l => toPy d :: toPyL l
end
theorem toPyL_get : ∀ (l : List D) (j : Nat), (toPyL l)[j]? = (l[j]?).map toPy
  | [], j => by simp [toPyL]
  | d :: l, 0 => by simp [toPyL]
  | d :: l, j + 1 => by simp [toPyL, toPyL_get l j]
theorem pl_tup {n : Nat} {l : List D} : pl (n + 1) (.tup l) = l.all (pl n) := by simp [pl]
theorem pl_lst {n : Nat} {o : Bool} {l : List D} : pl (n + 1) (.lst o l) = l.all (pl n) := by simp [pl]
theorem shL {n : Nat} (ih : ∀ d, pl n d = true → (toPy d).canLay0 = true ∧ (toPy d).depth ≤ n) : ∀ {l : List D}, l.all (pl n) = true → PyData.canLayAll0 (toPyL l) = true ∧ PyData.depthAll (toPyL l) ≤ n
  | [], _ => ⟨by simp [toPyL, PyData.canLayAll0], by simp [toPyL, PyData.depthAll]⟩
  | d :: l, h => by
    simp only [List.all_cons, Bool.and_eq_true] at h
    obtain ⟨h1, h2⟩ := h
    obtain ⟨a, b⟩ := ih d h1
    obtain ⟨c, e⟩ := shL ih h2
    refine ⟨by simp [toPyL, PyData.canLayAll0, a, c], ?_⟩
    simp only [toPyL, PyData.depthAll]
    omega
theorem shape_of : ∀ (n : Nat) (d : D), pl n d = true → (toPy d).canLay0 = true ∧ (toPy d).depth ≤ n
  | 0, d, h => by
    cases d <;> first
      | (simp [toPy, PyData.canLay0, PyData.depth]; done)
      | (simp only [pl] at h; simp [toPy, PyData.canLay0, PyData.depth, h]; done)
      | (simp [pl] at h)
  | n + 1, d, h => by
    cases d with
    | tup l =>
      obtain ⟨a, b⟩ := shL (shape_of n) (by rwa [pl_tup] at h)
      exact ⟨by simp [toPy, PyData.canLay0, a], by simp only [toPy, PyData.depth]; omega⟩
    | lst o l =>
      obtain ⟨a, b⟩ := shL (shape_of n) (by rwa [pl_lst] at h)
      exact ⟨by simp [toPy, PyData.canLay0, a], by simp only [toPy, PyData.depth]; omega⟩
    | str x => simp only [pl] at h; simp [toPy, PyData.canLay0, PyData.depth, h]
    | non => simp [toPy, PyData.canLay0, PyData.depth]
    | int i => simp [toPy, PyData.canLay0, PyData.depth]
    | bl b => simp [pl] at h
    | dct _ _ _ => simp [pl] at h
    | obj _ _ _ _ => simp [pl] at h
    | scr _ => simp [pl] at h
    | raw _ => simp [pl] at h
theorem shaped_of {d : D} (h : plain d = true) : SeqAt.shaped (toPy d) = true := by
  obtain ⟨a, b⟩ := shape_of 10 d h
  unfold SeqAt.shaped
  rw [a]
  simp only [Bool.true_and, decide_eq_true_eq]
  omega
theorem shapedL_of {o : Bool} {l : List D} (h : l.all plain = true) : SeqAt.shaped (toPy (.lst o l)) = true := by
  obtain ⟨a, b⟩ := shape_of 11 (.lst o l) (by rw [pl_lst]; exact h)
  unfold SeqAt.shaped
  rw [a]
  simp only [Bool.true_and, decide_eq_true_eq]
  omega
theorem eqL {n : Nat} (ih : ∀ a b, pl n a = true → pl n b = true → PyData.eqv (toPy a) (toPy b) = eqv a b) : ∀ {l m : List D}, l.all (pl n) = true → m.all (pl n) = true → (PyData.eqvAll (toPyL l) (toPyL m) = true ↔ frzL l = frzL m)
  | [], [], _, _ => by simp [toPyL, PyData.eqvAll, frzL]
  | [], _ :: _, _, _ => by simp [toPyL, PyData.eqvAll, frzL]
  | _ :: _, [], _, _ => by simp [toPyL, PyData.eqvAll, frzL]
  | a :: l, b :: m, h, h' => by
    simp only [List.all_cons, Bool.and_eq_true] at h h'
    have e1 := ih a b h.1 h'.1
    have e2 := eqL ih h.2 h'.2
    simp only [toPyL, PyData.eqvAll, frzL, Bool.and_eq_true, e1, e2, List.cons.injEq, eqv_iff]
theorem eqv_of : ∀ (n : Nat) (a b : D), pl n a = true → pl n b = true → PyData.eqv (toPy a) (toPy b) = eqv a b := by
  intro n
  induction n with
  | zero =>
    intro a b ha hb
    cases a <;> first
      | (simp [pl] at ha; done)
      | (cases b <;> first
        | (simp [pl] at hb; done)
        | (rw [Bool.eq_iff_iff]; simp [toPy, PyData.eqv, eqv_iff, frz]; done))
  | succ n ih =>
    intro a b ha hb
    cases a <;> first
      | (simp [pl] at ha; done)
      | (cases b <;> first
        | (simp [pl] at hb; done)
        | (rw [Bool.eq_iff_iff]; simp [toPy, PyData.eqv, eqv_iff, frz]; done)
        | (rw [Bool.eq_iff_iff]
           simp only [toPy, PyData.eqv, eqv_iff, frz]
           refine (eqL ih (by simpa only [pl_tup, pl_lst] using ha) (by simpa only [pl_tup, pl_lst] using hb)).trans ?_
           exact ⟨fun e => by rw [e], fun e => by injection e⟩))
section
variable {K : PySem.W.Frag} {CA : Ct} {H : Hp}
theorem dpL {n : Nat} (ih : ∀ d v, pl n d = true → Vw CA H v d → Dp K H v (toPy d)) : ∀ {l : List D} {vs : List V}, vs.length = l.length → (∀ (j : Nat) (x : V) (d : D), vs[j]? = some x → l[j]? = some d → Vw CA H x d) → l.all (pl n) = true → DpAll K H vs (toPyL l)
  | [], [], _, _, _ => by simp only [toPyL]; exact .nil
  | d :: l, v :: vs, hl, k, h => by
    simp only [List.all_cons, Bool.and_eq_true] at h
    simp only [toPyL]
    exact .cons (ih d v h.1 (k 0 v d rfl rfl)) (dpL ih (by simpa using hl) (fun j x d' hx hd => k (j + 1) x d' (by simpa using hx) (by simpa using hd)) h.2)
  | [], _ :: _, hl, _, _ => by simp at hl
  | _ :: _, [], hl, _, _ => by simp at hl
theorem dp_of : ∀ (n : Nat) (d : D) (v : V), pl n d = true → Vw CA H v d → Dp K H v (toPy d) := by
  intro n
  induction n with
  | zero =>
    intro d v h w
    cases d <;> first
      | (simp [pl] at h; done)
      | (rw [w.int]; exact .int _)
      | (rw [w.str]; exact .str _)
      | (rw [w.non]; exact .non)
  | succ n ih =>
    intro d v h w
    cases d <;> first
      | (simp [pl] at h; done)
      | (rw [w.int]; exact .int _)
      | (rw [w.str]; exact .str _)
      | (rw [w.non]; exact .non)
      | (obtain ⟨p, vs, rfl, hl, hp, k⟩ := w.kidL
         exact .lst (.of hp) (dpL ih hl k (by simpa only [pl_lst] using h)))
      | (obtain ⟨p, vs, rfl, hl, hp, k⟩ := w.kidT
         exact .tup (.of hp) (dpL ih hl k (by simpa only [pl_tup] using h)))
end
theorem eqv_comm (a b : D) : eqv a b = eqv b a := by
  rw [Bool.eq_iff_iff]; exact ⟨fun h => eqv_iff.mpr (eqv_iff.mp h).symm, fun h => eqv_iff.mpr (eqv_iff.mp h).symm⟩
/-- the value of flat data -/
def flV : D → V
  | .int i => .int i
  | .str x => .str x
  | _ => .non
theorem Vw.flat {CA : Ct} {H : Hp} {v : V} {d : D} (w : Vw CA H v d) (f : flat d = true) : v = flV d := by
  cases d <;> first
    | (simp [VL.flat] at f; done)
    | exact w.int
    | exact w.str
    | exact w.non
theorem flat_scal {a b : D} (fa : flat a = true) (fb : flat b = true) : scal (flV a) (flV b) = true := by
  cases a <;> first
    | (simp [VL.flat] at fa; done)
    | (cases b <;> first
      | (simp [VL.flat] at fb; done)
      | rfl)
theorem flat_eq {a b : D} (fa : flat a = true) (fb : flat b = true) : decide (flV a = flV b) = eqv a b := by
  cases a <;> first
    | (simp [VL.flat] at fa; done)
    | (cases b <;> first
      | (simp [VL.flat] at fb; done)
      | (rw [Bool.eq_iff_iff]; simp [flV, eqv_iff, frz]))
section
variable {X : Cx}
def dEq (H : Hp) (x y : V) : Prop := ∃ a b ks ls, x = .ref a ∧ y = .ref b ∧ Rd H a (.dK ks) ∧ Rd H b (.dK ls) ∧ ks.length = ls.length ∧ ∀ p ∈ ks, valV ls p.1 = some p.2 ∧ flatB p.2 = true
theorem op_eq_dictR (hu : X.A.units < cLine) : OpR X (compareOp .Eq) (fun x y H Q => dEq H x y ∧ Q (.bl true) H) := by
  intro pins s σ H x y v u Q I rx ry h
  obtain ⟨⟨a, b, ks, ls, rfl, rfl, ea, eb, hlen, hp⟩, q⟩ := h
  obtain rfl : v = Value.ref a := rx
  obtain rfl : u = Value.ref b := ry
  obtain ⟨_, ya, va, ra, da⟩ := (show ObjOk X.prog X.w H s.heap a (.dK ks) from ea.ok I.hok)
  obtain ⟨_, yb, vb, rb, db⟩ := (show ObjOk X.prog X.w H s.heap b (.dK ls) from eb.ok I.hok)
  have hl : va.length = vb.length := by rw [← ra.length, ← rb.length]; exact hlen
  exact PySem.W.keq_eq (knd := mixKind X.prog X.w) (r := true) ya yb da db hu (fun _ => hits_all rb ra hp) (fin_bl I q (by simp [hl]))
theorem op_ne_dictR (hu : X.A.units < cLine) : OpR X (compareOp .NotEq) (fun x y H Q => dEq H x y ∧ Q (.bl false) H) := by
  intro pins s σ H x y v u Q I rx ry h
  obtain ⟨⟨a, b, ks, ls, rfl, rfl, ea, eb, hlen, hp⟩, q⟩ := h
  obtain rfl : v = Value.ref a := rx
  obtain rfl : u = Value.ref b := ry
  obtain ⟨_, ya, va, ra, da⟩ := (show ObjOk X.prog X.w H s.heap a (.dK ks) from ea.ok I.hok)
  obtain ⟨_, yb, vb, rb, db⟩ := (show ObjOk X.prog X.w H s.heap b (.dK ls) from eb.ok I.hok)
  have hl : va.length = vb.length := by rw [← ra.length, ← rb.length]; exact hlen
  exact PySem.W.keq_ne (knd := mixKind X.prog X.w) (r := true) ya yb da db hu (fun _ => hits_all rb ra hp) (fin_bl I q (by simp [hl]))
/-- the six comparisons, from data -/
def cop : Cop → CmpOp
  | .lt => .Lt | .le => .LtE | .gt => .Gt | .ge => .GtE | .eq => .Eq | .ne => .NotEq
/-- what a comparison wants: what data says -/
def rCmp (CA : Ct) (o : Cop) : R2 := fun x y H Q => ∃ u w r, Vw CA H x u ∧ Vw CA H y w ∧ cmpD o u w = .ok r ∧ Q (.bl r) H
theorem dct_vals {CA : Ct} {H : Hp} {x y : V} {o o' : Bool} {ks : List KD} {l l' : List D} (w : Vw CA H x (.dct o ks l)) (w' : Vw CA H y (.dct o' ks l')) (e : frzL l = frzL l') (kl : ks.all (·.isLeft) = true)
    (fl : (l.all fun d => match d with | .int _ => true | _ => false) = true) : dEq H x y := by
  obtain ⟨p, vs, u, rfl, hl, hp, hk, kid⟩ := w
    |>.kidD
  obtain ⟨p', vs', u', rfl, hl', hp', hk', kid'⟩ := w'.kidD
  have nd := hk.nd
  have lens : l.length = l'.length := by rw [← frzL_length l, e, frzL_length]
  -- the values are ints, the same
  have iv : ∀ (j : Nat) (d : D), l[j]? = some d → ∃ i, d = .int i := fun j d hd => by
    have := (List.all_eq_true.mp fl) d (List.mem_of_getElem? hd)
    cases d <;> first
      | exact ⟨_, rfl⟩
      | (simp at this; done)
  have fget : ∀ (l : List D) (j : Nat), (frzL l)[j]? = (l[j]?).map frz := by
    intro l
    induction l with
    | nil => intro j; simp [frzL]
    | cons d l ih => intro j; cases j <;> simp [frzL, ih]
  have vv : vs = vs' := by
    apply List.ext_getElem?
    intro j
    by_cases hj : j < l.length
    · obtain ⟨d, hd⟩ : ∃ d, l[j]? = some d := ⟨l[j], List.getElem?_eq_getElem hj⟩
      obtain ⟨d', hd'⟩ : ∃ d', l'[j]? = some d' := ⟨l'[j]'(by omega), List.getElem?_eq_getElem (by omega)⟩
      obtain ⟨i, rfl⟩ := iv j d hd
      have e2 : frz d' = .int i := by
        have h1 := fget l j
        have h2 := fget l' j
        rw [hd] at h1; rw [hd'] at h2; rw [e, h2] at h1
        simpa [frz] using h1
      obtain ⟨v, hv⟩ := get_of_len hl hd
      obtain ⟨v', hv'⟩ := get_of_len hl' hd'
      have a1 := (kid j v _ hv hd).int
      have a2 := (kid' j v' _ hv' hd').freeze
      rw [e2] at a2
      have a2 := a2.int
      rw [hv, hv', a1, a2]
    · rw [List.getElem?_eq_none (by omega), List.getElem?_eq_none (by omega)]
  subst vv
  have kd : ∀ {u : HO} {ks : List KD}, DkIs ks vs u → ks.all (·.isLeft) = true → ∃ kvs, u = .dK kvs ∧ kvs.map (fun p => (Sum.inl p.1 : KD)) = ks ∧ kvs.map (·.2) = vs := fun {u ks} h a => by
    obtain ⟨_, h⟩ := h
    cases u <;> first
      | (exact h.elim)
      | (exact ⟨_, rfl, h.1, h.2⟩)
      | (obtain ⟨h1, h2, h3⟩ := h
         rename_i kvs
         cases kvs with
         | nil => exact absurd rfl h3
         | cons q kvs =>
           rw [← h1] at a
           simp at a)
  · obtain ⟨kvs, rfl, k1, k2⟩ := kd hk kl
    obtain ⟨kvs', rfl, k3, k4⟩ := kd hk' kl
    have e1 : kvs = kvs' := by
      have h1 : kvs.map (·.1) = kvs'.map (·.1) := by
        have : (kvs.map (·.1)).map (Sum.inl : Key → KD) = (kvs'.map (·.1)).map Sum.inl := by
          rw [List.map_map, List.map_map]; exact k1.trans k3.symm
        exact List.map_inj_right (fun _ _ h => Sum.inl.inj h) |>.mp this
      apply List.ext_getElem?
      intro j
      have a1 := congrArg (·[j]?) h1
      have a2 := congrArg (·[j]?) (k2.trans k4.symm)
      simp only [List.getElem?_map] at a1 a2
      cases h3 : kvs[j]? with
      | none => rw [h3] at a1; cases h4 : kvs'[j]? with
        | none => rfl
        | some q => rw [h4] at a1; simp at a1
      | some p => rw [h3] at a1 a2; cases h4 : kvs'[j]? with
        | none => rw [h4] at a1; simp at a1
        | some q =>
          rw [h4] at a1 a2
          simp only [Option.map_some, Option.some.injEq] at a1 a2
          rw [Prod.ext a1 a2]
    subst e1
    have nd' : (kvs.map (·.1)).Nodup := by
      have : ((kvs.map (·.1)).map (Sum.inl : Key → KD)).Nodup := by rw [List.map_map]; rw [← k1] at nd; exact nd
      exact List.Pairwise.of_map _ (fun a b h e => h (by rw [e])) this
    refine ⟨p, p', kvs, kvs, rfl, rfl, hp, hp', rfl, fun q hq => ⟨val_nodup nd' q hq, ?_⟩⟩
    obtain ⟨j, hj, ej⟩ := List.mem_iff_getElem.mp hq
    have hv : vs[j]? = some q.2 := by rw [← k2, List.getElem?_map, List.getElem?_eq_getElem hj, ej]; rfl
    have hjl : j < l.length := by rw [← hl]; exact (List.getElem?_eq_some_iff.mp hv).1
    obtain ⟨i, hi⟩ := iv j l[j] (List.getElem?_eq_getElem hjl)
    have := (kid j q.2 (.int i) hv (by rw [List.getElem?_eq_getElem hjl, hi])).int
    rw [this]; rfl
theorem op_cmpD {CA : Ct} (o : Cop) (hu : X.A.units + 64 < cLine) : OpR X (compareOp (cop o)) (rCmp CA o) := by
  intro pins s σ H x y v u Q I rx ry h
  obtain ⟨a, b, r, wa, wb, ed, q⟩ := h
  have eqs : ∀ {r : Bool}, eqD a b = .ok r → (flat a = true ∧ flat b = true ∧ r = eqv a b) ∨ (plain a = true ∧ plain b = true ∧ r = eqv a b) ∨ (dEq H x y ∧ r = true) := fun {r} ed => by
    unfold eqD at ed
    split at ed
    · obtain ⟨h, ed⟩ := Out.guard_eq ed
      cases ed
      simp only [Bool.and_eq_true, decide_eq_true_eq] at h
      obtain ⟨⟨⟨e1, e2⟩, e4⟩, e5⟩ := h
      subst e1
      exact .inr (.inr ⟨dct_vals wa wb e2 e4 e5, rfl⟩)
    · obtain ⟨h, ed⟩ := Out.guard_eq ed
      cases ed
      simp only [Bool.or_eq_true, Bool.and_eq_true] at h
      rcases h with ⟨h1, h2⟩ | ⟨h1, h2⟩
      · exact .inl ⟨h1, h2, rfl⟩
      · exact .inr (.inl ⟨h1, h2, rfl⟩)
  cases o with
  | lt =>
    cases a <;> cases b <;> first
      | (cases ed; done)
      | (cases ed; exact op_lt pins s σ H x y v u Q I rx ry ⟨_, _, wa.int, wb.int, q⟩)
  | le =>
    cases a <;> cases b <;> first
      | (cases ed; done)
      | (cases ed; exact op_le pins s σ H x y v u Q I rx ry ⟨_, _, wa.int, wb.int, q⟩)
  | gt =>
    cases a <;> cases b <;> first
      | (cases ed; done)
      | (cases ed; exact op_gt pins s σ H x y v u Q I rx ry ⟨_, _, wa.int, wb.int, q⟩)
  | ge =>
    cases a <;> cases b <;> first
      | (cases ed; done)
      | (cases ed; exact op_ge pins s σ H x y v u Q I rx ry ⟨_, _, wa.int, wb.int, q⟩)
  | eq =>
    have ed' : eqD a b = .ok r := by
      cases a <;> cases b <;> exact ed
    rcases eqs ed' with ⟨f1, f2, e⟩ | ⟨f1, f2, e⟩ | ⟨f1, e⟩
    · subst e
      refine op_eq pins s σ H x y v u Q I rx ry ⟨?_, ?_⟩
      · rw [wa.flat f1, wb.flat f2]; exact flat_scal f1 f2
      · rw [wa.flat f1, wb.flat f2, flat_eq f1 f2]; exact q
    · subst e
      refine op_eqD hu pins s σ H x y v u Q I rx ry ⟨_, _, dp_of 10 _ _ f1 wa, dp_of 10 _ _ f2 wb, shaped_of f1, shaped_of f2, ?_⟩
      rw [eqv_of 10 a b f1 f2]; exact q
    · subst e
      exact op_eq_dictR (by omega) pins s σ H x y v u Q I rx ry ⟨f1, q⟩
  | ne =>
    have ed' : ((eqD a b).bind fun c => .ok (!c)) = .ok r := by
      cases a <;> cases b <;> exact ed
    obtain ⟨r', e1, e2⟩ := Out.bind_eq ed'
    cases e2
    rcases eqs e1 with ⟨f1, f2, e⟩ | ⟨f1, f2, e⟩ | ⟨f1, e⟩
    · subst e
      refine op_ne pins s σ H x y v u Q I rx ry ⟨?_, ?_⟩
      · rw [wa.flat f1, wb.flat f2]; exact flat_scal f1 f2
      · rw [wa.flat f1, wb.flat f2, flat_eq f1 f2]; exact q
    · subst e
      refine op_neD hu pins s σ H x y v u Q I rx ry ⟨_, _, dp_of 10 _ _ f1 wa, dp_of 10 _ _ f2 wb, shaped_of f1, shaped_of f2, ?_⟩
      rw [eqv_of 10 a b f1 f2]; exact q
    · subst e
      exact op_ne_dictR (by omega) pins s σ H x y v u Q I rx ry ⟨f1, q⟩
/-! ### in -/
theorem flat_flatV {d : D} (f : flat d = true) : flatV (flV d) = true := by
  cases d <;> first
    | rfl
    | (simp [VL.flat] at f)
theorem flat_eqV {a b : D} (fa : flat a = true) (fb : flat b = true) : eqV (flV a) (flV b) = eqv a b := by
  cases a <;> first
    | (simp [VL.flat] at fa; done)
    | (cases b <;> first
      | (simp [VL.flat] at fb; done)
      | (rw [Bool.eq_iff_iff]; simp [flV, eqv_iff, frz, eqV]))
theorem flat_all {CA : Ct} {H : Hp} : ∀ {vs : List V} {l : List D}, vs.length = l.length → (∀ (j : Nat) (x : V) (d : D), vs[j]? = some x → l[j]? = some d → Vw CA H x d) → l.all flat = true → vs = l.map flV
  | [], [], _, _, _ => rfl
  | v :: vs, d :: l, hl, k, f => by
    simp only [List.all_cons, Bool.and_eq_true] at f
    rw [List.map_cons, (k 0 v d rfl rfl).flat f.1, flat_all (vs := vs) (by simpa using hl) (fun j x d' hx hd => k (j + 1) x d' (by simpa using hx) (by simpa using hd)) f.2]
  | [], _ :: _, hl, _, _ => by simp at hl
  | _ :: _, [], hl, _, _ => by simp at hl
theorem flat_in {a : D} {l : List D} (fa : flat a = true) (fl : l.all flat = true) : inV (flV a) (l.map flV) = l.any fun d => eqv d a := by
  unfold inV
  induction l with
  | nil => rfl
  | cons d l ih =>
    simp only [List.all_cons, Bool.and_eq_true] at fl
    simp only [List.map_cons, List.any_cons, flat_eqV fl.1 fa, ih fl.2]
theorem flatL_all {l : List D} (fl : l.all flat = true) : (l.map flV).all flatV = true := by
  induction l with
  | nil => rfl
  | cons d l ih =>
    simp only [List.all_cons, Bool.and_eq_true] at fl
    simp only [List.map_cons, List.all_cons, flat_flatV fl.1, ih fl.2, Bool.and_self]
theorem any_py {a : D} {l : List D} (fa : plain a = true) (fl : l.all plain = true) : ((toPyL l).any fun z => PyData.eqv z (toPy a)) = l.any fun d => eqv d a := by
  induction l with
  | nil => rfl
  | cons d l ih =>
    simp only [List.all_cons, Bool.and_eq_true] at fl
    simp only [toPyL, List.any_cons, eqv_of 10 d a fl.1 fa, ih fl.2]
/-- a key of a dict as a value: itself, or a tuple of it -/
def KeyV (H : Hp) (v : V) : KD → Prop
  | .inl k => v = kV k
  | .inr l => ∃ p, v = .ref p ∧ H p = some (.tup (l.map kV))
theorem toK_kV {CA : Ct} {H : Hp} {v : V} {d : D} {k : Key} (w : Vw CA H v d) (e : toK d = some k) : v = kV k := by
  cases d <;> first
    | (simp [toK] at e; done)
    | (simp only [toK, Option.some.injEq] at e; subst e; exact w.int)
    | (simp only [toK, Option.some.injEq] at e; subst e; exact w.str)
theorem toKs_vals {CA : Ct} {H : Hp} : ∀ {l : List D} {vs : List V} {ks : List Key}, vs.length = l.length → (∀ (j : Nat) (x : V) (d : D), vs[j]? = some x → l[j]? = some d → Vw CA H x d) → toKs l = some ks → vs = ks.map kV
  | [], [], ks, _, _, e => by simp only [toKs, Option.some.injEq] at e; subst e; rfl
  | d :: l, v :: vs, ks, hl, k, e => by
    simp only [toKs] at e
    cases e1 : toK d with
    | none => rw [e1] at e; cases e
    | some k0 =>
      cases e2 : toKs l with
      | none => rw [e1, e2] at e; cases e
      | some ks0 =>
        rw [e1, e2] at e
        cases e
        rw [List.map_cons, toK_kV (k 0 v d rfl rfl) e1, toKs_vals (vs := vs) (by simpa using hl) (fun j x d' hx hd => k (j + 1) x d' (by simpa using hx) (by simpa using hd)) e2]
  | [], _ :: _, _, hl, _, _ => by simp at hl
  | _ :: _, [], _, hl, _, _ => by simp at hl
theorem toKD_keyV {CA : Ct} {H : Hp} {v : V} {d : D} {k : KD} (w : Vw CA H v d) (e : toKD d = some k) : KeyV H v k := by
  cases d <;> first
    | (simp [toKD] at e; done)
    | (simp only [toKD, Option.some.injEq] at e; subst e; exact w.int)
    | (simp only [toKD, Option.some.injEq] at e; subst e; exact w.str)
    | skip
  rename_i l
  simp only [toKD, Option.map_eq_some_iff] at e
  obtain ⟨ks, e1, rfl⟩ := e
  obtain ⟨p, vs, rfl, hl, hp, kid⟩ := w.kidT
  exact ⟨p, rfl, by rw [← toKs_vals hl kid e1]; exact hp⟩
end
end VL
/-! VL part 8: dicts, in -/
namespace VL
open PySem PySem.Spec L2
section
variable {P : Program} {w : World} {H : Hp} {h : Heap} {a : Addr}
theorem dt_rd0 (ok : HOk P w H h) (e : Rd H a (.dK [])) : (a == sysModules) = false ∧ h.DictOfH (tupleKind (mixKind P w)) a [] := by
  obtain ⟨_, hd, vs, rel, o, es, ep, h1, h2, h3, _, h5, _⟩ := dk_rd ok e
  cases rel
  refine ⟨hd, o, es, ep, h1, h2, h3, ?_, fun x hx => (nomatch hx), List.nodup_nil⟩
  cases h6 : es.toList with
  | nil => rfl
  | cons x r => rw [h6] at h5; cases h5
end
/-- what a dict holds at a key, an empty one too -/
def DG (H : Hp) (a : Addr) (y : V) (r : Option V) : Prop := DGet H a y r ∨ (Rd H a (.dK []) ∧ r = none ∧ ∃ (l : List Key) (b : Addr), y = .ref b ∧ H b = some (.tup (l.map kV)))
section
variable {X : Cx} {pins : List (Addr × Obj)} {σ : St} {H : Hp} {s : Shared} {a : Addr} {y v d : V} {u r : Value} {o : Option V} {A : Around} {E : Value → Shared → Prop}
theorem g_in {Q : Value → Shared → Prop} (hu : A.units + 1 < cLine) (I : Inv X pins σ H s) (g : DG H a y o) (ry : RelV y u) (h : ∀ s', Inv X pins σ H s' → Q (.bool o.isSome) s') :
    wpAny (model X.prog X.w) A (compareOp .In u (.ref a)) Q E s := by
  rcases g with g | ⟨e, rfl, l, b, rfl, eb⟩
  · exact d_in hu I g ry h
  · cases (show u = Value.ref b from ry)
    obtain ⟨hd, dd⟩ := dt_rd0 I.hok e
    exact wpAny_in_heap (tupleKind_room_in1 hu) (key_of I.hok eb) hd dd (h _ (I.tok _))
theorem g_notIn {Q : Value → Shared → Prop} (hu : A.units + 1 < cLine) (I : Inv X pins σ H s) (g : DG H a y o) (ry : RelV y u) (h : ∀ s', Inv X pins σ H s' → Q (.bool (!o.isSome)) s') :
    wpAny (model X.prog X.w) A (compareOp .NotIn u (.ref a)) Q E s := by
  rcases g with g | ⟨e, rfl, l, b, rfl, eb⟩
  · exact d_notIn hu I g ry h
  · cases (show u = Value.ref b from ry)
    obtain ⟨hd, dd⟩ := dt_rd0 I.hok e
    exact PyProof.Rows.wpAny_notIn_heap (tupleKind_room_in1 hu) (key_of I.hok eb) hd dd (h _ (I.tok _))
theorem g_get1 {Q : Value → Shared → Prop} (hu : A.units + 1 < cLine) (I : Inv X pins σ H s) (g : DG H a y o) (ry : RelV y u) (h : ∀ w' s', Inv X pins σ H s' → RelV (o.getD .non) w' → Q w' s') :
    wpAny (model X.prog X.w) A (call (.builtin "dict.get") [.ref a, u]) Q E s := by
  rcases g with g | ⟨e, rfl, l, b, rfl, eb⟩
  · exact d_get1 hu I g ry h
  · cases (show u = Value.ref b from ry)
    obtain ⟨hd, dd⟩ := dt_rd0 I.hok e
    exact call_meetsIn PySem.F.slot_dict_get dd.typeIs PySem.F.entry_dict_get (PySem.F.args_dict_get_2 _ _) (meetsH_dict_get (tupleKind (mixKind X.prog X.w)) a b hd) ⟨tupleKind_room_in1 hu, l, [], key_of I.hok eb, dd, h _ _ (I.tok _) rfl⟩
theorem g_get2 {Q : Value → Shared → Prop} (hu : A.units + 1 < cLine) (I : Inv X pins σ H s) (g : DG H a y o) (ry : RelV y u) (rd : RelV d r) (h : ∀ w' s', Inv X pins σ H s' → RelV (o.getD d) w' → Q w' s') :
    wpAny (model X.prog X.w) A (call (.builtin "dict.get") [.ref a, u, r]) Q E s := by
  rcases g with g | ⟨e, rfl, l, b, rfl, eb⟩
  · exact d_get2 hu I g ry rd h
  · cases (show u = Value.ref b from ry)
    obtain ⟨hd, dd⟩ := dt_rd0 I.hok e
    exact call_meetsIn PySem.F.slot_dict_get dd.typeIs PySem.F.entry_dict_get (PySem.F.args_dict_get_3 _ _ _) (meetsH_dict_get_default (tupleKind (mixKind X.prog X.w)) a b hd r) ⟨tupleKind_room_in1 hu, l, [], key_of I.hok eb, dd, h _ _ (I.tok _) rd⟩
/-- the heap behind a[y] = v, an empty dict too -/
def DP (H : Hp) (a : Addr) (y v : V) (H' : Hp) : Prop := DPut H a y v H' ∨ (H a = some (.dK []) ∧ ∃ (l : List Key) (b : Addr), y = .ref b ∧ H b = some (.tup (l.map kV)) ∧ H' = upd H a (.dT [(l, v)]))
theorem g_setItem {H' : Hp} {Q : Unit → Shared → Prop} (hu : A.units + 1 < cLine) (I : Inv X pins σ H s) (g : DP H a y v H') (ry : RelV y u) (rv : RelV v r) (h : ∀ s', Inv X pins σ H' s' → Q () s') :
    wpAny (model X.prog X.w) A (setItem (.ref a) u r) Q E s := by
  rcases g with g | ⟨e, l, b, rfl, eb, rfl⟩
  · exact d_setItem hu I g ry rv h
  · cases (show u = Value.ref b from ry)
    obtain ⟨hd, dd⟩ := dt_rd0 I.hok (.inl e)
    refine wpAny_setItem_heap (hsz := Nat.zero_le _) (tupleKind_room_in1 hu) (key_of I.hok eb) dd fun h' dd' hs => h _ ?_
    obtain ⟨q, es, ep, hq, h2, h3, h4, _, h5⟩ := dd'
    refine d_write I (by rw [e]; exact True.intro) hs ⟨q, hq⟩ ⟨by show 1 ≤ sizeLine; decide, hd, [(l, b, r)], .cons ⟨rfl, ?_, rv⟩ .nil, q, es, ep, hq, h2, h3, h4, h5⟩
    show upd H a _ b = _
    rw [upd_ne (ne_of eb e (fun z => nomatch z))]
    exact eb
end
/-! ### keys -/
theorem valV_didx {κ : Type} [DecidableEq κ] (f : κ → KD) (hf : ∀ a b, f a = f b → a = b) : ∀ (kvs : List (κ × V)) (k : κ), valV kvs k = dget (kvs.map fun p => f p.1) (kvs.map (·.2)) (f k)
  | [], k => by simp [valV, dget, didx]
  | p :: r, k => by
    by_cases e : p.1 = k
    · rw [valV_pos e]; simp [dget, didx, e]
    · rw [valV_neg e, valV_didx f hf r k]
      have : ¬ f p.1 = f k := fun h => e (hf _ _ h)
      simp only [dget, didx, List.map_cons, if_neg this]
      cases didx (r.map fun p => f p.1) (f k) <;> simp
theorem inl_inj' {a b : Key} (h : (Sum.inl a : KD) = Sum.inl b) : a = b := Sum.inl.inj h
theorem inr_inj' {a b : List Key} (h : (Sum.inr a : KD) = Sum.inr b) : a = b := Sum.inr.inj h
theorem sameKind_cons {k k' : KD} {ks : List KD} (h : sameKind k (k' :: ks) = true) : k'.isLeft = k.isLeft := by
  simp only [sameKind, List.all_cons, Bool.and_eq_true, beq_iff_eq] at h; exact h.1
/-- the entry of a key in the dict that data tells -/
theorem dg_of {H : Hp} {p : Addr} {ks : List KD} {vs : List V} {u : HO} {k : KD} {v : V} (hr : Rd H p u) (hk : DkIs ks vs u) (kv : KeyV H v k) (sk : sameKind k ks = true) : DG H p v (dget ks vs k) := by
  obtain ⟨_, hk⟩ := hk
  cases u <;> first
    | (exact hk.elim)
    | skip
  · rename_i kvs
    obtain ⟨h1, h2⟩ := hk
    cases k with
    | inl k =>
      refine .inl (.inl ⟨kvs, k, hr, kv, ?_⟩)
      rw [valV_didx Sum.inl (fun _ _ => inl_inj') kvs k, ← h1, ← h2]
    | inr l =>
      cases kvs with
      | nil =>
        obtain ⟨b, rfl, hb⟩ := kv
        subst h1 h2
        exact .inr ⟨hr, rfl, l, b, rfl, hb⟩
      | cons q r =>
        rw [← h1] at sk
        simp [sameKind] at sk
  · rename_i kvs
    obtain ⟨h1, h2, h3⟩ := hk
    cases k with
    | inl k =>
      cases kvs with
      | nil => exact absurd rfl h3
      | cons q r =>
        rw [← h1] at sk
        simp [sameKind] at sk
    | inr l =>
      obtain ⟨b, rfl, hb⟩ := kv
      refine .inl (.inr ⟨kvs, l, b, hr, rfl, hb, ?_⟩)
      rw [valV_didx Sum.inr (fun _ _ => inr_inj') kvs l, ← h1, ← h2]
theorem dget_some {α : Type} {ks : List KD} {l : List α} {k : KD} {d : α} (h : dget ks l k = some d) : ∃ j, didx ks k = some j ∧ l[j]? = some d := by
  unfold dget at h
  cases e : didx ks k with
  | none => rw [e] at h; cases h
  | some j => rw [e] at h; exact ⟨j, rfl, h⟩
theorem didx_lt : ∀ {ks : List KD} {k : KD} {j : Nat}, didx ks k = some j → j < ks.length
  | k' :: ks, k, j, h => by
    simp only [didx] at h
    by_cases e : k' = k
    · rw [if_pos e] at h; cases h; simp
    · rw [if_neg e] at h
      cases q : didx ks k with
      | none => rw [q] at h; cases h
      | some i =>
        rw [q] at h
        simp only [Option.map_some, Option.some.injEq] at h
        have := didx_lt q
        simp only [List.length_cons]; omega
theorem dget_isSome {α : Type} {ks : List KD} {l : List α} {k : KD} (h : ks.length = l.length) : (dget ks l k).isSome = (didx ks k).isSome := by
  unfold dget
  cases e : didx ks k with
  | none => rfl
  | some j => have := didx_lt e; simp only [Option.bind_some, Option.isSome_some]; rw [List.getElem?_eq_getElem (by omega)]; rfl
theorem putK_dput {κ : Type} [DecidableEq κ] (f : κ → KD) (hf : ∀ a b, f a = f b → a = b) (kvs : List (κ × V)) (k : κ) (v : V) :
    (putK kvs k v).map (fun p => f p.1) = (dput (kvs.map fun p => f p.1) (kvs.map (·.2)) (f k) v).1 ∧ (putK kvs k v).map (·.2) = (dput (kvs.map fun p => f p.1) (kvs.map (·.2)) (f k) v).2 := by
  have any : (kvs.any fun kv => decide (kv.1 = k)) = (didx (kvs.map fun p => f p.1) (f k)).isSome := by
    rw [valV_any, valV_didx f hf, dget_isSome (by simp)]
  unfold putK dput
  rw [any]
  by_cases h : (didx (kvs.map fun p => f p.1) (f k)).isSome = true
  · rw [if_pos h, if_pos h]
    constructor
    · rw [List.map_map]
      apply List.map_congr_left
      intro p _
      by_cases e : p.1 = k <;> simp [e]
    · rw [List.map_map]
      show _ = (((kvs.map fun p => f p.1).zip (kvs.map (·.2))).map fun p => if p.1 = f k then v else p.2)
      rw [List.zip_map', List.map_map]
      apply List.map_congr_left
      intro p _
      by_cases e : p.1 = k
      · simp [e]
      · have : ¬ f p.1 = f k := fun q => e (hf _ _ q)
        simp [e, this]
  · rw [if_neg h, if_neg h]; simp
theorem dput_length {α : Type} {ks : List KD} {l : List α} {k : KD} {d : α} (h : ks.length = l.length) : (dput ks l k d).1.length = (dput ks l k d).2.length := by
  unfold dput
  split <;> simp [h]
theorem didx_none : ∀ {ks : List KD} {k : KD}, didx ks k = none → k ∉ ks
  | [], _, _ => by simp
  | k' :: ks, k, h => by
    simp only [didx] at h
    by_cases e : k' = k
    · rw [if_pos e] at h; cases h
    · rw [if_neg e] at h
      have := didx_none (Option.map_eq_none_iff.mp h)
      simp only [List.mem_cons, not_or]
      exact ⟨fun q => e q.symm, this⟩
theorem dput_nodup {α : Type} {ks : List KD} {l : List α} {k : KD} {d : α} (h : ks.Nodup) : (dput ks l k d).1.Nodup := by
  unfold dput
  split
  · exact h
  · rename_i q
    have hn : k ∉ ks := didx_none (by cases e : didx ks k with | none => rfl | some j => rw [e] at q; exact absurd rfl q)
    rw [List.nodup_append]
    exact ⟨h, by simp, fun a ha b hb => by simp only [List.mem_singleton] at hb; subst hb; exact fun e => hn (e ▸ ha)⟩
/-- a value put under a key -/
theorem dpu_of {H : Hp} {p : Addr} {ks : List KD} {vs : List V} {u : HO} {k : KD} {v x : V} (hr : H p = some u) (hk : DkIs ks vs u) (kv : KeyV H v k) (sk : sameKind k ks = true) (hl : ks.length < lim) :
    ∃ u', DP H p v x (upd H p u') ∧ DkIs (dput ks vs k x).1 (dput ks vs k x).2 u' := by
  have len := hk.len
  have nd' := dput_nodup (l := vs) (k := k) (d := x) hk.nd
  obtain ⟨nd, hk⟩ := hk
  suffices ∃ u', DP H p v x (upd H p u') ∧ DkIs0 (dput ks vs k x).1 (dput ks vs k x).2 u' from let ⟨u', a, b⟩ := this; ⟨u', a, nd', b⟩
  cases u <;> first
    | (exact hk.elim)
    | skip
  · rename_i kvs
    obtain ⟨h1, h2⟩ := hk
    have hl' : kvs.length < sizeLine := by rw [sizeLine_lim]; rw [← h1] at hl; simpa using hl
    cases k with
    | inl k =>
      refine ⟨.dK (putK kvs k x), .inl (.inl ⟨kvs, k, hr, kv, hl', rfl⟩), ?_⟩
      have := putK_dput (Sum.inl : Key → KD) (fun _ _ => inl_inj') kvs k x
      rw [h1, h2] at this
      exact this
    | inr l =>
      cases kvs with
      | nil =>
        obtain ⟨b, rfl, hb⟩ := kv
        subst h1 h2
        refine ⟨.dT [(l, x)], .inr ⟨hr, l, b, rfl, hb, rfl⟩, ?_⟩
        simp [DkIs0, dput, didx]
      | cons q r =>
        rw [← h1] at sk
        simp [sameKind] at sk
  · rename_i kvs
    obtain ⟨h1, h2, h3⟩ := hk
    have hl' : kvs.length < sizeLine := by rw [sizeLine_lim]; rw [← h1] at hl; simpa using hl
    cases k with
    | inl k =>
      cases kvs with
      | nil => exact absurd rfl h3
      | cons q r =>
        rw [← h1] at sk
        simp [sameKind] at sk
    | inr l =>
      obtain ⟨b, rfl, hb⟩ := kv
      refine ⟨.dT (putK kvs l x), .inl (.inr ⟨kvs, l, b, hr, rfl, hb, hl', rfl⟩), ?_⟩
      have := putK_dput (Sum.inr : List Key → KD) (fun _ _ => inr_inj') kvs l x
      rw [h1, h2] at this
      refine ⟨this.1, this.2, fun e => ?_⟩
      have := length_putK kvs l x
      unfold putK at e
      split at e
      · exact h3 (List.map_eq_nil_iff.mp e)
      · simp at e
section
variable {X : Cx} {CA : Ct}
/-- in, not in, from data -/
def rInn (CA : Ct) (n : Bool) : R2 := fun x y H Q => ∃ u w r, Vw CA H x u ∧ Vw CA H y w ∧ inD u w = .ok r ∧ Q (.bl (if n then !r else r)) H
def opIn : Bool → CmpOp
  | false => .In
  | true => .NotIn
theorem in_flat {K : PySem.W.Frag} {n : Bool} {a : D} {l : List D} {x : V} {p : Addr} {vs : List V} {H : Hp} {Q : VK} (wa : Vw CA H x a) (hl : vs.length = l.length) (kid : ∀ (j : Nat) (x : V) (d : D), vs[j]? = some x → l[j]? = some d → Vw CA H x d)
    (fa : flat a = true) (fl : l.all flat = true) (hs : SqL K H p vs ∨ SqT K H p vs) (q : Q (.bl (if n then !(l.any fun d => eqv d a) else l.any fun d => eqv d a)) H) : rIn K n x (.ref p) H Q := by
  have e := flat_all hl kid fl
  subst e
  refine ⟨p, _, rfl, hs, ?_, flatL_all fl, ?_⟩
  · rw [wa.flat fa]; exact flat_flatV fa
  · rw [wa.flat fa, flat_in fa fl]; exact q
theorem op_innD (n : Bool) {k : Nat} (hr : Room k X.A) : OpR X (compareOp (opIn n)) (rInn CA n) := by
  have hu64 : X.A.units + 64 < cLine := hr.units
  intro pins s σ H x y v u Q I rx ry h
  obtain ⟨a, b, r, wa, wb, ed, q⟩ := h
  unfold inD at ed
  split at ed
  · rename_i o l
    obtain ⟨h, ed⟩ := Out.guard_eq ed
    cases ed
    obtain ⟨p, vs, rfl, hl, hp, kid⟩ := wb.kidL
    simp only [Bool.or_eq_true, Bool.and_eq_true] at h
    rcases h with ⟨h1, h2⟩ | ⟨h1, h2⟩
    · cases n with
      | false => exact op_in_seq pins s σ H x _ v u Q I rx ry (in_flat (n := false) wa hl kid h1 h2 (.inl (.of hp)) q)
      | true => exact op_notIn_seq pins s σ H x _ v u Q I rx ry (in_flat (n := true) wa hl kid h1 h2 (.inl (.of hp)) q)
    · have hu65 : X.A.units + 65 < cLine := by have := hr.un; omega
      have dl : Dp X.K H (.ref p) (.list (toPyL l)) := by
        have := dp_of (K := X.K) 11 (.lst o l) (.ref p) (by rw [pl_lst]; exact h2) wb
        simpa only [toPy] using this
      have sl : SeqAt.shaped (.list (toPyL l)) = true := by
        have := shapedL_of (o := o) h2
        simpa only [toPy] using this
      cases n with
      | false =>
        refine op_inD hu65 pins s σ H x _ v u Q I rx ry ⟨_, _, dp_of 10 _ _ h1 wa, dl, shaped_of h1, sl, ?_⟩
        rw [any_py h1 h2]; exact q
      | true =>
        refine op_notInD hu65 pins s σ H x _ v u Q I rx ry ⟨_, _, dp_of 10 _ _ h1 wa, dl, shaped_of h1, sl, ?_⟩
        rw [any_py h1 h2]; exact q
  · rename_i l
    obtain ⟨h, ed⟩ := Out.guard_eq ed
    cases ed
    obtain ⟨p, vs, rfl, hl, hp, kid⟩ := wb.kidT
    simp only [Bool.and_eq_true] at h
    cases n with
    | false => exact op_in_seq pins s σ H x _ v u Q I rx ry (in_flat (n := false) wa hl kid h.1 h.2 (.inr (.of hp)) q)
    | true => exact op_notIn_seq pins s σ H x _ v u Q I rx ry (in_flat (n := true) wa hl kid h.1 h.2 (.inr (.of hp)) q)
  · rename_i o ks l
    obtain ⟨k, e1, ed⟩ := Out.bind_eq ed
    obtain ⟨h, ed⟩ := Out.guard_eq ed
    cases ed
    obtain ⟨p, vs, u', rfl, hl, hp, hk, kid⟩ := wb.kidD
    have g := dg_of hp hk (toKD_keyV wa (Out.of_eq e1)) h
    rw [← dget_isSome hk.len] at q
    obtain rfl : u = Value.ref p := ry
    cases n with
    | false => exact g_in (by omega) I g rx fun s' I' => ⟨.bl _, H, I', rfl, q⟩
    | true => exact g_notIn (by omega) I g rx fun s' I' => ⟨.bl _, H, I', rfl, q⟩
  · rename_i z
    split at ed
    · rename_i z'
      split at ed
      · rename_i c e1
        cases ed
        have ex : z' = ⟨#[c]⟩ := by
          cases z' with
          | mk cps => simp only at e1; rw [← Array.toArray_toList (xs := cps), e1]
        have hx := wa.str
        rw [ex] at hx
        cases n with
        | false => exact op_in_sign pins s σ H x y v u Q I rx ry ⟨c, z, hx, wb.str, q⟩
        | true => exact op_notIn_sign pins s σ H x y v u Q I rx ry ⟨c, z, hx, wb.str, q⟩
      · cases ed
    · cases ed
  · cases ed
end
end VL
/-! VL part 9: comparisons and tests as expressions -/
namespace VL
open PySem PySem.Spec L2
section
variable {X : Cx} {CA : Ct} {e a b c : Expr} {pos : Pos} {f g h : Ev} {fa : EvN} {k : Nat}
def cmp2F (fn : D → D → Out Bool) (n : Bool) (fa : EvN) (g : Ev) : Ev := fun ρ => (fa ρ).bind fun x => (g x.2).bind fun y => (Out.of (look x.1 y.2)).bind fun u => (fn u y.1).bind fun r => .ok (.bl (if n then !r else r), y.2)
/-- the reading of two operands, the second looked at -/
theorem two_read {r : R2} {fn : D → D → Out Bool} {n : Bool} {σ : L2.St} {H : Hp} {Q : VK}
    (k : ∀ (x y : V) (H : Hp) (u w : D) (z : Bool), Vw CA H x u → Vw CA H y w → fn u w = .ok z → Q (.bl (if n then !z else z)) H → r x y H Q)
    (t : tE CA (cmp2F fn n fa g) σ H Q) : tOp r (tN CA fa) (tV CA g) σ H Q := by
  obtain ⟨ρ, L, dm, m, d, ρ', ev, q⟩ := t
  obtain ⟨x1, e1, ev⟩ := Out.bind_eq ev
  obtain ⟨x2, e2, ev⟩ := Out.bind_eq ev
  obtain ⟨u, e3, ev⟩ := Out.bind_eq ev
  obtain ⟨z, e4, ev⟩ := Out.bind_eq ev
  cases ev
  refine ⟨ρ, L, dm, m, x1.1, x1.2, e1, fun x H1 dm1 m1 lx => ⟨x1.2, tmp x x1.1 ++ L, dm1, m1.perm (pswap _ _ _), x2.1, x2.2, e2, fun y H2 dm2 m2 wy => ?_⟩⟩
  have m3 : M CA H2 (tmp x x1.1 ++ (envL σ x2.2 ++ L)) := m2.perm (pswap _ _ _)
  exact k x y H2 u x2.1 z (opVw m3 lx dm2 (Out.of_eq e3)) wy e4 (q _ _ dm2 (dropTmp m3).pBl)
theorem tT_of {fn : D → D → Out Bool} {n : Bool} {σ : L2.St} {H : Hp} {Q : Bool → Hp → Prop} (t : tT CA (tstF f) σ H Q) : tE CA f σ H (fun v H' => ∃ c, v = .bl c ∧ Q c H') := by
  obtain ⟨ρ, L, dm, m, b, ρ', ev, q⟩ := t
  obtain ⟨x, e1, ev⟩ := Out.bind_eq ev
  obtain ⟨c, e2, ev⟩ := Out.bind_eq ev
  cases ev
  obtain ⟨d, ρ1⟩ := x
  refine ⟨ρ, L, dm, m, d, ρ1, e1, fun v H' dm' m' => ?_⟩
  cases d <;> first
    | (cases e2; exact ⟨_, m'.bl, q H' dm' m'.drop⟩)
    | (cases e2; done)
theorem cop_mark (o : Cop) (b : Expr) : behindInMarks (cop o) b = false := by cases o <;> exact nobehind b (by decide) (by decide)
theorem pe_cmpD (o : Cop) (hr : Room k X.A) (ha : PE X a (tN CA fa)) (hb : PE X b (tV CA g)) : PE X (.Compare a [cop o] [b] pos) (tE CA (cmp2F (cmpD o) false fa g)) :=
  (pe_cmpR (op_cmpD (CA := CA) o hr.units) ha hb (cop_mark o b)).imp fun σ H Q t => two_read (n := false) (fun x y H u w z wx wy e q => ⟨u, w, z, wx, wy, e, q⟩) t
theorem pt_cmpD (o : Cop) (hr : Room k X.A) (ha : PE X a (tN CA fa)) (hb : PE X b (tV CA g)) : PT X (.Compare a [cop o] [b] pos) (tT CA (tstF (cmp2F (cmpD o) false fa g))) :=
  (pt_cmpR (op_cmpD (CA := CA) o hr.units) ha hb (cop_mark o b)).imp fun σ H Q t => two_read (n := false) (fun x y H u w z wx wy e q => ⟨u, w, z, wx, wy, e, q⟩) (tT_of (fn := fun _ _ => .no) (n := false) t)
theorem pe_innD (n : Bool) (hr : Room k X.A) (ha : PE X a (tN CA fa)) (hb : PE X b (tV CA g)) (hm : behindInMarks (opIn n) b = false) : PE X (.Compare a [opIn n] [b] pos) (tE CA (cmp2F inD n fa g)) :=
  (pe_cmpR (op_innD (CA := CA) n hr) ha hb hm).imp fun σ H Q t => two_read (fun x y H u w z wx wy e q => ⟨u, w, z, wx, wy, e, q⟩) t
theorem pt_innD (n : Bool) (hr : Room k X.A) (ha : PE X a (tN CA fa)) (hb : PE X b (tV CA g)) (hm : behindInMarks (opIn n) b = false) : PT X (.Compare a [opIn n] [b] pos) (tT CA (tstF (cmp2F inD n fa g))) :=
  (pt_cmpR (op_innD (CA := CA) n hr) ha hb hm).imp fun σ H Q t => two_read (fun x y H u w z wx wy e q => ⟨u, w, z, wx, wy, e, q⟩) (tT_of (fn := fun _ _ => .no) (n := false) t)
/-! ### is None -/
theorem Vw.isN {H : Hp} {v : V} {d : D} (w : Vw CA H v d) : decide (v = .non) = isN d := by
  cases d with
  | non => rw [w.non]; rfl
  | bl b => rw [w.bl]; rfl
  | int i => rw [w.int]; rfl
  | str x => rw [w.str]; rfl
  | tup l => obtain ⟨p, _, rfl, _⟩ := w.kidT; rfl
  | lst o l => obtain ⟨p, _, rfl, _⟩ := w.kidL; rfl
  | dct o ks l => obtain ⟨p, _, _, rfl, _⟩ := w.kidD; rfl
  | obj o c ns l => obtain ⟨p, _, _, _, rfl, _⟩ := w.kidO; rfl
  | scr ns => obtain ⟨p, rfl, _⟩ := w.scr; rfl
  | raw vs => obtain ⟨p, rfl, _⟩ := w.raw; rfl
def isnF (n : Bool) (g : Ev) : Ev := fun ρ => (g ρ).bind fun x => .ok (.bl (if n then !isN x.1 else isN x.1), x.2)
def opIs : Bool → CmpOp
  | false => .Is
  | true => .IsNot
def rIsn (n : Bool) : R2 := fun x y H Q => y = .non ∧ Q (.bl (if n then !decide (x = .non) else decide (x = .non))) H
theorem op_isn (n : Bool) : OpR X (compareOp (opIs n)) (rIsn n) := by
  cases n with
  | false => exact op_isN
  | true => exact op_notN
theorem isn_read {n : Bool} {σ : L2.St} {H : Hp} {Q : VK} (t : tE CA (isnF n g) σ H Q) : tOp (rIsn n) (tV CA g) (tC .non) σ H Q := by
  obtain ⟨ρ, L, dm, m, d, ρ', ev, q⟩ := t
  obtain ⟨x1, e1, ev⟩ := Out.bind_eq ev
  cases ev
  refine ⟨ρ, L, dm, m, x1.1, x1.2, e1, fun v H' dm' m' w => ⟨rfl, ?_⟩⟩
  rw [w.isN]
  exact q _ _ dm' m'.pBl
theorem pe_isnD (n : Bool) {j : Nat} {p' : Pos} (ha : PE X a (tV CA g)) : PE X (.Compare a [opIs n] [.Constant .none j p'] pos) (tE CA (isnF n g)) :=
  (pe_cmpR (op_isn n) ha pe_non (by cases n <;> exact nobehind _ (by decide) (by decide))).imp fun σ H Q t => isn_read t
theorem pt_isnD (n : Bool) {j : Nat} {p' : Pos} (ha : PE X a (tV CA g)) : PT X (.Compare a [opIs n] [.Constant .none j p'] pos) (tT CA (tstF (isnF n g))) :=
  (pt_cmpR (op_isn n) ha pe_non (by cases n <;> exact nobehind _ (by decide) (by decide))).imp fun σ H Q t => isn_read (tT_of (fn := fun _ _ => .no) (n := false) t)
/-! ### a < b < c -/
noncomputable def chnF (o p : Cop) (f g h : Ev) : Ev := fun ρ => (f ρ).bind fun x => (g x.2).bind fun y => (cmpD o x.1 y.1).bind fun r => match r with
    | true => (h y.2).bind fun z => (cmpD p y.1 z.1).bind fun q => .ok (.bl q, z.2)
    | false => .ok (.bl false, y.2)
theorem chn_read {o p : Cop} {σ : L2.St} {H : Hp} {Q : VK} (t : tE CA (chnF o p f g h) σ H Q) : tChain (rCmp CA o) (rCmp CA p) (tE CA f) (tE CA g) (tE CA h) σ H Q := by
  obtain ⟨ρ, L, dm, m, d, ρ', ev, q⟩ := t
  obtain ⟨x, e1, ev⟩ := Out.bind_eq ev
  obtain ⟨y, e2, ev⟩ := Out.bind_eq ev
  obtain ⟨r, e3, ev⟩ := Out.bind_eq ev
  refine ⟨ρ, L, dm, m, x.1, x.2, e1, fun vx H1 dm1 m1 => ⟨x.2, (vx, x.1) :: L, dm1, m1.rot, y.1, y.2, e2, fun vy H2 dm2 m2 => ?_⟩⟩
  have m3 : M CA H2 ((vx, x.1) :: ((vy, y.1) :: (envL σ y.2 ++ L))) := (MR.unrot (K := (vy, y.1) :: envL σ y.2) m2)
  refine ⟨x.1, y.1, r, m3.vw, m2.vw, e3, r, rfl, ?_⟩
  cases r with
  | true =>
    rw [if_pos rfl]
    obtain ⟨z, e4, ev⟩ := Out.bind_eq ev
    obtain ⟨s, e5, ev⟩ := Out.bind_eq ev
    cases ev
    refine ⟨y.2, (vy, y.1) :: L, dm2, (MR.drop m3).rot, z.1, z.2, e4, fun vz H4 dm4 m4 => ?_⟩
    have m5 : M CA H4 ((vy, y.1) :: ((vz, z.1) :: (envL σ z.2 ++ L))) := (MR.unrot (K := (vz, z.1) :: envL σ z.2) m4)
    exact ⟨y.1, z.1, s, m5.vw, m4.vw, e5, q _ _ dm4 (m4.drop |> fun m => (MR.unrot (K := envL σ z.2) m).drop |> MR.pBl)⟩
  | false =>
    rw [if_neg Bool.false_ne_true]
    cases ev
    exact q _ _ dm2 (m3.drop.drop.pBl)
theorem last_marks (o p : Cop) (b c : Expr) : lastMarks [cop o, cop p] [b, c] = false := by
  show behindInMarks (cop p) c = false
  exact cop_mark p c
theorem pe_chnD (o p : Cop) (hr : Room k X.A) (ha : PE X a (tE CA f)) (hb : PE X b (tE CA g)) (hc : PE X c (tE CA h)) : PE X (.Compare a [cop o, cop p] [b, c] pos) (tE CA (chnF o p f g h)) :=
  (pe_chain (op_cmpD (CA := CA) o hr.units) (op_cmpD (CA := CA) p hr.units) ha hb hc (last_marks o p b c)).imp fun σ H Q t => chn_read t
theorem pt_chnD (o p : Cop) (hr : Room k X.A) (ha : PE X a (tE CA f)) (hb : PE X b (tE CA g)) (hc : PE X c (tE CA h)) : PT X (.Compare a [cop o, cop p] [b, c] pos) (tT CA (tstF (chnF o p f g h))) :=
  (pt_chain (op_cmpD (CA := CA) o hr.units) (op_cmpD (CA := CA) p hr.units) ha hb hc (last_marks o p b c)).imp fun σ H Q t => chn_read (tT_of (fn := fun _ _ => .no) (n := false) t)
/-! ### and, or, not, if else -/
def andF (f g : Ev) : Ev := fun ρ => (f ρ).bind fun x => (fl x.1).bind fun c => match c with
    | true => g x.2
    | false => .ok (.bl false, x.2)
def orF (f g : Ev) : Ev := fun ρ => (f ρ).bind fun x => (fl x.1).bind fun c => match c with
    | true => .ok (.bl true, x.2)
    | false => g x.2
def notF (f : Ev) : Ev := fun ρ => (f ρ).bind fun x => (fl x.1).bind fun c => .ok (.bl (!c), x.2)
def iteF (f g h : Ev) : Ev := fun ρ => (f ρ).bind fun x => (fl x.1).bind fun c => match c with
    | true => g x.2
    | false => h x.2
theorem fl_eq {d : D} {c : Bool} (e : fl d = .ok c) : d = .bl c := by
  cases d <;> first
    | (cases e; rfl)
    | (cases e; done)
variable {rest : List Expr}
theorem pe_andD (ha : PE X a (tE CA f)) (hb : PE X (.BoolOp .And (b :: rest) pos) (tE CA g)) : PE X (.BoolOp .And (a :: b :: rest) pos) (tE CA (andF f g)) := (pe_and ha hb).imp fun σ H Q ⟨ρ, L, dm, m, d, ρ', ev, q⟩ => by
  obtain ⟨x, e1, ev⟩ := Out.bind_eq ev
  obtain ⟨c, e2, ev⟩ := Out.bind_eq ev
  obtain ⟨d0, ρ0⟩ := x
  have := fl_eq e2
  subst this
  refine ⟨ρ, L, dm, m, _, _, e1, fun v H' dm' m' => ⟨c, m'.bl, ?_⟩⟩
  cases c with
  | true => rw [if_pos rfl]; exact ⟨ρ0, L, dm', m'.drop, d, ρ', ev, q⟩
  | false => rw [if_neg Bool.false_ne_true]; cases ev; exact q _ _ dm' m'.drop.pBl
theorem pe_orD (ha : PE X a (tE CA f)) (hb : PE X (.BoolOp .Or (b :: rest) pos) (tE CA g)) : PE X (.BoolOp .Or (a :: b :: rest) pos) (tE CA (orF f g)) := (pe_or ha hb).imp fun σ H Q ⟨ρ, L, dm, m, d, ρ', ev, q⟩ => by
  obtain ⟨x, e1, ev⟩ := Out.bind_eq ev
  obtain ⟨c, e2, ev⟩ := Out.bind_eq ev
  obtain ⟨d0, ρ0⟩ := x
  have := fl_eq e2
  subst this
  refine ⟨ρ, L, dm, m, _, _, e1, fun v H' dm' m' => ⟨c, m'.bl, ?_⟩⟩
  cases c with
  | true => rw [if_pos rfl]; cases ev; exact q _ _ dm' m'.drop.pBl
  | false => rw [if_neg Bool.false_ne_true]; exact ⟨ρ0, L, dm', m'.drop, d, ρ', ev, q⟩
theorem tst_and {σ : L2.St} {H : Hp} {Q : Bool → Hp → Prop} (t : tT CA (tstF (andF f g)) σ H Q) : tAnd (tT CA (tstF f)) (tT CA (tstF g)) σ H Q := by
  obtain ⟨ρ, L, dm, m, b, ρ', ev, q⟩ := t
  obtain ⟨y, e0, ev⟩ := Out.bind_eq ev
  obtain ⟨x, e1, e0⟩ := Out.bind_eq e0
  obtain ⟨c, e2, e0⟩ := Out.bind_eq e0
  refine ⟨ρ, L, dm, m, c, x.2, by simp only [tstF, e1, e2, Out.bind_ok], fun H' dm' m' => ?_⟩
  cases c with
  | true => rw [if_pos rfl]; exact ⟨x.2, L, dm', m', b, ρ', by simp only [tstF, e0, Out.bind_ok]; exact ev, q⟩
  | false => rw [if_neg Bool.false_ne_true]; cases e0; cases ev; exact q _ dm' m'
theorem tst_or {σ : L2.St} {H : Hp} {Q : Bool → Hp → Prop} (t : tT CA (tstF (orF f g)) σ H Q) : tOr (tT CA (tstF f)) (tT CA (tstF g)) σ H Q := by
  obtain ⟨ρ, L, dm, m, b, ρ', ev, q⟩ := t
  obtain ⟨y, e0, ev⟩ := Out.bind_eq ev
  obtain ⟨x, e1, e0⟩ := Out.bind_eq e0
  obtain ⟨c, e2, e0⟩ := Out.bind_eq e0
  refine ⟨ρ, L, dm, m, c, x.2, by simp only [tstF, e1, e2, Out.bind_ok], fun H' dm' m' => ?_⟩
  cases c with
  | true => rw [if_pos rfl]; cases e0; cases ev; exact q _ dm' m'
  | false => rw [if_neg Bool.false_ne_true]; exact ⟨x.2, L, dm', m', b, ρ', by simp only [tstF, e0, Out.bind_ok]; exact ev, q⟩
theorem pw_andD (ha : PT X a (tT CA (tstF f))) (hb : PW X (.BoolOp .And (b :: rest) pos) (tT CA (tstF g))) : PW X (.BoolOp .And (a :: b :: rest) pos) (tT CA (tstF (andF f g))) := (pw_and ha hb).imp fun σ H Q t => tst_and t
theorem pw_orD (ha : PT X a (tT CA (tstF f))) (hb : PW X (.BoolOp .Or (b :: rest) pos) (tT CA (tstF g))) : PW X (.BoolOp .Or (a :: b :: rest) pos) (tT CA (tstF (orF f g))) := (pw_or ha hb).imp fun σ H Q t => tst_or t
theorem pe_notD (ha : PE X a (tE CA f)) : PE X (.UnaryOp .Not a pos) (tE CA (notF f)) := (pe_not ha).imp fun σ H Q ⟨ρ, L, dm, m, d, ρ', ev, q⟩ => by
  obtain ⟨x, e1, ev⟩ := Out.bind_eq ev
  obtain ⟨c, e2, ev⟩ := Out.bind_eq ev
  obtain ⟨d0, ρ0⟩ := x
  have := fl_eq e2
  subst this
  cases ev
  exact ⟨ρ, L, dm, m, _, _, e1, fun v H' dm' m' => ⟨c, m'.bl, q _ _ dm' m'.drop.pBl⟩⟩
theorem pt_notD (ha : PT X a (tT CA (tstF f))) : PT X (.UnaryOp .Not a pos) (tT CA (tstF (notF f))) := (pt_not ha).imp fun σ H Q ⟨ρ, L, dm, m, b, ρ', ev, q⟩ => by
  obtain ⟨y, e0, ev⟩ := Out.bind_eq ev
  obtain ⟨x, e1, e0⟩ := Out.bind_eq e0
  obtain ⟨c, e2, e0⟩ := Out.bind_eq e0
  cases e0
  cases ev
  exact ⟨ρ, L, dm, m, c, x.2, by simp only [tstF, e1, e2, Out.bind_ok], fun H' dm' m' => q _ dm' m'⟩
theorem pe_iteD (hc : PT X c (tT CA (tstF f))) (ha : PE X a (tE CA g)) (hb : PE X b (tE CA h)) : PE X (.IfExp c a b pos) (tE CA (iteF f g h)) := (pe_ifExp hc ha hb).imp fun σ H Q ⟨ρ, L, dm, m, d, ρ', ev, q⟩ => by
  obtain ⟨x, e1, ev⟩ := Out.bind_eq ev
  obtain ⟨c, e2, ev⟩ := Out.bind_eq ev
  refine ⟨ρ, L, dm, m, c, x.2, by simp only [tstF, e1, e2, Out.bind_ok], fun H' dm' m' => ?_⟩
  cases c with
  | true => rw [if_pos rfl]; exact ⟨x.2, L, dm', m', d, ρ', ev, q⟩
  | false => rw [if_neg Bool.false_ne_true]; exact ⟨x.2, L, dm', m', d, ρ', ev, q⟩
end
end VL
/-! VL part 10: displays, built-ins, items, slices -/
namespace VL
open PySem PySem.Spec L2
abbrev EvL := Env → Out (List D × Env)
section
variable (CA : Ct)
def tL (f : EvL) : TA := fun σ H Q => ∃ ρ L, Dom σ ρ ∧ M CA H (envL σ ρ ++ L) ∧ ∃ ds ρ', f ρ = .ok (ds, ρ') ∧ ∀ vs H', vs.length = ds.length → Dom σ ρ' → M CA H' (vs.zip ds ++ (envL σ ρ' ++ L)) → Q vs H'
end
theorem _root_.L2.PA.imp {X : Cx} {es : List Expr} {t t' : TA} (h : PA X es t) (i : ∀ σ H Q, t' σ H Q → t σ H Q) : PA X es t' := ⟨fun p pins s σ H Q I q => h.run p pins s σ H Q I (i σ H Q q)⟩
section
variable {X : Cx} {CA : Ct} {e a b c : Expr} {es : List Expr} {pos : Pos} {f g h : Ev} {fa : EvN} {fs : EvL} {k : Nat}
def nilF : EvL := fun ρ => .ok ([], ρ)
def consF (f : Ev) (fs : EvL) : EvL := fun ρ => (f ρ).bind fun x => (fs x.2).bind fun y => .ok (x.1 :: y.1, y.2)
theorem pa_nilD : PA X [] (tL CA nilF) := pa_nil.imp fun σ H Q ⟨ρ, L, dm, m, ds, ρ', ev, q⟩ => by
  cases ev; exact q [] H rfl dm m
theorem pa_consD (ha : PE X e (tE CA f)) (hr : PA X es (tL CA fs)) (hs : starEach (e :: es) X.env = (false, eval e X.env) :: starEach es X.env) : PA X (e :: es) (tL CA (consF f fs)) := (pa_cons ha hr hs).imp fun σ H Q ⟨ρ, L, dm, m, ds, ρ', ev, q⟩ => by
  obtain ⟨x, e1, ev⟩ := Out.bind_eq ev
  obtain ⟨y, e2, ev⟩ := Out.bind_eq ev
  cases ev
  refine ⟨ρ, L, dm, m, x.1, x.2, e1, fun v H1 dm1 m1 => ⟨x.2, (v, x.1) :: L, dm1, m1.rot, y.1, y.2, e2, fun vs H2 hl dm2 m2 => ?_⟩⟩
  refine q (v :: vs) H2 (by simp [hl]) dm2 ?_
  show M CA H2 ((v, x.1) :: (vs.zip y.1 ++ (envL σ y.2 ++ L)))
  refine m2.perm ?_
  rw [← List.append_assoc]
  refine List.perm_middle.trans ?_
  rw [List.append_assoc]
theorem pe_tupD {j : Nat} (ha : PA X es (tL CA fs)) (hl : ∀ ρ x, fs ρ = .ok x → x.1.length ≤ lim) : PE X (.Tuple es j pos) (tE CA (fun ρ => (fs ρ).bind fun x => .ok (.tup x.1, x.2))) := (pe_tup ha).imp fun σ H Q ⟨ρ, L, dm, m, d, ρ', ev, q⟩ => by
  obtain ⟨x, e1, ev⟩ := Out.bind_eq ev
  cases ev
  exact ⟨ρ, L, dm, m, x.1, x.2, e1, fun vs H' hv dm' m' => ⟨by rw [sizeLine_lim, hv]; exact hl ρ x e1, fun p hp => q _ _ dm' (m'.newT hv hp)⟩⟩
theorem pe_lstD (ha : PA X es (tL CA fs)) (hl : ∀ ρ x, fs ρ = .ok x → x.1.length ≤ lim) : PE X (.List es pos) (tE CA (fun ρ => (fs ρ).bind fun x => .ok (.lst true x.1, x.2))) := (pe_lst ha).imp fun σ H Q ⟨ρ, L, dm, m, d, ρ', ev, q⟩ => by
  obtain ⟨x, e1, ev⟩ := Out.bind_eq ev
  cases ev
  exact ⟨ρ, L, dm, m, x.1, x.2, e1, fun vs H' hv dm' m' => ⟨by rw [sizeLine_lim, hv]; exact hl ρ x e1, fun p hp => q _ _ dm' (m'.newL hv hp)⟩⟩
/-! ### built-ins that look at one value and give a flat one -/
def b1V : B1 → Value
  | .len => .builtin "len" | .all => .builtin "all" | .lset => .none | .int => .type "int" | .max => .builtin "max"
theorem bools_vals {H : Hp} : ∀ {l : List D} {vs : List V} {bs : List Bool}, vs.length = l.length → (∀ (j : Nat) (x : V) (d : D), vs[j]? = some x → l[j]? = some d → Vw CA H x d) → bools l = some bs → vs = bs.map V.bl
  | [], [], bs, _, _, e => by simp only [bools, Option.some.injEq] at e; subst e; rfl
  | d :: l, v :: vs, bs, hl, kd, e => by
    cases d <;> first
      | (simp [bools] at e; done)
      | skip
    rename_i b
    simp only [bools, Option.map_eq_some_iff] at e
    obtain ⟨bs0, e1, rfl⟩ := e
    rw [List.map_cons, (kd 0 v _ rfl rfl).bl, bools_vals (vs := vs) (by simpa using hl) (fun j x d' hx hd => kd (j + 1) x d' (by simpa using hx) (by simpa using hd)) e1]
  | [], _ :: _, _, hl, _, _ => by simp at hl
  | _ :: _, [], _, hl, _, _ => by simp at hl
theorem ints_vals' {H : Hp} : ∀ {l : List D} {vs : List V} {bs : List Int}, vs.length = l.length → (∀ (j : Nat) (x : V) (d : D), vs[j]? = some x → l[j]? = some d → Vw CA H x d) → intsD l = some bs → vs = bs.map V.int
  | [], [], bs, _, _, e => by simp only [intsD, Option.some.injEq] at e; subst e; rfl
  | d :: l, v :: vs, bs, hl, kd, e => by
    cases d <;> first
      | (simp [intsD] at e; done)
      | skip
    rename_i b
    simp only [intsD, Option.map_eq_some_iff] at e
    obtain ⟨bs0, e1, rfl⟩ := e
    rw [List.map_cons, (kd 0 v _ rfl rfl).int, ints_vals' (vs := vs) (by simpa using hl) (fun j x d' hx hd => kd (j + 1) x d' (by simpa using hx) (by simpa using hd)) e1]
  | [], _ :: _, _, hl, _, _ => by simp at hl
  | _ :: _, [], _, hl, _, _ => by simp at hl
theorem strs_vals' {H : Hp} : ∀ {l : List D} {vs : List V} {bs : List Str}, vs.length = l.length → (∀ (j : Nat) (x : V) (d : D), vs[j]? = some x → l[j]? = some d → Vw CA H x d) → strsD l = some bs → vs = bs.map V.str
  | [], [], bs, _, _, e => by simp only [strsD, Option.some.injEq] at e; subst e; rfl
  | d :: l, v :: vs, bs, hl, kd, e => by
    cases d <;> first
      | (simp [strsD] at e; done)
      | skip
    rename_i b
    simp only [strsD, Option.map_eq_some_iff] at e
    obtain ⟨bs0, e1, rfl⟩ := e
    rw [List.map_cons, (kd 0 v _ rfl rfl).str, strs_vals' (vs := vs) (by simpa using hl) (fun j x d' hx hd => kd (j + 1) x d' (by simpa using hx) (by simpa using hd)) e1]
  | [], _ :: _, _, hl, _, _ => by simp at hl
  | _ :: _, [], _, hl, _, _ => by simp at hl
theorem maxI_spec : ∀ {ns : List Int} {m : Int}, maxI ns = some m → m ∈ ns ∧ ∀ y ∈ ns, y ≤ m
  | [], m, e => by simp [maxI] at e
  | [i], m, e => by simp only [maxI, Option.some.injEq] at e; subst e; simp
  | i :: j :: r, m, e => by
    simp only [maxI, Option.map_eq_some_iff] at e
    obtain ⟨n, e1, e2⟩ := e
    obtain ⟨h1, h2⟩ := maxI_spec (ns := j :: r) e1
    split at e2
    · subst e2
      refine ⟨List.mem_cons_of_mem _ h1, fun y hy => ?_⟩
      rcases List.mem_cons.mp hy with rfl | hy
      · omega
      · exact h2 y hy
    · subst e2
      refine ⟨List.mem_cons_self, fun y hy => ?_⟩
      rcases List.mem_cons.mp hy with rfl | hy
      · omega
      · have := h2 y hy; omega
theorem lenD_of (hK : CA.K = X.K) {H : Hp} {v : V} {d : D} {n : Int} (w : Vw CA H v d) (e : lenD d = .ok n) : (∃ m : Nat, LenV X.K v H m ∧ (m : Int) = n) ∨ (∃ p o ks vs u, v = .ref p ∧ d = .dct o ks vs ∧ Rd H p u ∧ (∃ ws, DkIs ks ws u)) := by
  cases d <;> first
    | (simp [lenD] at e; done)
    | skip
  · obtain ⟨h, e⟩ := Out.guard_eq e
    cases e
    refine .inl ⟨_, ?_, rfl⟩
    rw [w.str]
    exact ⟨by rw [sizeLine_lim]; exact of_decide_eq_true h, rfl⟩
  · obtain ⟨p, vs, rfl, hl, hp, _⟩ := w.kidT
    cases e
    refine .inl ⟨vs.length, ?_, by rw [hl]⟩
    exact .inr ⟨vs, .of hp, rfl⟩
  · obtain ⟨p, vs, rfl, hl, hp, _⟩ := w.kidL
    cases e
    refine .inl ⟨vs.length, ?_, by rw [hl]⟩
    exact .inl ⟨vs, .of hp, rfl⟩
  · obtain ⟨p, vs, u, rfl, hl, hp, hk, _⟩ := w.kidD
    exact .inr ⟨p, _, _, _, u, rfl, rfl, hp, vs, hk⟩
  · obtain ⟨p, rfl, hp⟩ := w.scr
    cases e
    rw [hK] at hp
    refine .inl ⟨_, .inl ⟨_, hp.sq, rfl⟩, by simp⟩
def scV : D → V
  | .int i => .int i
  | .bl b => .bl b
  | .str x => .str x
  | _ => .non
def isSc : D → Bool
  | .int _ => true
  | .bl _ => true
  | .str _ => true
  | .non => true
  | _ => false
theorem MR.pSc {H : Hp} {R : List Addr} {L : List VD} {d : D} (m : MR CA H R L) (h : isSc d = true) : MR CA H R ((scV d, d) :: L) := by
  cases d <;> first
    | (simp [isSc] at h; done)
    | exact m.pInt
    | exact m.pBl
    | exact m.pStr
    | exact m.pNon
def rB1 (CA : Ct) (f : B1) : List V → Hp → VK → Prop := fun xs H Q => ∃ x u d, xs = [x] ∧ Vw CA H x u ∧ b1D f u = .ok d ∧ Q (scV d) H
theorem b1_sc {f : B1} {u d : D} (e : b1D f u = .ok d) : isSc d = true := by
  cases f with
  | len =>
    have e' : ((lenD u).bind fun n => .ok (.int n)) = .ok d := e
    obtain ⟨n, _, e2⟩ := Out.bind_eq e'; cases e2; rfl
  | all =>
    cases u <;> simp only [b1D] at e <;> first
      | (cases e; done)
      | (obtain ⟨n, _, e2⟩ := Out.bind_eq e; cases e2; rfl)
  | lset =>
    cases u <;> simp only [b1D] at e <;> first
      | (cases e; done)
      | (obtain ⟨_, e⟩ := Out.guard_eq e; obtain ⟨n, _, e2⟩ := Out.bind_eq e; cases e2; rfl)
  | int =>
    cases u <;> simp only [b1D] at e <;> first
      | (cases e; done)
      | (cases e; rfl)
  | max =>
    cases u <;> simp only [b1D] at e <;> first
      | (cases e; done)
      | (obtain ⟨n, _, e⟩ := Out.bind_eq e; obtain ⟨n, _, e2⟩ := Out.bind_eq e; cases e2; rfl)
theorem d_lenT {pins : List (Addr × Obj)} {σ : L2.St} {H : Hp} {s : Shared} {p : Addr} {kvs : List (List Key × V)} {A : Around} {E : Value → Shared → Prop} {Q : Value → Shared → Prop} (I : Inv X pins σ H s) (e : Rd H p (.dT kvs)) (h : ∀ t s', Inv X pins σ H s' → Q (.int ((kvs.length : Nat) : Int) t) s') :
    wpAny (model X.prog X.w) A (call (.builtin "len") [.ref p]) Q E s := by
  obtain ⟨z, hd, ys, rel, dd⟩ := dt_rd I.hok e
  have hl : kvs.length = ys.length := Paired.length rel
  refine call_len_dictH hd dd (by rw [← hl]; rw [sizeLine_eq] at z; omega) ?_
  rw [← hl]
  exact h _ _ (I.tok _)
theorem call_b1 (f : B1) (hf : f ≠ .lset) (hc : X.calm = true) (hK : CA.K = X.K) : CallR X (b1V f) (rB1 CA f) := by
  intro pins s σ H xs us Q I r h
  obtain ⟨x, u, d, rfl, w, e, q⟩ := h
  cases f with
  | lset => exact absurd rfl hf
  | len =>
    have e' : ((lenD u).bind fun n => .ok (.int n)) = .ok d := e
    obtain ⟨n, e1, e2⟩ := Out.bind_eq e'
    cases e2
    rcases lenD_of (X := X) hK w e1 with ⟨m, hm, rfl⟩ | ⟨p, o, ks, vs, u', rfl, rfl, hp, ws, hk⟩
    · exact call_len pins s σ H [x] us Q I r ⟨x, m, rfl, hm, q⟩
    · obtain ⟨u, rfl, ru⟩ := vals1 r
      obtain rfl : u = Value.ref p := ru
      have len := hk.len
      obtain ⟨_, hk⟩ := hk
      cases e1
      cases u' <;> first
        | (exact hk.elim)
        | skip
      · obtain ⟨h1, h2⟩ := hk
        refine d_len I hp fun t s' I' => ⟨.int (ks.length : Int), H, I', ⟨t, ?_⟩, q⟩
        rw [← h1, List.length_map]
      · obtain ⟨h1, h2, _⟩ := hk
        refine d_lenT I hp fun t s' I' => ⟨.int (ks.length : Int), H, I', ⟨t, ?_⟩, q⟩
        rw [← h1, List.length_map]
  | all =>
    cases u <;> simp only [b1D] at e <;> first
      | (cases e; done)
      | skip
    obtain ⟨bs, e1, e2⟩ := Out.bind_eq e
    cases e2
    obtain ⟨p, vs, rfl, hl, hp, kd⟩ := w.kidL
    have := bools_vals hl kd (Out.of_eq e1)
    subst this
    exact cr_all hc pins s σ H _ us Q I r ⟨p, bs, rfl, .of hp, q⟩
  | int =>
    cases u <;> simp only [b1D] at e <;> first
      | (cases e; done)
      | (cases e; rw [w.int] at r; exact call_int1 pins s σ H _ us Q I r (.inl ⟨_, rfl, q⟩))
      | (cases e; rw [w.bl] at r; exact call_int1 pins s σ H _ us Q I r (.inr ⟨_, rfl, q⟩))
  | max =>
    cases u <;> simp only [b1D] at e <;> first
      | (cases e; done)
      | skip
    obtain ⟨bs, e1, e⟩ := Out.bind_eq e
    obtain ⟨m, e2, e⟩ := Out.bind_eq e
    cases e
    obtain ⟨p, vs, rfl, hl, hp, kd⟩ := w.kidL
    have := ints_vals' hl kd (Out.of_eq e1)
    subst this
    obtain ⟨h1, h2⟩ := maxI_spec (Out.of_eq e2)
    refine cr_max hc pins s σ H _ us Q I r ⟨p, bs, rfl, .of hp, List.length_pos_of_mem h1, fun m' hm' hle => ?_⟩
    have : m' = m := by have a := h2 m' hm'; have b := hle m h1; omega
    rw [this]; exact q
noncomputable def b1F (f : B1) (g : Ev) : Ev := fun ρ => (g ρ).bind fun x => (b1D f x.1).bind fun r => .ok (r, x.2)
theorem b1_read {f : B1} {σ : L2.St} {H : Hp} {Q : VK} (t : tE CA (b1F f g) σ H Q) : tCB (rB1 CA f) (tCons (tV CA g) tNil) σ H Q := by
  obtain ⟨ρ, L, dm, m, d, ρ', ev, q⟩ := t
  obtain ⟨x, e1, ev⟩ := Out.bind_eq ev
  obtain ⟨r, e2, ev⟩ := Out.bind_eq ev
  cases ev
  exact ⟨ρ, L, dm, m, x.1, x.2, e1, fun v H' dm' m' w => ⟨v, x.1, d, rfl, w, e2, q _ _ dm' (m'.pSc (b1_sc e2))⟩⟩
/-- isinstance -/
def tyN : Ty → String
  | .int => "int" | .bool => "bool" | .str => "str" | .tuple => "tuple" | .list => "list"
def isiF (t : Ty) (g : Ev) : Ev := fun ρ => (g ρ).bind fun x => Out.guard (isiOk x.1) (.ok (.bl (isiD x.1 t), x.2))
theorem ty_of {K : PySem.W.Frag} (hK : CA.K = K) {H : Hp} {v : V} {d : D} (w : Vw CA H v d) (h : isiOk d = true) (t : Ty) : ∃ n : String, TyX K H v (.type n) ∧ kitB n (tyN t) = some (isiD d t) := by
  cases d <;> first
    | (simp [isiOk] at h; done)
    | skip
  · rw [w.non]; exact ⟨"NoneType", .base .non, by cases t <;> simp only [isiD, tyN] <;> decide +kernel⟩
  · rw [w.bl]; exact ⟨"bool", .base (.bl _), by cases t <;> simp only [isiD, tyN] <;> decide +kernel⟩
  · rw [w.int]; exact ⟨"int", .base (.int _), by cases t <;> simp only [isiD, tyN] <;> decide +kernel⟩
  · rw [w.str]; exact ⟨"str", .base (.str _), by cases t <;> simp only [isiD, tyN] <;> decide +kernel⟩
  · obtain ⟨p, vs, rfl, _, hp, _⟩ := w.kidT; exact ⟨"tuple", .base (.tup hp), by cases t <;> simp only [isiD, tyN] <;> decide +kernel⟩
  · obtain ⟨p, vs, rfl, _, hp, _⟩ := w.kidL; exact ⟨"list", .base (.lst hp), by cases t <;> simp only [isiD, tyN] <;> decide +kernel⟩
  · obtain ⟨p, rfl, hp⟩ := w.scr
    rw [hK] at hp
    refine ⟨"list", ?_, by cases t <;> simp only [isiD, tyN] <;> decide +kernel⟩
    rcases hp with ⟨o, hp⟩ | ⟨o, its, n, h1, h2, _⟩
    · exact .base (.frz hp)
    · exact .kList h1 h2
  · obtain ⟨p, rfl, hp⟩ := w.raw; exact ⟨"tuple", .base (.tup hp), by cases t <;> simp only [isiD, tyN] <;> decide +kernel⟩
theorem isi_read (hK : CA.K = X.K) {t : Ty} {σ : L2.St} {H : Hp} {Q : VK} (h : tE CA (isiF t g) σ H Q) : tCB (rIsi X.K) (tCons (tV CA g) (tCons (tC (.ty (tyN t))) tNil)) σ H Q := by
  obtain ⟨ρ, L, dm, m, d, ρ', ev, q⟩ := h
  obtain ⟨x, e1, ev⟩ := Out.bind_eq ev
  obtain ⟨h1, ev⟩ := Out.guard_eq ev
  cases ev
  refine ⟨ρ, L, dm, m, x.1, x.2, e1, fun v H' dm' m' w => ?_⟩
  obtain ⟨n, a, b⟩ := ty_of (K := X.K) hK w h1 t
  exact ⟨v, .ty (tyN t), .type n, .type (tyN t), isiD x.1 t, rfl, .ty _, a, kit_ty b, q _ _ dm' m'.pBl⟩
/-! ### built-ins that make a new list, tuple, dict of what is handed in -/
def c1V : C1 → Value
  | .sorted => .builtin "sorted" | .sset => .none | .list => .type "list" | .tuple => .type "tuple" | .dict => .type "dict"
noncomputable def c1F (f : C1) (fa : EvN) : Ev := fun ρ => (fa ρ).bind fun x => (Out.of (look x.1 x.2)).bind fun u => (c1D f u).bind fun r => .ok (r, x.2)
/-- a rule for such a one: by its reading from data -/
structure C1Ok (X : Cx) (CA : Ct) (f : C1) (r : List V → Hp → VK → Prop) : Prop where
  call : CallR X (c1V f) r
  read : ∀ (σ : L2.St) (ρ : Env) (L : List VD) (x : V) (H : Hp) (ix : Sum D Nat) (u d : D) (Q : VK), M CA H (tmp x ix ++ (envL σ ρ ++ L)) → Late σ x ix → look ix ρ = some u → c1D f u = .ok d → Dom σ ρ → (∀ v H', M CA H' ((v, d) :: (envL σ ρ ++ L)) → Q v H') → r [x] H Q
theorem c1_rd {f : C1} {r : List V → Hp → VK → Prop} (ok : C1Ok X CA f r) {σ : L2.St} {H : Hp} {Q : VK} (t : tE CA (c1F f fa) σ H Q) : tCB r (tCons (tN CA fa) tNil) σ H Q := by
  obtain ⟨ρ, L, dm, m, d, ρ', ev, q⟩ := t
  obtain ⟨x, e1, ev⟩ := Out.bind_eq ev
  obtain ⟨u, e2, ev⟩ := Out.bind_eq ev
  obtain ⟨d', e3, ev⟩ := Out.bind_eq ev
  cases ev
  exact ⟨ρ, L, dm, m, x.1, x.2, e1, fun v H' dm' m' lt => ok.read σ x.2 L v H' x.1 u d Q m' lt (Out.of_eq e2) e3 dm' fun v H' m' => q v H' dm' m'⟩
theorem kdD_key {k : Key} : kdD (.inl k) = (match k with | .inl i => .int i | .inr x => .str x) := by cases k <;> rfl
theorem MR.pKey {H : Hp} {R : List Addr} {L : List VD} (k : Key) (m : MR CA H R L) : MR CA H R ((kV k, kdD (.inl k)) :: L) := by
  cases k with
  | inl i => exact m.pInt
  | inr x => exact m.pStr
theorem MR.pKeys {H : Hp} {R : List Addr} {L : List VD} (ks : List Key) (m : MR CA H R L) : MR CA H R ((ks.map kV).zip (ks.map fun k => kdD (.inl k)) ++ L) := by
  induction ks with
  | nil => exact m
  | cons k ks ih => exact ih.pKey k
theorem DkIs.keys {ks : List KD} {vs : List V} {kvs : List (Key × V)} (h : DkIs ks vs (.dK kvs)) : ks.map kdD = (kvs.map (·.1)).map fun k => kdD (.inl k) := by
  obtain ⟨_, h1, _⟩ := h
  rw [← h1, List.map_map, List.map_map]; rfl
theorem ok_list (hc : X.calm = true) : C1Ok X CA .list (fun xs H Q => (∃ p ys, xs = [.ref p] ∧ (SqL X.K H p ys ∨ SqT X.K H p ys) ∧ ∀ l, H l = none → Q (.ref l) (upd H l (.lst ys))) ∨ (∃ (a : Addr) (kvs : List (Key × V)), xs = [.ref a] ∧ Rd H a (.dK kvs) ∧ ∀ p, H p = none → Q (.ref p) (upd H p (.lst (kvs.map fun kv => kV kv.1))))) where
  call := call_list_of.or (call_listD hc)
  read := fun σ ρ L x H ix u d Q m lt e ed dm q => by
    cases u <;> simp only [c1D] at ed <;> first
      | (cases ed; done)
      | skip
    · obtain ⟨h, ed⟩ := Out.guard_eq ed
      cases ed
      obtain ⟨p, vs, rfl, hl, hp, m1⟩ := opItemsT m lt e h
      exact .inl ⟨p, vs, rfl, .inr (.of hp), fun l hn => q _ _ (m1.newL hl hn)⟩
    · obtain ⟨h, ed⟩ := Out.guard_eq ed
      cases ed
      obtain ⟨p, vs, rfl, hl, hp, m1⟩ := opItemsL m lt e h
      exact .inl ⟨p, vs, rfl, .inl (.of hp), fun l hn => q _ _ (m1.newL hl hn)⟩
    · obtain ⟨h, ed⟩ := Out.guard_eq ed
      cases ed
      have w := opVw m lt dm e
      obtain ⟨p, vs, u, rfl, hl, hp, hk, _⟩ := w.kidD
      have hk0 := hk
      obtain ⟨_, hk⟩ := hk
      cases u <;> first
        | (exact hk.elim)
        | skip
      · rename_i kvs
        refine .inr ⟨p, kvs, rfl, hp, fun l hn => q _ _ ?_⟩
        rw [hk0.keys]
        have m2 := (dropTmp m).pKeys (kvs.map (·.1))
        have := m2.newL (by simp) hn
        rwa [List.map_map] at this
      · rename_i kvs
        obtain ⟨h1, h2, h3⟩ := hk
        cases kvs with
        | nil => exact absurd rfl h3
        | cons q r => rw [← h1] at h; simp at h
theorem ok_tuple : C1Ok X CA .tuple (fun xs H Q => ∃ p ys, xs = [.ref p] ∧ ((SqL X.K H p ys ∧ ∀ l, H l = none → Q (.ref l) (upd H l (.tup ys))) ∨ (SqT X.K H p ys ∧ Q (.ref p) H))) where
  call := call_tuple_of
  read := fun σ ρ L x H ix u d Q m lt e ed dm q => by
    cases u <;> simp only [c1D] at ed <;> first
      | (cases ed; done)
      | skip
    · obtain ⟨h, ed⟩ := Out.guard_eq ed
      cases ed
      obtain ⟨p, vs, rfl, hl, hp, m1⟩ := opItemsT m lt e h
      exact ⟨p, vs, rfl, .inr ⟨.of hp, q _ _ (MR.closeT (MR.rot (m1.takeT hp)) hl)⟩⟩
    · obtain ⟨h, ed⟩ := Out.guard_eq ed
      cases ed
      obtain ⟨p, vs, rfl, hl, hp, m1⟩ := opItemsL m lt e h
      exact ⟨p, vs, rfl, .inl ⟨.of hp, fun l hn => q _ _ (m1.newT hl hn)⟩⟩
theorem opItemsD {H : Hp} {σ : L2.St} {ρ : Env} {L : List VD} {v : V} {it : Sum D Nat} {o : Bool} {ks : List KD} {l : List D} (m : M CA H (tmp v it ++ (envL σ ρ ++ L))) (lt : Late σ v it) (h : look it ρ = some (.dct o ks l)) (f : fzdL l = true) :
    ∃ p vs u, v = .ref p ∧ vs.length = l.length ∧ Rd H p u ∧ DkIs ks vs u ∧ M CA H (vs.zip l ++ (envL σ ρ ++ L)) := by
  obtain ⟨x, ⟨h1, h2, h3, h4⟩, m'⟩ := opFrontE (α := Addr × List V × HO) (Φ := fun x => v = .ref x.1 ∧ x.2.1.length = l.length ∧ Rd H x.1 x.2.2 ∧ DkIs ks x.2.1 x.2.2) (P := fun x => x.2.1.zip l) m lt h fun K mk => by
    obtain ⟨p, vs, u, h1, h2, h3, h4, mm⟩ := mk.itemsDct f
    exact ⟨(p, vs, u), ⟨h1, h2, h3, h4⟩, mm⟩
  exact ⟨x.1, x.2.1, x.2.2, h1, h2, h3, h4, m'⟩
end
end VL
/-! VL part 11: items, slices, methods of dicts and texts -/
namespace VL
open PySem PySem.Spec L2
section
variable {CA : Ct} {H : Hp} {R : List Addr} {L : List VD}
theorem zip_set {vs : List V} {ds : List D} {j : Nat} {v : V} {d : D} (hv : vs[j]? = some v) (hd : ds[j]? = some d) : ∃ K, (vs.zip ds).Perm ((v, d) :: K) ∧ ∀ d', (vs.zip (ds.set j d')).Perm ((v, d') :: K) := by
  induction vs generalizing ds j with
  | nil => simp at hv
  | cons a vs ih =>
    cases ds with
    | nil => simp at hd
    | cons b ds =>
      cases j with
      | zero =>
        simp only [List.getElem?_cons_zero, Option.some.injEq] at hv hd
        subst hv hd
        exact ⟨vs.zip ds, .refl _, fun d' => .refl _⟩
      | succ j =>
        obtain ⟨K, p1, p2⟩ := ih (by simpa using hv) (by simpa using hd)
        refine ⟨(a, b) :: K, (p1.cons _).trans (.swap _ _ _), fun d' => ?_⟩
        rw [List.set_cons_succ, List.zip_cons_cons]
        exact ((p2 d').cons _).trans (.swap _ _ _)
theorem set_same {ds : List D} {j : Nat} {d : D} (hd : ds[j]? = some d) : ds.set j d = ds := by
  apply List.ext_getElem?
  intro i
  by_cases e : j = i
  · subst e; rw [List.getElem?_set_self (by exact (List.getElem?_eq_some_iff.mp hd).1), hd]
  · rw [List.getElem?_set_ne e]
mutual
theorem Rep.fzd {CA : Ct} {Hf H : Hp} : ∀ {v : V} {d : D} {F : List Addr}, Rep CA Hf H v d F → F = [] → fzd d = true
  | _, _, _, .non, _ => rfl
  | _, _, _, .bl b, _ => rfl
  | _, _, _, .int i, _ => rfl
  | _, _, _, .str x, _ => rfl
  | _, _, _, .scr _, _ => rfl
  | _, _, _, .raw _, _ => rfl
  | _, _, _, .tup _ r, h => by simp only [VL.fzd]; exact Reps.fzd r h
  | _, _, _, .lstF _ r, _ => by simp only [VL.fzd, Bool.not_false, Bool.true_and]; exact Reps.fzd r rfl
  | _, _, _, .lstT _ _, h => by simp at h
  | _, _, _, .dctF _ _ r, _ => by simp only [VL.fzd, Bool.not_false, Bool.true_and]; exact Reps.fzd r rfl
  | _, _, _, .dctT _ _ _, h => by simp at h
  | _, _, _, .objF _ _ _ r, _ => by simp only [VL.fzd, Bool.not_false, Bool.true_and]; exact Reps.fzd r rfl
  | _, _, _, .objT _ _ _ _, h => by simp at h
theorem Reps.fzd {CA : Ct} {Hf H : Hp} : ∀ {vs : List V} {ds : List D} {F : List Addr}, Reps CA Hf H vs ds F → F = [] → fzdL ds = true
  | _, _, _, .nil, _ => rfl
  | _, _, _, .cons r t, h => by
    rw [List.append_eq_nil_iff] at h
    simp only [fzdL, Rep.fzd r h.1, Reps.fzd t h.2, Bool.and_self]
end
theorem MR.fzL {v : V} {l : List D} (m : MR CA H R ((v, .lst false l) :: L)) : fzdL l = true := by
  obtain ⟨_, _, _, rs, _⟩ := m
  cases rs with
  | cons r _ => cases r with
    | lstF _ rr => exact rr.fzd rfl
theorem MR.fzD {v : V} {ks : List KD} {l : List D} (m : MR CA H R ((v, .dct false ks l) :: L)) : fzdL l = true := by
  obtain ⟨_, _, _, rs, _⟩ := m
  cases rs with
  | cons r _ => cases r with
    | dctF _ _ rr => exact rr.fzd rfl
theorem MR.fzO {v : V} {c : Nat} {ns : List Str} {l : List D} (m : MR CA H R ((v, .obj false c ns l) :: L)) : fzdL l = true := by
  obtain ⟨_, _, _, rs, _⟩ := m
  cases rs with
  | cons r _ => cases r with
    | objF _ _ _ rr => exact rr.fzd rfl
/-- how a node stands: its values -/
def Kv (CA : Ct) (H : Hp) (v : V) (a : D) (vs : List V) : Prop := vs.length = (kids a).length ∧ match a with
  | .lst _ _ => ∃ p, v = .ref p ∧ H p = some (.lst vs)
  | .tup _ => ∃ p, v = .ref p ∧ H p = some (.tup vs)
  | .dct _ ks _ => ∃ p u, v = .ref p ∧ Rd H p u ∧ DkIs ks vs u
  | .obj _ c ns _ => ∃ p C dx, v = .ref p ∧ ns.length = vs.length ∧ CA.cls c = some C ∧ H p = some (.ins C dx (ns.zip vs))
  | _ => False
/-- a child frozen in place, and had -/
theorem MR.kid {v : V} {a d : D} {j : Nat} (m : MR CA H R ((v, a) :: L)) (hd : (kids a)[j]? = some d) : ∃ vs vj, vs[j]? = some vj ∧ Kv CA H v a vs ∧ MR CA H R ((vj, frz d) :: (v, setKid a j (frz d)) :: L) := by
  have frozen : ∀ {vs : List V} {l : List D} {x : VD}, fzdL l = true → l[j]? = some d → vs.length = l.length → MR CA H R (vs.zip l ++ (x :: L)) → ∃ vj, vs[j]? = some vj ∧ MR CA H R ((vj, frz d) :: x :: L) ∧ l.set j (frz d) = l := fun {vs l x} f hd hl m => by
    obtain ⟨vj, hv⟩ := get_of_len hl hd
    have fd := fzdL_iff.mp f d (List.mem_of_getElem? hd)
    rw [frz_of d fd]
    exact ⟨vj, hv, m.pick hv hd, set_same hd⟩
  have owned : ∀ {vs : List V} {l : List D} {p : Addr}, l[j]? = some d → vs.length = l.length → MR CA H (p :: R) (vs.zip l ++ L) → ∃ vj, vs[j]? = some vj ∧ MR CA H (p :: R) (vs.zip (l.set j (frz d)) ++ ((vj, frz d) :: L)) := fun {vs l p} hd hl m => by
    obtain ⟨vj, hv⟩ := get_of_len hl hd
    obtain ⟨K, p1, p2⟩ := zip_set hv hd
    have m1 : MR CA H (p :: R) ((vj, d) :: (K ++ L)) := m.perm (p1.append_right L)
    have m2 := (m1.freeze).copy (fzd_frz d)
    have m3 : MR CA H (p :: R) ((vj, frz d) :: (vs.zip (l.set j (frz d)) ++ L)) := m2.perm ((((p2 (frz d)).append_right L).symm).cons _)
    exact ⟨vj, hv, m3.rot⟩
  cases a with
  | lst o l =>
    cases o with
    | false =>
      obtain ⟨p, vs, rfl, hl, hp, m1⟩ := m.itemsF
      obtain ⟨vj, h1, h2, h3⟩ := frozen m.fzL hd hl m1
      refine ⟨vs, vj, h1, ⟨hl, p, rfl, hp⟩, ?_⟩
      simp only [setKid]; rw [h3]; exact h2
    | true =>
      obtain ⟨p, vs, rfl, hl, hp, m1⟩ := m.openL
      obtain ⟨vj, h1, h2⟩ := owned hd hl m1
      refine ⟨vs, vj, h1, ⟨hl, p, rfl, hp⟩, ?_⟩
      simp only [setKid]
      exact (h2.closeL0 (by rw [List.length_set]; exact hl) hp).perm (.swap _ _ _)
  | tup l =>
    obtain ⟨p, vs, rfl, hl, hp, m1⟩ := m.openT
    obtain ⟨vj, hv⟩ := get_of_len hl hd
    obtain ⟨K, p1, p2⟩ := zip_set hv hd
    have m1' : MR CA H R ((vj, d) :: (K ++ ((V.ref p, D.raw vs) :: L))) := m1.perm (p1.append_right _)
    have m2 := (m1'.freeze).copy (fzd_frz d)
    have m3 : MR CA H R ((vj, frz d) :: (vs.zip (l.set j (frz d)) ++ ((V.ref p, D.raw vs) :: L))) := m2.perm ((((p2 (frz d)).append_right _).symm).cons _)
    have m4 : MR CA H R (vs.zip (l.set j (frz d)) ++ ((V.ref p, D.raw vs) :: ((vj, frz d) :: L))) := m3.rot.perm (List.Perm.append_left _ (.swap _ _ _))
    refine ⟨vs, vj, hv, ⟨hl, p, rfl, hp⟩, ?_⟩
    simp only [setKid]
    exact (m4.closeT (by rw [List.length_set]; exact hl)).perm (.swap _ _ _)
  | dct o ks l =>
    cases o with
    | false =>
      obtain ⟨p, vs, u, rfl, hl, hp, hk, m1⟩ := m.itemsD
      obtain ⟨vj, h1, h2, h3⟩ := frozen m.fzD hd hl m1
      refine ⟨vs, vj, h1, ⟨hl, p, u, rfl, hp, hk⟩, ?_⟩
      simp only [setKid]; rw [h3]; exact h2
    | true =>
      obtain ⟨p, vs, u, rfl, hl, hp, hk, m1⟩ := m.openD
      obtain ⟨vj, h1, h2⟩ := owned hd hl m1
      refine ⟨vs, vj, h1, ⟨hl, p, u, rfl, .inl hp, hk⟩, ?_⟩
      simp only [setKid]
      exact (h2.closeD0 (by rw [List.length_set]; exact hl) hk hp).perm (.swap _ _ _)
  | obj o c ns l =>
    cases o with
    | false =>
      obtain ⟨p, vs, C, dx, rfl, hl, hn, hc, hp, m1⟩ := m.itemsO
      obtain ⟨vj, h1, h2, h3⟩ := frozen m.fzO hd hl m1
      refine ⟨vs, vj, h1, ⟨hl, p, C, dx, rfl, hn, hc, hp⟩, ?_⟩
      simp only [setKid]; rw [h3]; exact h2
    | true =>
      obtain ⟨p, vs, C, dx, rfl, hl, hn, hc, hp, m1⟩ := m.openO
      obtain ⟨vj, h1, h2⟩ := owned hd hl m1
      refine ⟨vs, vj, h1, ⟨hl, p, C, dx, rfl, hn, hc, hp⟩, ?_⟩
      simp only [setKid]
      exact (h2.closeO0 (by rw [List.length_set]; exact hl) hc hn hp).perm (.swap _ _ _)
  | _ => simp [kids] at hd
end
/-! ### a[b] -/
section
variable {X : Cx} {CA : Ct} {e a b c : Expr} {es : List Expr} {pos : Pos} {f g h : Ev} {fa : EvN} {fs : EvL} {k : Nat}
def subF (fa : EvN) (g : Ev) : Ev := fun ρ => (fa ρ).bind fun x => (g x.2).bind fun y => match x.1 with
    | .inr i => subE y.2 i y.1
    | .inl u => (subD u y.1).bind fun d => .ok (frz d, y.2)
theorem atI_of {vs : List V} {i : Int} {j : Nat} {v : V} (h : ixN vs.length i = some j) (hv : vs[j]? = some v) : atI vs i = some v := by
  unfold atI; rw [h]; exact hv
theorem whichD_read {K : PySem.W.Frag} {H : Hp} {x y vj : V} {a b : D} {vs : List V} {j : Nat} (kv : Kv CA H x a vs) (w : whichD a b = some j) (wy : Vw CA H y b) (hv : vs[j]? = some vj) :
    (∃ p i, x = .ref p ∧ y = .int i ∧ SqL K H p vs ∧ atI vs i = some vj) ∨ (∃ p i, x = .ref p ∧ y = .int i ∧ SqT K H p vs ∧ atI vs i = some vj) ∨ ∃ p, x = .ref p ∧ DGet H p y (some vj) := by
  obtain ⟨hl, kv⟩ := kv
  cases a <;> first
    | (exact kv.elim)
    | skip
  · obtain ⟨p, rfl, hp⟩ := kv
    cases b <;> simp only [whichD] at w <;> first
      | (cases w; done)
      | (exact .inr (.inl ⟨p, _, rfl, wy.int, .of hp, atI_of (by rw [hl]; exact w) hv⟩))
  · obtain ⟨p, rfl, hp⟩ := kv
    cases b <;> simp only [whichD] at w <;> first
      | (cases w; done)
      | (exact .inl ⟨p, _, rfl, wy.int, .of hp, atI_of (by rw [hl]; exact w) hv⟩)
  · rename_i o ks l
    obtain ⟨p, u, rfl, hp, hk⟩ := kv
    have w' : (match toKD b with
      | some k => if sameKind k ks then didx ks k else none
      | none => none) = some j := by cases b <;> exact w
    cases e1 : toKD b with
    | none => rw [e1] at w'; cases w'
    | some kd =>
      rw [e1] at w'
      simp only at w'
      by_cases sk : sameKind kd ks = true
      · rw [if_pos sk] at w'
        have g := dg_of hp hk (toKD_keyV wy e1) sk
        have : dget ks vs kd = some vj := by unfold dget; rw [w']; exact hv
        rw [this] at g
        rcases g with g | ⟨_, g, _⟩
        · exact .inr (.inr ⟨p, rfl, g⟩)
        · cases g
      · rw [if_neg sk] at w'; cases w'
  · cases b <;> simp [whichD] at w
def rSub (K : PySem.W.Frag) : R2 := fun x y H Q => rIx K x y H Q ∨ ∃ a v, x = .ref a ∧ DGet H a y (some v) ∧ Q v H
theorem ix_dict (hu : X.A.units + 1 < cLine) : IxR X (fun x y H Q => ∃ a v, x = .ref a ∧ DGet H a y (some v) ∧ Q v H) := by
  intro value slice pins s σ H x y v u Q I rx ry h hs
  obtain ⟨a, v0, rfl, g, q⟩ := h
  obtain rfl : v = Value.ref a := rx
  exact PyProof.Rows.tail_any (dict_typeIs I g) PySem.F.slot_dict_getitem.lookup (d_getItem hu I g ry fun w' s3 I3 rw' => ⟨v0, H, I3, rw', q⟩) hs
theorem ix_sub (hu : X.A.units + 1 < cLine) : IxR X (rSub X.K) := ix_seq.or (ix_dict hu)
/-- by data: the item of a node, as HandS's rules want it -/
theorem sub_of {K : PySem.W.Frag} {H : Hp} {Q : VK} {x y vj : V} {a b : D} {vs : List V} {j : Nat} (kv : Kv CA H x a vs) (w : whichD a b = some j) (wy : Vw CA H y b) (hv : vs[j]? = some vj) (q : Q vj H) : rSub K x y H Q := by
  rcases whichD_read (K := K) kv w wy hv with ⟨p, i, h1, h2, h3, h4⟩ | ⟨p, i, h1, h2, h3, h4⟩ | ⟨p, h1, h2⟩
  · exact .inl (.inl ⟨p, vs, i, vj, h1, h2, h3, h4, q⟩)
  · exact .inl (.inr (.inl ⟨p, vs, i, vj, h1, h2, h3, h4, q⟩))
  · exact .inr ⟨p, vj, h1, h2, q⟩
theorem atI_map {α β : Type} (f : α → β) (l : List α) (i : Int) : atI (l.map f) i = (atI l i).map f := by
  unfold atI
  rw [List.length_map]
  cases ixN l.length i with
  | none => rfl
  | some j => simp
/-- an int of the script, a sign of a text -/
theorem sub_flat {K : PySem.W.Frag} (hK : CA.K = K) {H : Hp} {Q : VK} {x y : V} {a b d : D} (wx : Vw CA H x a) (wy : Vw CA H y b) (sc : (∃ ns, a = .scr ns) ∨ ∃ z, a = .str z) (e : subD a b = .ok d) (q : Q (scV d) H) : isSc d = true ∧ rSub K x y H Q := by
  rcases sc with ⟨ns, rfl⟩ | ⟨z, rfl⟩
  · simp only [subD] at e
    obtain ⟨i, e1, e⟩ := Out.bind_eq e
    obtain ⟨n, e2, e⟩ := Out.bind_eq e
    cases e
    cases b <;> simp only [num] at e1 <;> first
      | (cases e1; done)
      | skip
    cases e1
    obtain ⟨p, rfl, hp⟩ := wx.scr
    rw [hK] at hp
    have e2 := Out.of_eq e2
    unfold ixD at e2
    exact ⟨rfl, .inl (.inl ⟨p, _, _, .int n, rfl, wy.int, hp.sq, by rw [atI_map, e2]; rfl, q⟩)⟩
  · simp only [subD] at e
    obtain ⟨i, e1, e⟩ := Out.bind_eq e
    obtain ⟨h, e⟩ := Out.guard_eq e
    obtain ⟨c, e2, e⟩ := Out.bind_eq e
    cases e
    cases b <;> simp only [num] at e1 <;> first
      | (cases e1; done)
      | skip
    cases e1
    have e2 := Out.of_eq e2
    unfold ixD at e2
    exact ⟨rfl, .inl (.inr (.inr ⟨z, _, c, wx.str, wy.int, by rw [sizeLine_lim]; exact of_decide_eq_true h, e2, q⟩))⟩
theorem sub_read (hK : CA.K = X.K) {σ : L2.St} {H : Hp} {Q : VK} (t : tE CA (subF fa g) σ H Q) : tOp (rSub X.K) (tN CA fa) (tE CA g) σ H Q := by
  obtain ⟨ρ, L, dm, m, d, ρ', ev, q⟩ := t
  obtain ⟨x, e1, ev⟩ := Out.bind_eq ev
  obtain ⟨y, e2, ev⟩ := Out.bind_eq ev
  obtain ⟨xi, ρ1⟩ := x
  obtain ⟨yd, ρ2⟩ := y
  refine ⟨ρ, L, dm, m, xi, ρ1, e1, fun vx H1 dm1 m1 lx => ⟨ρ1, tmp vx xi ++ L, dm1, m1.perm (pswap _ _ _), yd, ρ2, e2, fun vy H2 dm2 m2 => ?_⟩⟩
  have wy := m2.vw
  have m3 : M CA H2 (tmp vx xi ++ (envL σ ρ2 ++ L)) := m2.drop.perm (pswap _ _ _)
  cases xi with
  | inr i =>
    have ev : subE ρ2 i yd = .ok (d, ρ') := ev
    have hv : σ[i]? = some (some vx) := lx i rfl
    unfold subE at ev
    cases ea : getv ρ2 i with
    | none => rw [ea] at ev; cases ev
    | some a =>
      rw [ea] at ev
      have wx : Vw CA H2 vx a := (MR.front (v := vx) m3 hv ea).vw
      have flatc : ∀ (sc : (∃ ns, a = .scr ns) ∨ ∃ z, a = .str z), ((subD a yd).bind fun d => .ok (d, ρ2)) = .ok (d, ρ') → rSub X.K vx vy H2 Q := fun sc ev => by
        obtain ⟨d', e3, ev⟩ := Out.bind_eq ev
        cases ev
        obtain ⟨h1, _⟩ := sub_flat (K := X.K) hK (Q := fun _ _ => True) wx wy sc e3 trivial
        exact (sub_flat hK wx wy sc e3 (q _ _ dm2 (MR.pSc m3 h1))).2
      have nodec : ((Out.of (whichD a yd)).bind fun j => takeKid ρ2 i a j) = .ok (d, ρ') → rSub X.K vx vy H2 Q := fun ev => by
        obtain ⟨j, e3, ev⟩ := Out.bind_eq ev
        obtain ⟨dj, e4, ev⟩ := Out.bind_eq ev
        have m4 := MR.front (v := vx) m3 hv ea
        obtain ⟨vs, vj, hvj, kv, m5⟩ := m4.kid (Out.of_eq e4)
        refine sub_of kv (Out.of_eq e3) wy hvj ?_
        have m6 : M CA H2 ((vx, setKid a j (frz dj)) :: (envL σ (ρ2.set i none) ++ ((vj, frz dj) :: L))) := (m5.perm (.swap _ _ _)).perm (List.Perm.cons _ (List.perm_middle.symm))
        by_cases hf : fzd dj = true
        · rw [if_pos hf] at ev; cases ev
          rw [frz_of d hf] at m6
          have es : setKid a j d = a := by
            have hk := Out.of_eq e4
            cases a <;> simp only [kids] at hk <;> first
              | (simp only [setKid, set_same hk])
              | (simp at hk)
          rw [es] at m6
          exact q _ _ dm2 (MR.back0 m6 hv ea).unrot
        · rw [if_neg hf] at ev; cases ev
          exact q _ _ (dm2.put hv) (MR.back m6 hv (getv_lt ea)).unrot
      cases a <;> first
        | exact flatc (.inl ⟨_, rfl⟩) ev
        | exact flatc (.inr ⟨_, rfl⟩) ev
        | exact nodec ev
  | inl u =>
    have ev : ((subD u yd).bind fun d => .ok (frz d, ρ2)) = .ok (d, ρ') := ev
    obtain ⟨d', e3, ev⟩ := Out.bind_eq ev
    cases ev
    have wx : Vw CA H2 vx u := MR.vw m3
    have flatc : ∀ (sc : (∃ ns, u = .scr ns) ∨ ∃ z, u = .str z), rSub X.K vx vy H2 Q := fun sc => by
      obtain ⟨h1, _⟩ := sub_flat (K := X.K) hK (Q := fun _ _ => True) wx wy sc e3 trivial
      have : frz d' = d' := by cases d' <;> first | rfl | (simp [isSc] at h1)
      rw [this] at q
      exact (sub_flat hK wx wy sc e3 (q _ _ dm2 (MR.pSc m3.drop h1))).2
    have nodec : ((Out.of (whichD u yd)).bind fun j => Out.of ((kids u)[j]?)) = .ok d' → rSub X.K vx vy H2 Q := fun e3 => by
      obtain ⟨j, e4, e5⟩ := Out.bind_eq e3
      obtain ⟨vs, vj, hvj, kv, m5⟩ := MR.kid m3 (Out.of_eq e5)
      exact sub_of kv (Out.of_eq e4) wy hvj (q _ _ dm2 ((m5.perm (.swap _ _ _)).drop))
    cases u <;> first
      | exact flatc (.inl ⟨_, rfl⟩)
      | exact flatc (.inr ⟨_, rfl⟩)
      | exact nodec e3
theorem pe_subD (hK : CA.K = X.K) (hr : Room k X.A) (ha : PE X a (tN CA fa)) (hb : PE X b (tE CA g)) (hs : PlainIx b) : PE X (.Subscript a b pos) (tE CA (subF fa g)) := (pe_ix (ix_sub (hu_of hr)) ha hb hs).imp fun σ H Q t => sub_read hK t
/-- .. looked at where it stands -/
def bsubF (i : Nat) (g : Ev) : Ev := fun ρ => (Out.of (getv ρ i)).bind fun _ => (g ρ).bind fun y => (Out.of (getv y.2 i)).bind fun u => (subD u y.1).bind fun d => .ok (d, y.2)
theorem Vw.kid {H : Hp} {v : V} {a d : D} {j : Nat} (w : Vw CA H v a) (hd : (kids a)[j]? = some d) : ∃ vs vj, vs[j]? = some vj ∧ Kv CA H v a vs ∧ Vw CA H vj d := by
  cases a <;> simp only [kids] at hd <;> first
    | (simp at hd; done)
    | skip
  · obtain ⟨p, vs, rfl, hl, hp, k⟩ := w.kidT
    obtain ⟨vj, hv⟩ := get_of_len hl hd
    exact ⟨vs, vj, hv, ⟨hl, p, rfl, hp⟩, k j vj d hv hd⟩
  · obtain ⟨p, vs, rfl, hl, hp, k⟩ := w.kidL
    obtain ⟨vj, hv⟩ := get_of_len hl hd
    exact ⟨vs, vj, hv, ⟨hl, p, rfl, hp⟩, k j vj d hv hd⟩
  · obtain ⟨p, vs, u, rfl, hl, hp, hk, k⟩ := w.kidD
    obtain ⟨vj, hv⟩ := get_of_len hl hd
    exact ⟨vs, vj, hv, ⟨hl, p, u, rfl, hp, hk⟩, k j vj d hv hd⟩
  · obtain ⟨p, vs, C, dx, rfl, hl, hn, hc, hp, k⟩ := w.kidO
    obtain ⟨vj, hv⟩ := get_of_len hl hd
    exact ⟨vs, vj, hv, ⟨hl, p, C, dx, rfl, hn, hc, hp⟩, k j vj d hv hd⟩
theorem sc_vw {H : Hp} {L : List VD} {d : D} (m : M CA H L) (h : isSc d = true) : Vw CA H (scV d) d := (MR.pSc m h).vw
theorem pe_bsubD {i : Nat} (hK : CA.K = X.K) (hr : Room k X.A) (ha : PE X a (tVar i)) (hb : PE X b (tE CA g)) (hs : PlainIx b) : PE X (.Subscript a b pos) (tV CA (bsubF i g)) := (pe_ix (ix_sub (hu_of hr)) ha hb hs).imp fun σ H Q ⟨ρ, L, dm, m, d, ρ', ev, q⟩ => by
  obtain ⟨d0, e1, ev⟩ := Out.bind_eq ev
  obtain ⟨y, e2, ev⟩ := Out.bind_eq ev
  obtain ⟨u, e3, ev⟩ := Out.bind_eq ev
  obtain ⟨d', e4, ev⟩ := Out.bind_eq ev
  cases ev
  have e3 := Out.of_eq e3
  obtain ⟨vx, hv⟩ := dm.2 i d0 (Out.of_eq e1)
  refine ⟨vx, hv, ρ, L, dm, m, y.1, y.2, e2, fun vy H2 dm2 m2 => ?_⟩
  have wy := m2.vw
  have m3 : M CA H2 (envL σ y.2 ++ L) := m2.drop
  have wx : Vw CA H2 vx u := (MR.front m3 hv e3).vw
  have flatc : ∀ (sc : (∃ ns, u = .scr ns) ∨ ∃ z, u = .str z), rSub X.K vx vy H2 Q := fun sc => by
    obtain ⟨h1, _⟩ := sub_flat (K := X.K) hK (Q := fun _ _ => True) wx wy sc e4 trivial
    exact (sub_flat hK wx wy sc e4 (q _ _ dm2 m3 (sc_vw m3 h1))).2
  have nodec : ((Out.of (whichD u y.1)).bind fun j => Out.of ((kids u)[j]?)) = .ok d → rSub X.K vx vy H2 Q := fun e3 => by
    obtain ⟨j, e4, e5⟩ := Out.bind_eq e3
    obtain ⟨vs, vj, hvj, kv, w⟩ := wx.kid (Out.of_eq e5)
    exact sub_of kv (Out.of_eq e4) wy hvj (q _ _ dm2 m3 w)
  cases u <;> first
    | exact flatc (.inl ⟨_, rfl⟩)
    | exact flatc (.inr ⟨_, rfl⟩)
    | exact nodec e4
/-! ### slices -/
abbrev EvP := Env → Out (Option Int × Env)
def tP (CA : Ct) (f : EvP) : TO := fun σ H Q => ∃ ρ L, Dom σ ρ ∧ M CA H (envL σ ρ ++ L) ∧ ∃ i ρ', f ρ = .ok (i, ρ') ∧ ∀ H', Dom σ ρ' → M CA H' (envL σ ρ' ++ L) → Q i H'
theorem _root_.L2.PO.imp {X : Cx} {e : Option Expr} {t t' : TO} (h : PO X e t) (i : ∀ σ H Q, t' σ H Q → t σ H Q) : PO X e t' := ⟨fun pins s σ H Q I q => h.run pins s σ H Q I (i σ H Q q)⟩
theorem po_noneD : PO X none (tP CA (fun ρ => .ok (none, ρ))) := po_none.imp fun σ H Q ⟨ρ, L, dm, m, i, ρ', ev, q⟩ => by
  cases ev; exact q H dm m
theorem po_someD (h : PE X e (tE CA f)) : PO X (some e) (tP CA (fun ρ => (f ρ).bind fun x => (partD x.1).bind fun i => .ok (i, x.2))) := (po_some h).imp fun σ H Q ⟨ρ, L, dm, m, i, ρ', ev, q⟩ => by
  obtain ⟨x, e1, ev⟩ := Out.bind_eq ev
  obtain ⟨j, e2, ev⟩ := Out.bind_eq ev
  cases ev
  obtain ⟨d, ρ1⟩ := x
  refine ⟨ρ, L, dm, m, d, ρ1, e1, fun v H' dm' m' => ?_⟩
  cases d <;> simp only [partD] at e2 <;> first
    | (cases e2; done)
    | (cases e2; exact ⟨_, m'.int, q H' dm' m'.drop⟩)
def slF (fa : EvN) (fl fh : EvP) : Ev := fun ρ => (fa ρ).bind fun x => (fl x.2).bind fun y => (fh y.2).bind fun z => (Out.of (look x.1 z.2)).bind fun u => (slD u y.1 z.1).bind fun r => .ok (r, z.2)
def rSl3 (K : PySem.W.Frag) : V → Option Int → Option Int → Hp → VK → Prop := fun x lo hi H Q => rSlL K x lo hi H Q ∨ (rSlT K x lo hi H Q ∨ rSlS x lo hi H Q)
theorem sl3 : SlR X (rSl3 X.K) := sl_list.or (sl_tup.or sl_str)
theorem cut_zip {vs : List V} {l : List D} (h : vs.length = l.length) (lo hi : Option Int) : cutV vs lo hi = cutD vs lo hi ∧ (cutD vs lo hi).length = (cutD l lo hi).length ∧ (cutD vs lo hi).zip (cutD l lo hi) = cutD (vs.zip l) lo hi := by
  refine ⟨rfl, ?_, ?_⟩
  · simp only [cutD, List.length_take, List.length_drop, h]
  · unfold cutD
    have : (vs.zip l).length = vs.length := by simp [h]
    rw [this, ← h]
    rw [List.zip_eq_zipWith, List.zip_eq_zipWith, List.drop_zipWith, List.take_zipWith]
theorem MR.cut {H : Hp} {R : List Addr} {L : List VD} {vs : List V} {l : List D} {lo hi : Option Int} (h : vs.length = l.length) (m : MR CA H R (vs.zip l ++ L)) : MR CA H R ((cutD vs lo hi).zip (cutD l lo hi) ++ L) := by
  rw [(cut_zip h lo hi).2.2]
  unfold cutD
  generalize HT.sIx (vs.zip l).length 0 lo = a
  generalize HT.sIx (vs.zip l).length (vs.zip l).length hi - a = b
  have e : vs.zip l = (vs.zip l).take a ++ (((vs.zip l).drop a).take b ++ ((vs.zip l).drop a).drop b) := by
    rw [List.take_append_drop, List.take_append_drop]
  rw [e] at m
  rw [List.append_assoc, List.append_assoc] at m
  have m2 := m.dropL
  exact (m2.perm (pswap _ _ _)).dropL
theorem pe_slD {lo hi : Option Expr} {p2 : Pos} {fl fh : EvP} (ha : PE X a (tN CA fa)) (hl : PO X lo (tP CA fl)) (hh : PO X hi (tP CA fh)) : PE X (.Subscript a (.Slice lo hi none p2) pos) (tE CA (slF fa fl fh)) := (pe_slice sl3 ha hl hh).imp fun σ H Q ⟨ρ, L, dm, m, d, ρ', ev, q⟩ => by
  obtain ⟨x, e1, ev⟩ := Out.bind_eq ev
  obtain ⟨y, e2, ev⟩ := Out.bind_eq ev
  obtain ⟨z, e3, ev⟩ := Out.bind_eq ev
  obtain ⟨u, e4, ev⟩ := Out.bind_eq ev
  obtain ⟨r, e5, ev⟩ := Out.bind_eq ev
  cases ev
  have e4 := Out.of_eq e4
  refine ⟨ρ, L, dm, m, x.1, x.2, e1, fun vx H1 dm1 m1 lx => ⟨x.2, tmp vx x.1 ++ L, dm1, m1.perm (pswap _ _ _), y.1, y.2, e2, fun H2 dm2 m2 => ⟨y.2, tmp vx x.1 ++ L, dm2, m2, z.1, z.2, e3, fun H3 dm3 m3 => ?_⟩⟩⟩
  have m4 : M CA H3 (tmp vx x.1 ++ (envL σ z.2 ++ L)) := m3.perm (pswap _ _ _)
  cases u <;> simp only [slD] at e5 <;> first
    | (cases e5; done)
    | skip
  · obtain ⟨h1, e5⟩ := Out.guard_eq e5
    cases e5
    have w := opVw m4 lx dm3 e4
    exact .inr (.inr ⟨_, w.str, by rw [sizeLine_lim]; exact of_decide_eq_true h1, q _ _ dm3 (dropTmp m4).pStr⟩)
  · obtain ⟨h1, e5⟩ := Out.guard_eq e5
    cases e5
    simp only [Bool.and_eq_true, Bool.not_eq_true', decide_eq_false_iff_not] at h1
    obtain ⟨p, vs, rfl, hl, hp, m5⟩ := opItemsT m4 lx e4 h1.1
    refine .inr (.inl ⟨p, vs, rfl, .of hp, ?_, fun r hr => ?_⟩)
    · rw [hl]; exact h1.2
    · exact q _ _ dm3 ((MR.cut hl m5).newT (cut_zip hl _ _).2.1 hr)
  · obtain ⟨h1, e5⟩ := Out.guard_eq e5
    cases e5
    obtain ⟨p, vs, rfl, hl, hp, m5⟩ := opItemsL m4 lx e4 h1
    exact .inl ⟨p, vs, rfl, .of hp, fun r hr => q _ _ dm3 ((MR.cut hl m5).newL (cut_zip hl _ _).2.1 hr)⟩
end
end VL
/-! VL part 12: get, methods of texts, displays of dicts -/
namespace VL
open PySem PySem.Spec L2
section
variable {X : Cx} {CA : Ct} {e a b c : Expr} {es : List Expr} {pos apos : Pos} {f g h : Ev} {fa : EvN} {fs : EvL} {k : Nat}
/-! ### d.get -/
def tG1 (td ty : TE) : TE := fun σ H Q => td σ H fun x H1 => ∃ a, x = .ref a ∧ IsD H1 a ∧ ty σ H1 fun y H2 => ∃ o, DG H2 a y o ∧ Q (o.getD .non) H2
def tG2 (td ty tx : TE) : TE := fun σ H Q => td σ H fun x H1 => ∃ a, x = .ref a ∧ IsD H1 a ∧ ty σ H1 fun y H2 => tx σ H2 fun z H3 => ∃ o, DG H3 a y o ∧ Q (o.getD z) H3
theorem pe_g1 {o e : Expr} {td ty : TE} {cpos : Pos} (hu : X.A.units + 1 < cLine) (ho : PE X o td) (he : PE X e ty) (m : L2.M1 X o "get" apos e cpos) : PE X (.Call (.Attribute o "get" apos) [e] [] cpos) (tG1 td ty) := by
  refine ⟨fun pins s σ H Q I h => ?_⟩
  refine wpAny_Call_method m.base m.few m.line PySem.F.plainAttrs_dict PySem.F.slot_dict_get PySem.F.type_dict_get (thn (ho.run pins s σ H _ I h) fun u s1 ⟨x, H1, I1, rx, a, ex, d, q1⟩ => ?_)
  subst ex
  obtain rfl : u = Value.ref a := rx
  obtain ⟨t1, t2, _⟩ := isD_at I1 d
  refine ⟨t1, t2, ?_⟩
  rw [m.trees]
  refine Calls.callWith_builtin rfl (Calls.evalArgs_plain (Calls.spliced_cons (thn (he.run pins s1 σ H1 _ I1 q1) fun iv s2 ⟨y, H2, I2, ry, ov, g, q2⟩ => Calls.spliced_nil ?_)))
  exact g_get1 hu I2 g ry fun w' s3 I3 rw' => ⟨_, H2, I3, rw', q2⟩
theorem pe_g2 {o e f : Expr} {td ty tx : TE} {cpos : Pos} (hu : X.A.units + 1 < cLine) (ho : PE X o td) (he : PE X e ty) (hf : PE X f tx) (m : M2 X o "get" apos e f cpos) : PE X (.Call (.Attribute o "get" apos) [e, f] [] cpos) (tG2 td ty tx) := by
  refine ⟨fun pins s σ H Q I h => ?_⟩
  refine wpAny_Call_method m.base m.few m.line PySem.F.plainAttrs_dict PySem.F.slot_dict_get PySem.F.type_dict_get (thn (ho.run pins s σ H _ I h) fun u s1 ⟨x, H1, I1, rx, a, ex, d, q1⟩ => ?_)
  subst ex
  obtain rfl : u = Value.ref a := rx
  obtain ⟨t1, t2, _⟩ := isD_at I1 d
  refine ⟨t1, t2, ?_⟩
  rw [m.trees]
  refine Calls.callWith_builtin rfl (Calls.evalArgs_plain (Calls.spliced_cons (thn (he.run pins s1 σ H1 _ I1 q1) fun iv s2 ⟨y, H2, I2, ry, q2⟩ =>
    Calls.spliced_cons (thn (hf.run pins s2 σ H2 _ I2 q2) fun fv s3 ⟨z, H3, I3, rz, ov, g, q3⟩ => Calls.spliced_nil ?_))))
  exact g_get2 hu I3 g ry rz fun w' s4 I4 rw' => ⟨_, H3, I4, rw', q3⟩
theorem Vw.isD {H : Hp} {v : V} {d : D} (w : Vw CA H v d) (h : isD d = true) : ∃ p, v = .ref p ∧ IsD H p := by
  cases d <;> simp only [VL.isD] at h <;> first
    | (cases h; done)
    | skip
  obtain ⟨p, vs, u, rfl, _, hp, hk, _⟩ := w.kidD
  obtain ⟨_, hk⟩ := hk
  cases u <;> first
    | (exact hk.elim)
    | exact ⟨p, rfl, .inl ⟨_, hp⟩⟩
    | exact ⟨p, rfl, .inr ⟨_, hp⟩⟩
/-- the value that a dict has at a key, frozen -/
theorem get_read {H : Hp} {σ : L2.St} {ρ : Env} {L : List VD} {p : Addr} {vy vz : V} {it : Sum D Nat} {u yd zd r : D} (m : M CA H (tmp (.ref p) it ++ (envL σ ρ ++ L))) (lt : Late σ (.ref p) it) (e : look it ρ = some u) (wy : Vw CA H vy yd)
    (ez : getD u yd zd = .ok r) (dm : Dom σ ρ) : ∃ o, DG H p vy o ∧ ((∃ v, o = some v ∧ M CA H ((v, r) :: (envL σ ρ ++ L))) ∨ (o = none ∧ r = zd)) := by
  cases u <;> simp only [getD] at ez <;> first
    | (cases ez; done)
    | skip
  rename_i ow ks l
  obtain ⟨kd, e1, ez⟩ := Out.bind_eq ez
  obtain ⟨sk, ez⟩ := Out.guard_eq ez
  have w := opVw m lt dm e
  obtain ⟨p', vs, u', e0, hl, hp, hk, _⟩ := w.kidD
  cases e0
  refine ⟨_, dg_of hp hk (toKD_keyV wy (Out.of_eq e1)) sk, ?_⟩
  cases e2 : dget ks l kd with
  | none =>
    rw [e2] at ez
    cases ez
    refine .inr ⟨?_, rfl⟩
    have h1 := dget_isSome (ks := ks) (l := vs) (k := kd) hk.len
    have h2 := dget_isSome (ks := ks) (l := l) (k := kd) (by rw [hk.len, hl])
    rw [e2, ← h1] at h2
    cases e3 : dget ks vs kd with
    | none => rfl
    | some v => rw [e3] at h2; simp at h2
  | some d =>
    rw [e2] at ez
    obtain ⟨fd, ez⟩ := Out.guard_eq ez
    cases ez
    obtain ⟨j, hj, hd⟩ := dget_some e2
    -- its value, by way of the node
    have fin : ∃ v, (∃ vs', Kv CA H (.ref p) (.dct ow ks l) vs' ∧ vs'[j]? = some v) ∧ M CA H ((v, r) :: (envL σ ρ ++ L)) := by
      obtain ⟨v, h1, h2⟩ := opFrontE (α := V) (Φ := fun v => ∃ vs', Kv CA H (.ref p) (.dct ow ks l) vs' ∧ vs'[j]? = some v) (P := fun v => [(v, r)]) m lt e fun K mk => by
        obtain ⟨vs', vj, hv, kv, mm⟩ := mk.kid (show (kids (.dct ow ks l))[j]? = some r from hd)
        rw [frz_of r fd] at mm
        have es : setKid (.dct ow ks l) j r = .dct ow ks l := by simp only [setKid, set_same hd]
        rw [es] at mm
        exact ⟨vj, ⟨vs', kv, hv⟩, mm⟩
      exact ⟨v, h1, h2⟩
    obtain ⟨v, ⟨vs', ⟨hl', p2, u2, e4, hp2, hk2⟩, hv⟩, m2⟩ := fin
    cases e4
    refine .inl ⟨v, ?_, m2⟩
    -- the two looks at the cell are one
    have same : vs' = vs := by
      have hu : u2 = u' := by
        rcases hp2 with h1 | ⟨o1, h1⟩ <;> rcases hp with h2 | ⟨o2, h2⟩ <;> rw [h1] at h2 <;> first
          | (cases h2; rfl)
          | (cases h2; obtain ⟨_, hk2⟩ := hk2; exact hk2.elim)
          | (cases h2; obtain ⟨_, hk⟩ := hk; exact hk.elim)
      subst hu
      obtain ⟨_, hk⟩ := hk
      obtain ⟨_, hk2⟩ := hk2
      cases u2 <;> first
        | (exact hk.elim)
        | (exact hk2.2.symm.trans hk.2)
        | (exact hk2.2.1.symm.trans hk.2.1)
    subst same
    unfold dget
    rw [hj]; exact hv
def get1F (fa : EvN) (g : Ev) : Ev := fun ρ => (fa ρ).bind fun x => (Out.of (look x.1 x.2)).bind fun u0 => Out.guard (isD u0) ((g x.2).bind fun y => (Out.of (look x.1 y.2)).bind fun u => (getD u y.1 .non).bind fun r => .ok (r, y.2))
def get2F (fa : EvN) (g h : Ev) : Ev := fun ρ => (fa ρ).bind fun x => (Out.of (look x.1 x.2)).bind fun u0 => Out.guard (isD u0) ((g x.2).bind fun y => (h y.2).bind fun z => (Out.of (look x.1 z.2)).bind fun u => (getD u y.1 z.1).bind fun r => .ok (r, z.2))
theorem pe_get1D {cpos : Pos} (hr : Room k X.A) (ha : PE X a (tN CA fa)) (hb : PE X b (tE CA g)) (m : L2.M1 X a "get" apos b cpos) : PE X (.Call (.Attribute a "get" apos) [b] [] cpos) (tE CA (get1F fa g)) := (pe_g1 (hu_of hr) ha hb m).imp fun σ H Q ⟨ρ, L, dm, m, d, ρ', ev, q⟩ => by
  obtain ⟨x, e1, ev⟩ := Out.bind_eq ev
  obtain ⟨u0, e0, ev⟩ := Out.bind_eq ev
  obtain ⟨hd, ev⟩ := Out.guard_eq ev
  obtain ⟨y, e2, ev⟩ := Out.bind_eq ev
  obtain ⟨u, e3, ev⟩ := Out.bind_eq ev
  obtain ⟨r, e4, ev⟩ := Out.bind_eq ev
  cases ev
  refine ⟨ρ, L, dm, m, x.1, x.2, e1, fun vx H1 dm1 m1 lx => ?_⟩
  obtain ⟨p, rfl, hi⟩ := (opVw m1 lx dm1 (Out.of_eq e0)).isD hd
  refine ⟨p, rfl, hi, x.2, tmp (.ref p) x.1 ++ L, dm1, m1.perm (pswap _ _ _), y.1, y.2, e2, fun vy H2 dm2 m2 => ?_⟩
  have m3 : M CA H2 (tmp (.ref p) x.1 ++ (envL σ y.2 ++ L)) := m2.drop.perm (pswap _ _ _)
  obtain ⟨o, hg, hq⟩ := get_read (vz := .non) m3 lx (Out.of_eq e3) m2.vw e4 dm2
  refine ⟨o, hg, ?_⟩
  rcases hq with ⟨v, rfl, m4⟩ | ⟨rfl, rfl⟩
  · exact q _ _ dm2 m4
  · exact q _ _ dm2 (dropTmp m3).pNon
theorem pe_get2D {cpos : Pos} (hr : Room k X.A) (ha : PE X a (tN CA fa)) (hb : PE X b (tE CA g)) (hc : PE X c (tE CA h)) (m : M2 X a "get" apos b c cpos) : PE X (.Call (.Attribute a "get" apos) [b, c] [] cpos) (tE CA (get2F fa g h)) := (pe_g2 (hu_of hr) ha hb hc m).imp fun σ H Q ⟨ρ, L, dm, m, d, ρ', ev, q⟩ => by
  obtain ⟨x, e1, ev⟩ := Out.bind_eq ev
  obtain ⟨u0, e0, ev⟩ := Out.bind_eq ev
  obtain ⟨hd, ev⟩ := Out.guard_eq ev
  obtain ⟨y, e2, ev⟩ := Out.bind_eq ev
  obtain ⟨z, e5, ev⟩ := Out.bind_eq ev
  obtain ⟨u, e3, ev⟩ := Out.bind_eq ev
  obtain ⟨r, e4, ev⟩ := Out.bind_eq ev
  cases ev
  refine ⟨ρ, L, dm, m, x.1, x.2, e1, fun vx H1 dm1 m1 lx => ?_⟩
  obtain ⟨p, rfl, hi⟩ := (opVw m1 lx dm1 (Out.of_eq e0)).isD hd
  refine ⟨p, rfl, hi, x.2, tmp (.ref p) x.1 ++ L, dm1, m1.perm (pswap _ _ _), y.1, y.2, e2, fun vy H2 dm2 m2 => ⟨y.2, (vy, y.1) :: (tmp (.ref p) x.1 ++ L), dm2, m2.rot, z.1, z.2, e5, fun vz H3 dm3 m3 => ?_⟩⟩
  -- z, the slots, y, the dict
  have m4 : M CA H3 ((vy, y.1) :: ((vz, z.1) :: (envL σ z.2 ++ (tmp (.ref p) x.1 ++ L)))) := MR.unrot (K := (vz, z.1) :: envL σ z.2) m3
  have wy := m4.vw
  have m5 : M CA H3 (tmp (.ref p) x.1 ++ (envL σ z.2 ++ ((vz, z.1) :: L))) := by
    refine m4.drop.perm ?_
    refine List.Perm.trans ?_ (List.Perm.append_left _ List.perm_middle.symm)
    refine List.Perm.trans ?_ List.perm_middle.symm
    exact List.Perm.cons _ (pswap _ _ _)
  obtain ⟨o, hg, hq⟩ := get_read (vz := vz) m5 lx (Out.of_eq e3) wy e4 dm3
  refine ⟨o, hg, ?_⟩
  rcases hq with ⟨v, rfl, m6⟩ | ⟨rfl, rfl⟩
  · exact q _ _ dm3 (MR.drop ((MR.unrot (K := (v, d) :: envL σ z.2) m6)))
  · exact q _ _ dm3 (MR.unrot (dropTmp m5))
/-! ### texts -/
def m1F (f : M1) (g h : Ev) : Ev := fun ρ => (g ρ).bind fun x => (h x.2).bind fun y => (m1D f x.1 y.1).bind fun r => .ok (r, y.2)
theorem m1_read {f : M1} {r : V → List V → Hp → VK → Prop} {σ : L2.St} {H : Hp} {Q : VK} (str : ∀ u w d, m1D f u w = .ok d → ∃ x, u = .str x)
    (k : ∀ (x y : V) (H : Hp) (u w d : D) (Q : VK) (L : List VD), M CA H ((y, w) :: (L)) → Vw CA H x u → m1D f u w = .ok d → (∀ v H', M CA H' ((v, d) :: L) → Q v H') → r x [y] H Q)
    (t : tE CA (m1F f g h) σ H Q) : tM1 r (tE CA g) (tE CA h) σ H Q := by
  obtain ⟨ρ, L, dm, m, d, ρ', ev, q⟩ := t
  obtain ⟨x, e1, ev⟩ := Out.bind_eq ev
  obtain ⟨y, e2, ev⟩ := Out.bind_eq ev
  obtain ⟨r, e3, ev⟩ := Out.bind_eq ev
  cases ev
  refine ⟨ρ, L, dm, m, x.1, x.2, e1, fun vx H1 dm1 m1 => ?_⟩
  obtain ⟨z, ez⟩ := str _ _ _ e3
  obtain ⟨xd, ρ1⟩ := x
  simp only at ez
  subst ez
  have hx := m1.str
  subst hx
  refine ⟨⟨z, rfl⟩, ρ1, L, dm1, m1.drop, y.1, y.2, e2, fun vy H2 dm2 m2 => ?_⟩
  exact k _ vy H2 _ y.1 d Q (envL σ y.2 ++ L) m2 (MR.pStr m2.drop).vw e3 (fun v H' m' => q v H' dm2 m')
theorem m1_str {f : M1} {u w d : D} (e : m1D f u w = .ok d) : ∃ x, u = .str x := by
  cases u <;> first
    | exact ⟨_, rfl⟩
    | (cases f <;> simp [m1D] at e)
theorem pe_joinD (hr : Room k X.A) (ha : PE X a (tE CA g)) (hb : PE X b (tE CA h)) (hs : starEach [b] X.env = [(false, eval b X.env)]) (hbase : attributeBase a "join" X.env (eval a X.env) = eval a X.env) (hline : (apos.endLine == pos.line) = true) :
    PE X (.Call (.Attribute a "join" apos) [b] [] pos) (tE CA (m1F .join g h)) := (pe_join ha hb hs hbase hline).imp fun σ H Q t => m1_read (fun _ _ _ e => m1_str e) (fun x y H u w d Q L m wx e q => by
  obtain ⟨z, rfl⟩ := m1_str e
  cases w <;> simp only [m1D] at e <;> first
    | (cases e; done)
    | skip
  obtain ⟨xs, e1, e⟩ := Out.bind_eq e
  obtain ⟨h1, e⟩ := Out.guard_eq e
  cases e
  obtain ⟨p, vs, rfl, hl, hp, kd⟩ := m.vw.kidL
  have := strs_vals' hl kd (Out.of_eq e1)
  subst this
  exact ⟨z, p, xs, wx.str, rfl, .inl (.of hp), of_decide_eq_true h1, q _ _ m.drop.pStr⟩) t
theorem pe_indexD (ha : PE X a (tE CA g)) (hb : PE X b (tE CA h)) (hs : starEach [b] X.env = [(false, eval b X.env)]) (hbase : attributeBase a "index" X.env (eval a X.env) = eval a X.env) (hline : (apos.endLine == pos.line) = true) :
    PE X (.Call (.Attribute a "index" apos) [b] [] pos) (tE CA (m1F .index g h)) := (pe_m1 PySem.F.slot_str_index PySem.F.type_str_index mt_sindex ha hb hs hbase hline).imp fun σ H Q t => m1_read (fun _ _ _ e => m1_str e) (fun x y H u w d Q L m wx e q => by
  obtain ⟨z, rfl⟩ := m1_str e
  cases w <;> simp only [m1D] at e <;> first
    | (cases e; done)
    | skip
  split at e
  · rename_i i r e1
    cases e
    exact ⟨z, _, i, r, wx.str, by rw [m.str], e1, q _ _ m.drop.pInt⟩
  · cases e) t
end
end VL
/-! VL part 13: calls of the text's own defs -/
namespace VL
open PySem PySem.Spec L2
abbrev EvA := Env → Out (List (Sum D Nat) × Env)
def tmps : List V → List (Sum D Nat) → List VD
  | v :: vs, it :: its => tmp v it ++ tmps vs its
  | _, _ => []
def ArOk (σ : L2.St) : List V → List (Sum D Nat) → Prop
  | [], [] => True
  | v :: vs, it :: its => Late σ v it ∧ ArOk σ vs its
  | _, _ => False
section
variable (CA : Ct)
def tA (f : EvA) : TA := fun σ H Q => ∃ ρ L, Dom σ ρ ∧ M CA H (envL σ ρ ++ L) ∧ ∃ its ρ', f ρ = .ok (its, ρ') ∧ ∀ vs H', Dom σ ρ' → ArOk σ vs its → M CA H' (tmps vs its ++ (envL σ ρ' ++ L)) → Q vs H'
end
def zipO : List V → List (Option D) → List VD
  | v :: vs, some d :: ds => (v, d) :: zipO vs ds
  | _ :: vs, none :: ds => zipO vs ds
  | _, _ => []
/-- the promise of a def: what its data function gives -/
def spF (CA : Ct) (F : Sem') : Sp := fun vs H Q _ => ∃ ds L, vs.length = ds.length ∧ M CA H (vs.zip ds ++ L) ∧ ∃ d fin, F ds = .ok (d, fin) ∧ ∀ v H', M CA H' ((v, d) :: (zipO vs fin ++ L)) → Q v H'
section
variable {X : Cx} {CA : Ct} {e a b c : Expr} {es : List Expr} {pos p : Pos} {f g h : Ev} {fa : EvN} {fr : EvA} {k : Nat}
def nilA : EvA := fun ρ => .ok ([], ρ)
def consA (fa : EvN) (fr : EvA) : EvA := fun ρ => (fa ρ).bind fun x => (fr x.2).bind fun y => .ok (x.1 :: y.1, y.2)
theorem pa_nilA : PA X [] (tA CA nilA) := pa_nil.imp fun σ H Q ⟨ρ, L, dm, m, its, ρ', ev, q⟩ => by
  cases ev; exact q [] H dm trivial m
theorem pa_consA (ha : PE X e (tN CA fa)) (hr : PA X es (tA CA fr)) (hs : starEach (e :: es) X.env = (false, eval e X.env) :: starEach es X.env) : PA X (e :: es) (tA CA (consA fa fr)) := (pa_cons ha hr hs).imp fun σ H Q ⟨ρ, L, dm, m, its, ρ', ev, q⟩ => by
  obtain ⟨x, e1, ev⟩ := Out.bind_eq ev
  obtain ⟨y, e2, ev⟩ := Out.bind_eq ev
  cases ev
  refine ⟨ρ, L, dm, m, x.1, x.2, e1, fun v H1 dm1 m1 lx => ⟨x.2, tmp v x.1 ++ L, dm1, m1.perm (pswap _ _ _), y.1, y.2, e2, fun vs H2 dm2 ar m2 => ?_⟩⟩
  refine q (v :: vs) H2 dm2 ⟨lx, ar⟩ ?_
  show M CA H2 ((tmp v x.1 ++ tmps vs y.1) ++ (envL σ y.2 ++ L))
  refine m2.perm ?_
  rw [List.append_assoc]
  exact ((pswap (envL σ y.2) (tmp v x.1) L).append_left _).trans (pswap _ _ _)
theorem pull_ok {H : Hp} {σ : L2.St} : ∀ {its : List (Sum D Nat)} {vs : List V} {ρ ρ' : Env} {ds : List D} {L : List VD}, ArOk σ vs its → Dom σ ρ → M CA H (tmps vs its ++ (envL σ ρ ++ L)) → pull its ρ = .ok (ds, ρ') →
    vs.length = ds.length ∧ Dom σ ρ' ∧ M CA H (vs.zip ds ++ (envL σ ρ' ++ L))
  | [], vs, ρ, ρ', ds, L, ar, dm, m, ev => by
    cases vs with
    | nil => cases ev; exact ⟨rfl, dm, m⟩
    | cons _ _ => exact ar.elim
  | .inl d :: r, vs, ρ, ρ', ds, L, ar, dm, m, ev => by
    cases vs with
    | nil => exact ar.elim
    | cons v vs =>
      obtain ⟨q, e1, ev⟩ := Out.bind_eq ev
      cases ev
      have m1 : M CA H (tmps vs r ++ (envL σ ρ ++ ((v, d) :: L))) := by
        have m1 : M CA H ((v, d) :: (tmps vs r ++ (envL σ ρ ++ L))) := m
        refine m1.perm ?_
        refine List.Perm.trans ?_ (List.Perm.append_left _ List.perm_middle.symm)
        exact List.perm_middle.symm
      obtain ⟨h1, h2, h3⟩ := pull_ok ar.2 dm m1 e1
      refine ⟨by simp [h1], h2, ?_⟩
      show M CA H ((v, d) :: (vs.zip q.1 ++ (envL σ q.2 ++ L)))
      refine h3.perm ?_
      refine List.Perm.trans (List.Perm.append_left _ List.perm_middle) ?_
      exact List.perm_middle
  | .inr i :: r, vs, ρ, ρ', ds, L, ar, dm, m, ev => by
    cases vs with
    | nil => exact ar.elim
    | cons v vs =>
      obtain ⟨d, e0, ev⟩ := Out.bind_eq ev
      have e0 := Out.of_eq e0
      have hv : σ[i]? = some (some v) := ar.1 i rfl
      have m0 : M CA H (tmps vs r ++ (envL σ ρ ++ L)) := m
      have m1 : M CA H (envL σ ρ ++ (tmps vs r ++ L)) := m0.perm (pswap _ _ _)
      have m2 := MR.front m1 hv e0
      by_cases hf : fzd d = true
      · rw [if_pos hf] at ev
        obtain ⟨q, e1, ev⟩ := Out.bind_eq ev
        cases ev
        have m3 : M CA H ((v, d) :: (envL σ (ρ.set i none) ++ ((v, d) :: (tmps vs r ++ L)))) := (m2.copy hf).perm (List.Perm.cons _ List.perm_middle.symm)
        have m4 := MR.back0 m3 hv e0
        have m5 : M CA H (tmps vs r ++ (envL σ ρ ++ ((v, d) :: L))) := by
          refine m4.perm ?_
          refine List.Perm.trans ?_ (pswap _ _ _)
          exact List.Perm.append_left _ List.perm_middle.symm
        obtain ⟨h1, h2, h3⟩ := pull_ok ar.2 dm m5 e1
        refine ⟨by simp [h1], h2, ?_⟩
        show M CA H ((v, d) :: (vs.zip q.1 ++ (envL σ q.2 ++ L)))
        refine h3.perm ?_
        refine List.Perm.trans (List.Perm.append_left _ List.perm_middle) ?_
        exact List.perm_middle
      · rw [if_neg hf] at ev
        obtain ⟨q, e1, ev⟩ := Out.bind_eq ev
        cases ev
        have m5 : M CA H (tmps vs r ++ (envL σ (ρ.set i none) ++ ((v, d) :: L))) := by
          refine m2.perm ?_
          have p1 : ((v, d) :: (envL σ (ρ.set i none) ++ (tmps vs r ++ L))).Perm ((v, d) :: (tmps vs r ++ (envL σ (ρ.set i none) ++ L))) := (pswap _ _ _).cons _
          refine p1.trans ?_
          refine List.Perm.trans List.perm_middle.symm ?_
          exact List.Perm.append_left _ List.perm_middle.symm
        obtain ⟨h1, h2, h3⟩ := pull_ok ar.2 dm.none m5 e1
        refine ⟨by simp [h1], h2, ?_⟩
        show M CA H ((v, d) :: (vs.zip q.1 ++ (envL σ q.2 ++ L)))
        refine h3.perm ?_
        refine List.Perm.trans (List.Perm.append_left _ List.perm_middle) ?_
        exact List.perm_middle
theorem push_len : ∀ {its : List (Sum D Nat)} {ds : List D} {fin : List (Option D)} {ρ : Env}, (push its ds fin ρ).length = ρ.length
  | [], _, _, _ => by simp [push]
  | .inl _ :: r, [], _, _ => by simp [push]
  | .inl _ :: r, _ :: _, [], _ => by simp [push]
  | .inl _ :: r, _ :: ds, _ :: fs, ρ => by simp only [push]; exact push_len
  | .inr _ :: r, [], _, _ => by simp [push]
  | .inr _ :: r, _ :: _, [], _ => by simp [push]
  | .inr i :: r, d :: ds, f :: fs, ρ => by
    simp only [push]
    split
    · exact push_len
    · rw [push_len, List.length_set]
theorem push_ok {H : Hp} {σ : L2.St} : ∀ {its : List (Sum D Nat)} {vs : List V} {ρ : Env} {ds : List D} {fin : List (Option D)} {L : List VD}, ArOk σ vs its → Dom σ ρ → M CA H (zipO vs fin ++ (envL σ ρ ++ L)) →
    Dom σ (push its ds fin ρ) ∧ M CA H (envL σ (push its ds fin ρ) ++ L)
  | [], vs, ρ, ds, fin, L, ar, dm, m => by
    simp only [push]
    exact ⟨dm, m.dropL⟩
  | .inl d :: r, vs, ρ, [], fin, L, ar, dm, m => by simp only [push]; exact ⟨dm, m.dropL⟩
  | .inl d :: r, vs, ρ, _ :: ds, [], L, ar, dm, m => by simp only [push]; exact ⟨dm, m.dropL⟩
  | .inl d :: r, vs, ρ, d0 :: ds, f :: fs, L, ar, dm, m => by
    cases vs with
    | nil => exact ar.elim
    | cons v vs =>
      simp only [push]
      refine push_ok ar.2 dm ?_
      cases f with
      | none => exact m
      | some _ => exact MR.drop m
  | .inr i :: r, vs, ρ, [], fin, L, ar, dm, m => by simp only [push]; exact ⟨dm, m.dropL⟩
  | .inr i :: r, vs, ρ, _ :: ds, [], L, ar, dm, m => by simp only [push]; exact ⟨dm, m.dropL⟩
  | .inr i :: r, vs, ρ, d0 :: ds, f :: fs, L, ar, dm, m => by
    cases vs with
    | nil => exact ar.elim
    | cons v vs =>
      have hv : σ[i]? = some (some v) := ar.1 i rfl
      simp only [push]
      by_cases hf : fzd d0 = true
      · rw [if_pos hf]
        refine push_ok ar.2 dm ?_
        cases f with
        | none => exact m
        | some _ => exact MR.drop m
      · rw [if_neg hf]
        refine push_ok ar.2 (dm.put hv) ?_
        have hl : i < ρ.length := by rw [dm.1]; exact (List.getElem?_eq_some_iff.mp hv).1
        cases f with
        | none =>
          have m0 : M CA H (zipO vs fs ++ (envL σ ρ ++ L)) := m
          have m1 : M CA H (envL σ ρ ++ (zipO vs fs ++ L)) := m0.perm (pswap _ _ _)
          exact (m1.dropSlot (i := i) dm).perm (pswap _ _ _)
        | some d1 =>
          have m0 : M CA H ((v, d1) :: (zipO vs fs ++ (envL σ ρ ++ L))) := m
          have m1 : M CA H (envL σ ρ ++ ((v, d1) :: (zipO vs fs ++ L))) := by
            refine m0.perm ?_
            refine List.Perm.trans ?_ List.perm_middle.symm
            exact (pswap _ _ _).cons _
          have m2 := m1.dropSlot (i := i) dm
          have m3 : M CA H ((v, d1) :: (envL σ (ρ.set i none) ++ (zipO vs fs ++ L))) := m2.perm List.perm_middle
          exact (MR.back m3 hv hl).perm (pswap _ _ _)
/-- a def at hand -/
structure HasFn (X : Cx) (CA : Ct) (k : Nat) (x : Str) (F : Sem') : Prop where
  ex : ∃ f fd ps, FnOk X.prog X.w X.K X.mg X.base CX0 k f fd ps (spF CA F) ∧ X.mg x = some (.ref f) ∧ PySem.W.keepIn X.K (.ref f) = true ∧ Binds X.K fd ps []
def callF (F : Sem') (fr : EvA) : Ev := fun ρ => (fr ρ).bind fun x => applyF F x.1 x.2
theorem call_read {F : Sem'} {σ : L2.St} {H : Hp} {Q : VK} (t : tE CA (callF F fr) σ H Q) : tCall (spF CA F) [] E0 (tA CA fr) σ H Q := by
  obtain ⟨ρ, L, dm, m, d, ρ', ev, q⟩ := t
  obtain ⟨x, e1, ev⟩ := Out.bind_eq ev
  obtain ⟨y, e2, ev⟩ := Out.bind_eq ev
  obtain ⟨r, e3, ev⟩ := Out.bind_eq ev
  cases ev
  refine ⟨ρ, L, dm, m, x.1, x.2, e1, fun vs H' dm' ar m' => ?_⟩
  obtain ⟨h1, h2, h3⟩ := pull_ok ar dm' m' e2
  rw [List.append_nil]
  refine ⟨y.1, envL σ y.2 ++ L, h1, h3, r.1, r.2, e3, fun v H2 m2 => ?_⟩
  have m3 : M CA H2 (zipO vs r.2 ++ (envL σ y.2 ++ ((v, r.1) :: L))) := by
    refine m2.perm ?_
    refine List.Perm.trans List.perm_middle.symm ?_
    exact List.Perm.append_left _ List.perm_middle.symm
  obtain ⟨h4, h5⟩ := push_ok (its := x.1) (ds := y.1) ar h2 m3
  exact q _ _ h4 (MR.unrot h5)
theorem pe_callD {x : Str} {F : Sem'} (hF : HasFn X CA k x F) (hr : Room k X.A) (hg : Gl X x) (ha : PA X (e :: es) (tA CA fr)) (hdb : (x == ("__debug__" : Str)) = false) (he : starEach (e :: es) X.env = (false, eval e X.env) :: starEach es X.env) (hpl : (backTo pos (starEach es X.env)).any (·.1) = false) :
    PE X (.Call (.Name x p) (e :: es) [] pos) (tE CA (callF F fr)) := by
  obtain ⟨f, fd, ps, h1, h2, h3, h4⟩ := hF.ex
  exact (pe_call h1 hr hg h2 h3 h4 .nil pass0 ha hdb he hpl).imp fun σ H Q t => call_read t
end
end VL
/-! VL part 14: what a loop walks -/
namespace VL
open PySem PySem.Spec L2
/-- J walks the data ds; what it leans on: the entries S, or the slot told by ch -/
structure Walks (CA : Ct) (σ0 : L2.St) (J : L2.It) (ds : List D) (ch : Option (Nat × D)) (S : List VD) : Prop where
  go : ∀ (i : Nat) (σ : L2.St) (ρ : Env) (L : List VD) (H : Hp), M CA H (envL σ ρ ++ (S ++ L)) → (∀ j d, ch = some (j, d) → getv ρ j = some d ∧ σ[j]? = σ0[j]?) → i < ds.length → J.go i H
  stop : ∀ (i : Nat) (σ : L2.St) (ρ : Env) (L : List VD) (H : Hp), M CA H (envL σ ρ ++ (S ++ L)) → (∀ j d, ch = some (j, d) → getv ρ j = some d ∧ σ[j]? = σ0[j]?) → ds.length ≤ i → J.stop i H
  yld : ∀ (i : Nat) (σ : L2.St) (ρ : Env) (L : List VD) (H : Hp) (d : D) (x : V) (H' : Hp), M CA H (envL σ ρ ++ (S ++ L)) → (∀ j d, ch = some (j, d) → getv ρ j = some d ∧ σ[j]? = σ0[j]?) → ds[i]? = some d → J.yld i H x H' → M CA H' ((x, d) :: (envL σ ρ ++ (S ++ L)))
abbrev EvW := Env → Out (Wk × Env)
def tW (CA : Ct) (f : EvW) : TI := fun σ H R => ∃ ρ L, Dom σ ρ ∧ M CA H (envL σ ρ ++ L) ∧ ∃ w ρ', f ρ = .ok (w, ρ') ∧ (∀ j d, w.2 = some (j, d) → getv ρ' j = some d) ∧ ∀ J S H', Dom σ ρ' → Walks CA σ J w.1 w.2 S → M CA H' (envL σ ρ' ++ (S ++ L)) → R J H'
theorem _root_.L2.PI.imp {X : Cx} {tg e : Expr} {t t' : TI} (h : PI X tg e t) (i : ∀ σ H R, t' σ H R → t σ H R) : PI X tg e t' := ⟨fun pins s σ H R I q => h.run pins s σ H R I (i σ H R q)⟩
theorem _root_.L2.PI.or {X : Cx} {tg e : Expr} {t t' : TI} (h : PI X tg e t) (h' : PI X tg e t') : PI X tg e (fun σ H Q => t σ H Q ∨ t' σ H Q) := ⟨fun pins s σ H Q I q => q.elim (h.run pins s σ H Q I) (h'.run pins s σ H Q I)⟩
section
variable {X : Cx} {CA : Ct} {tg e a b c : Expr} {pos p : Pos} {f g h : Ev} {fa : EvN} {k : Nat}
/-- a frozen list in the entries -/
theorem walks_list {σ0 : L2.St} {p : Addr} {l : List D} : Walks CA σ0 (Itl X.K p) l none [(.ref p, .lst false l)] where
  go := fun i σ ρ L H m _ hi => by
    obtain ⟨p', vs, e, hl, hp, _⟩ := (MR.unrot (K := envL σ ρ) m).itemsF
    cases e
    exact ⟨vs, vs[i]'(by omega), .of hp, List.getElem?_eq_getElem (by omega)⟩
  stop := fun i σ ρ L H m _ hi => by
    obtain ⟨p', vs, e, hl, hp, _⟩ := (MR.unrot (K := envL σ ρ) m).itemsF
    cases e
    exact ⟨vs, .of hp, by omega⟩
  yld := fun i σ ρ L H d x H' m _ hd y => by
    obtain ⟨rfl, y⟩ := y
    obtain ⟨p', vs, e, hl, hp, m1⟩ := (MR.unrot (K := envL σ ρ) m).itemsF
    cases e
    have hx := y vs (.of hp)
    have m2 := m1.pick hx hd
    exact m2.perm (List.Perm.cons _ List.perm_middle.symm)
theorem walks_tup {σ0 : L2.St} {p : Addr} {l : List D} (f : fzdL l = true) : Walks CA σ0 (Itt X.K p) l none [(.ref p, .tup l)] where
  go := fun i σ ρ L H m _ hi => by
    obtain ⟨p', vs, e, hl, hp, _⟩ := (MR.unrot (K := envL σ ρ) m).itemsT f
    cases e
    exact ⟨vs, vs[i]'(by omega), .of hp, List.getElem?_eq_getElem (by omega)⟩
  stop := fun i σ ρ L H m _ hi => by
    obtain ⟨p', vs, e, hl, hp, _⟩ := (MR.unrot (K := envL σ ρ) m).itemsT f
    cases e
    exact ⟨vs, .of hp, by omega⟩
  yld := fun i σ ρ L H d x H' m _ hd y => by
    obtain ⟨rfl, y⟩ := y
    obtain ⟨p', vs, e, hl, hp, m1⟩ := (MR.unrot (K := envL σ ρ) m).itemsT f
    cases e
    have hx := y vs (.of hp)
    have m2 := m1.pick hx hd
    exact m2.perm (List.Perm.cons _ List.perm_middle.symm)
/-- a slot's own list, where it stands -/
theorem walks_slot {σ0 : L2.St} {p : Addr} {l : List D} {j : Nat} (hv : σ0[j]? = some (some (.ref p))) (f : fzdL l = true) : Walks CA σ0 (Itl X.K p) l (some (j, .lst true l)) [] where
  go := fun i σ ρ L H m ch hi => by
    obtain ⟨h1, h2⟩ := ch j _ rfl
    obtain ⟨p', vs, e, hl, hp⟩ := (MR.front m (h2.trans hv) h1).readL
    cases e
    exact ⟨vs, vs[i]'(by omega), .of hp, List.getElem?_eq_getElem (by omega)⟩
  stop := fun i σ ρ L H m ch hi => by
    obtain ⟨h1, h2⟩ := ch j _ rfl
    obtain ⟨p', vs, e, hl, hp⟩ := (MR.front m (h2.trans hv) h1).readL
    cases e
    exact ⟨vs, .of hp, by omega⟩
  yld := fun i σ ρ L H d x H' m ch hd y => by
    obtain ⟨rfl, y⟩ := y
    obtain ⟨h1, h2⟩ := ch j _ rfl
    have hv' := h2.trans hv
    obtain ⟨p', vs, e, hl, hp, m1⟩ := (MR.front m hv' h1).itemsL f
    cases e
    have hx := y vs (.of hp)
    have m2 := m1.pick hx hd
    -- (x, d), the list, the slots
    have m3 : M CA H' ((V.ref p, D.lst true l) :: (envL σ (ρ.set j none) ++ ((x, d) :: ([] ++ L)))) := (m2.perm (.swap _ _ _)).perm (List.Perm.cons _ List.perm_middle.symm)
    exact (MR.back0 m3 hv' h1).unrot
theorem walks_str {σ0 : L2.St} {z : Str} : Walks CA σ0 (Its z) (z.cps.toList.map fun c => .str ⟨#[c]⟩) none [] where
  go := fun i σ ρ L H m _ hi => by
    show i < z.cps.size
    simpa using hi
  stop := fun i σ ρ L H m _ hi => by
    show z.cps.size ≤ i
    simpa using hi
  yld := fun i σ ρ L H d x H' m _ hd y => by
    obtain ⟨rfl, c, hc, rfl⟩ := y
    have hd' : d = .str ⟨#[c]⟩ := by
      rw [List.getElem?_map, Array.getElem?_toList, hc] at hd
      simpa using hd.symm
    subst hd'
    exact m.pStr
theorem walks_rng {σ0 : L2.St} {n : Nat} : Walks CA σ0 (Itr 0 n) ((List.range n).map fun (i : Nat) => .int i) none [] where
  go := fun i σ ρ L H m _ hi => by
    show i < n
    simpa using hi
  stop := fun i σ ρ L H m _ hi => by
    show n ≤ i
    simpa using hi
  yld := fun i σ ρ L H d x H' m _ hd y => by
    obtain ⟨rfl, rfl⟩ := y
    have hd' : d = .int (0 + i) := by
      rw [List.getElem?_map] at hd
      cases e : (List.range n)[i]? with
      | none => rw [e] at hd; cases hd
      | some q =>
        rw [e] at hd
        have hi : i < n := by have := (List.getElem?_eq_some_iff.mp e).1; simpa using this
        rw [List.getElem?_range hi] at e
        cases e
        simp at hd ⊢
        exact hd.symm
    subst hd'
    exact m.pInt
/-! ### sources -/
def seqF' (g : Ev) : EvW := fun ρ => (g ρ).bind fun x => (seqsD (frz x.1)).bind fun l => .ok ((l, none), x.2)
def iSeq (K : PySem.W.Frag) (tl : TE) : TI := fun σ H R => iList K tl σ H R ∨ (iTup K tl σ H R ∨ iStr tl σ H R)
theorem pi_seq {e : Expr} {tl : TE} (h : PE X e tl) : PI X tg e (iSeq X.K tl) := (pi_list h).or ((pi_tup h).or (pi_str h))
/-- a value of its own is walked: frozen -/
theorem pi_seqD {e : Expr} (h : PE X e (tE CA g)) : PI X tg e (tW CA (seqF' g)) := (pi_seq h).imp fun σ H R ⟨ρ, L, dm, m, w, ρ', ev, ch, q⟩ => by
  obtain ⟨x, e1, ev⟩ := Out.bind_eq ev
  obtain ⟨l, e2, ev⟩ := Out.bind_eq ev
  cases ev
  obtain ⟨d, ρ1⟩ := x
  cases d with
  | lst o l0 =>
    simp only [frz, seqsD] at e2
    cases e2
    refine .inl ⟨ρ, L, dm, m, _, _, e1, fun v H' dm' m' => ?_⟩
    have m2 := m'.freeze
    obtain ⟨p, vs, rfl, hl, hp⟩ := m2.readL
    exact ⟨p, rfl, ⟨vs, .of hp⟩, q (Itl X.K p) [(.ref p, .lst false (frzL l0))] H' dm' walks_list m2.rot⟩
  | tup l0 =>
    simp only [frz, seqsD] at e2
    cases e2
    refine .inr (.inl ⟨ρ, L, dm, m, _, _, e1, fun v H' dm' m' => ?_⟩)
    have m2 := m'.freeze
    simp only [frz] at m2
    obtain ⟨p, vs, rfl, hl, hp, _⟩ := m2.openT
    exact ⟨p, rfl, ⟨vs, .of hp⟩, q (Itt X.K p) [(.ref p, .tup (frzL l0))] H' dm' (walks_tup (fzdL_frzL l0)) m2.rot⟩
  | str z =>
    simp only [frz, seqsD] at e2
    cases e2
    refine .inr (.inr ⟨ρ, L, dm, m, _, _, e1, fun v H' dm' m' => ⟨z, m'.str, q (Its z) [] H' dm' walks_str m'.drop⟩⟩)
  | _ => simp [frz, seqsD] at e2
/-- a name is walked where it stands -/
def slotF' (i : Nat) : EvW := slotW i
theorem MR.freezeL {H : Hp} {R : List Addr} {L : List VD} {v : V} {l : List D} (m : MR CA H R ((v, .lst true l) :: L)) : MR CA H R ((v, .lst true (frzL l)) :: L) := by
  obtain ⟨p, vs, rfl, hl, hp, m1⟩ := m.openL
  have all : ∀ {vs : List V} {l : List D} {R : List Addr} {L : List VD}, vs.length = l.length → MR CA H R (vs.zip l ++ L) → MR CA H R (vs.zip (frzL l) ++ L) := by
    intro vs
    induction vs with
    | nil => intro l R L hl m; cases l with
      | nil => exact m
      | cons _ _ => simp at hl
    | cons v vs ih =>
      intro l R L hl m
      cases l with
      | nil => simp at hl
      | cons d l =>
        have m1 : MR CA H R ((v, frz d) :: (vs.zip l ++ L)) := MR.freeze (v := v) (d := d) m
        have m2 : MR CA H R (vs.zip l ++ ((v, frz d) :: L)) := m1.rot
        have m3 := ih (by simpa using hl) m2
        simp only [frzL, List.zip_cons_cons]
        exact m3.unrot
  exact (all hl m1).closeL0 (by rw [frzL_length]; exact hl) hp
theorem pi_slotD {e : Expr} {i : Nat} (h : PE X e (tVar i)) : PI X tg e (tW CA (slotF' i)) := (pi_seq h).imp fun σ H R ⟨ρ, L, dm, m, w, ρ', ev, ch, q⟩ => by
  obtain ⟨d, e1, ev⟩ := Out.bind_eq ev
  have e1 := Out.of_eq e1
  obtain ⟨v, hv⟩ := dm.2 i d e1
  have m1 := MR.front m hv e1
  cases d with
  | lst o l =>
    cases o with
    | true =>
      cases ev
      have m2 := m1.freezeL
      obtain ⟨p, vs, rfl, hl, hp⟩ := m2.readL
      exact .inl ⟨.ref p, hv, p, rfl, ⟨vs, .of hp⟩, q (Itl X.K p) [] H (dm.put hv) (walks_slot hv (fzdL_frzL l)) (MR.back m2 hv (getv_lt e1))⟩
    | false =>
      cases ev
      obtain ⟨p, vs, rfl, hl, hp⟩ := m1.readL
      have m2 := m1.copy (show fzd (.lst false l) = true by simp only [fzd, m1.fzL]; rfl)
      have m3 : M CA H ((V.ref p, D.lst false l) :: (envL σ (ρ.set i none) ++ ((V.ref p, D.lst false l) :: L))) := m2.perm (List.Perm.cons _ List.perm_middle.symm)
      exact .inl ⟨.ref p, hv, p, rfl, ⟨vs, .of hp⟩, q (Itl X.K p) [(.ref p, .lst false l)] H dm walks_list (MR.back0 m3 hv e1)⟩
  | tup l =>
    obtain ⟨hf, ev⟩ := Out.guard_eq ev
    cases ev
    obtain ⟨p, vs, rfl, hl, hp, _⟩ := m1.openT
    have m2 := m1.copy (show fzd (.tup l) = true by simp only [fzd]; exact hf)
    have m3 : M CA H ((V.ref p, D.tup l) :: (envL σ (ρ.set i none) ++ ((V.ref p, D.tup l) :: L))) := m2.perm (List.Perm.cons _ List.perm_middle.symm)
    exact .inr (.inl ⟨.ref p, hv, p, rfl, ⟨vs, .of hp⟩, q (Itt X.K p) [(.ref p, .tup l)] H dm (walks_tup hf) (MR.back0 m3 hv e1)⟩)
  | str z =>
    cases ev
    exact .inr (.inr ⟨v, hv, z, m1.str, q (Its z) [] H dm walks_str m⟩)
  | _ => cases ev
/-- range(n) -/
def rngF (g : Ev) : EvW := fun ρ => (g ρ).bind fun x => itRng x.1 x.2
theorem pi_rngD (hg : Gl X "range") (hm : X.mg "range" = none) (ha : PE X a (tE CA g)) (hs : starEach [a] X.env = [(false, eval a X.env)]) (hs' : starEach [a] X.env = (false, eval a X.env) :: starEach [] X.env) : PI X tg (.Call (.Name "range" p) [a] [] pos) (tW CA (rngF g)) :=
  (pi_range1 hg hm (pa_cons ha pa_nil hs') hs).imp fun σ H R ⟨ρ, L, dm, m, w, ρ', ev, ch, q⟩ => by
  obtain ⟨x, e1, ev⟩ := Out.bind_eq ev
  obtain ⟨j, e2, ev⟩ := Out.bind_eq ev
  obtain ⟨hj, ev⟩ := Out.guard_eq ev
  cases ev
  obtain ⟨d, ρ1⟩ := x
  refine ⟨ρ, L, dm, m, d, ρ1, e1, fun v H' dm' m' => ?_⟩
  cases d <;> simp only [num] at e2 <;> first
    | (cases e2; done)
    | skip
  cases e2
  have hj := of_decide_eq_true hj
  exact ⟨j, by rw [m'.int], hj.1, hj.2, q (Itr 0 j.toNat) [] H' dm' walks_rng m'.drop⟩
end
end VL
/-! VL part 15: targets and statements -/
namespace VL
open PySem PySem.Spec L2
/-- slots but those of the list as they were -/
def Agr (sl : List Nat) (σ σ' : L2.St) : Prop := σ'.length = σ.length ∧ ∀ j, j ∉ sl → σ'[j]? = σ[j]?
theorem Agr.refl {sl : List Nat} {σ : L2.St} : Agr sl σ σ := ⟨rfl, fun _ _ => rfl⟩
theorem Agr.trans {a b c : List Nat} {σ σ1 σ2 : L2.St} (h : Agr a σ σ1) (h' : Agr b σ1 σ2) (ha : ∀ j ∈ a, j ∈ c) (hb : ∀ j ∈ b, j ∈ c) : Agr c σ σ2 :=
  ⟨h'.1.trans h.1, fun j hj => (h'.2 j fun z => hj (hb j z)).trans (h.2 j fun z => hj (ha j z))⟩
theorem Agr.mono {a c : List Nat} {σ σ1 : L2.St} (h : Agr a σ σ1) (ha : ∀ j ∈ a, j ∈ c) : Agr c σ σ1 := ⟨h.1, fun j hj => h.2 j fun z => hj (ha j z)⟩
theorem Agr.set {sl : List Nat} {σ : L2.St} {i : Nat} {v : Option V} (h : i ∈ sl) : Agr sl σ (σ.set i v) := ⟨by simp, fun j hj => List.getElem?_set_ne fun e => hj (by rw [← e]; exact h)⟩
section
variable (CA : Ct)
def tG (g : Tg) : TG := fun v σ H Q => ∃ d ρ L, Dom σ ρ ∧ M CA H ((v, d) :: (envL σ ρ ++ L)) ∧ ∃ ρ1, asgT g d ρ = .ok ρ1 ∧ ∀ σ', Agr g.slots σ σ' → Dom σ' ρ1 → M CA H (envL σ' ρ1 ++ L) → Q σ' H
def tGs (is : List Nat) : TGs := fun vs σ H Q => ∃ ds ρ L, vs.length = ds.length ∧ Dom σ ρ ∧ M CA H (vs.zip ds ++ (envL σ ρ ++ L)) ∧ ∃ ρ1, asgL is ds ρ = .ok ρ1 ∧ ∀ σ', Agr is σ σ' → Dom σ' ρ1 → M CA H (envL σ' ρ1 ++ L) → Q σ' H
/-- a statement, a block: what its data function gives -/
def tS (sl : List Nat) (f : Env → Out Fl) : TS := fun D σ H => ∃ ρ L, Dom σ ρ ∧ M CA H (envL σ ρ ++ L) ∧ ∃ fl, f ρ = .ok fl ∧ match fl with
  | .nx ρ' => ∀ σ' H', Agr sl σ σ' → Dom σ' ρ' → M CA H' (envL σ' ρ' ++ L) → D.nx σ' H'
  | .rt d ρ' => ∀ v σ' H', Agr sl σ σ' → Dom σ' ρ' → M CA H' ((v, d) :: (envL σ' ρ' ++ L)) → D.rt v H'
end
theorem _root_.L2.PG.imp {X : Cx} {e : Expr} {t t' : TG} (h : PG X e t) (i : ∀ v σ H Q, t' v σ H Q → t v σ H Q) : PG X e t' := ⟨fun pins s σ H v u Q I r q => h.run pins s σ H v u Q I r (i v σ H Q q)⟩
theorem _root_.L2.PG.or {X : Cx} {e : Expr} {t t' : TG} (h : PG X e t) (h' : PG X e t') : PG X e (fun v σ H Q => t v σ H Q ∨ t' v σ H Q) := ⟨fun pins s σ H v u Q I r q => q.elim (h.run pins s σ H v u Q I r) (h'.run pins s σ H v u Q I r)⟩
theorem _root_.L2.PGs.imp {X : Cx} {e : List Expr} {t t' : TGs} (h : PGs X e t) (i : ∀ v σ H Q, t' v σ H Q → t v σ H Q) : PGs X e t' := ⟨fun pins s σ H v u Q I r q => h.run pins s σ H v u Q I r (i v σ H Q q)⟩
theorem _root_.L2.PS.imp {X : Cx} {e : Stmt} {t t' : TS} (h : PS X e t) (i : ∀ D σ H, t' D σ H → t D σ H) : PS X e t' := ⟨fun pins s σ H D I q => h.run pins s σ H D I (i D σ H q)⟩
theorem _root_.L2.PSs.imp {X : Cx} {e : List Stmt} {t t' : TS} (h : PSs X e t) (i : ∀ D σ H, t' D σ H → t D σ H) : PSs X e t' := ⟨fun pins s σ H D I q => h.run pins s σ H D I (i D σ H q)⟩
section
variable {X : Cx} {CA : Ct} {tg e a b c value : Expr} {es : List Expr} {pos p apos cpos : Pos} {f g h : Ev} {fa : EvN} {k i : Nat} {x : Str} {sl sl' : List Nat} {fb fb' : Env → Out Fl} {st : Stmt} {sts sts' : List Stmt}
/-! ### targets -/
theorem setv_ok {ρ ρ1 : Env} {i : Nat} {d : D} (e : setv ρ i d = .ok ρ1) : i < ρ.length ∧ ρ1 = ρ.set i (some d) := by
  obtain ⟨h, e⟩ := Out.guard_eq e
  cases e
  exact ⟨of_decide_eq_true h, rfl⟩
theorem pg_oneD (h : PG X e (gName i)) : PG X e (tG CA (.one i)) := h.imp fun v σ H Q ⟨d, ρ, L, dm, m, ρ1, ev, q⟩ => by
  obtain ⟨hl, rfl⟩ := setv_ok ev
  exact q _ (Agr.set (by simp [Tg.slots])) dm.set (m.store dm (by rw [← dm.1]; exact hl))
theorem pgs_nilD : PGs X [] (tGs CA []) := pgs_nil.imp fun vs σ H Q ⟨ds, ρ, L, hl, dm, m, ρ1, ev, q⟩ => by
  cases ds with
  | nil =>
    cases vs with
    | nil => cases ev; exact ⟨rfl, q σ Agr.refl dm m⟩
    | cons _ _ => simp at hl
  | cons _ _ => cases ev
theorem pgs_consD {is : List Nat} (h : PG X e (gName i)) (hs : PGs X es (tGs CA is)) (ha : (assignEach (e :: es) X.env).map (·.2) = assign e X.env :: (assignEach es X.env).map (·.2)) : PGs X (e :: es) (tGs CA (i :: is)) := (pgs_cons h hs ha).imp fun vs σ H Q ⟨ds, ρ, L, hl, dm, m, ρ1, ev, q⟩ => by
  cases ds with
  | nil => cases ev
  | cons d ds =>
    cases vs with
    | nil => simp at hl
    | cons v vs =>
      obtain ⟨ρ2, e1, ev⟩ := Out.bind_eq ev
      obtain ⟨hl2, rfl⟩ := setv_ok e1
      refine ⟨v, vs, rfl, ds, ρ.set i (some d), L, by simpa using hl, dm.set, ?_, ρ1, ev, fun σ' ag dm' m' => q σ' (ag.1 |> fun _ => (Agr.set (sl := i :: is) (σ := σ) (i := i) (v := some v) List.mem_cons_self).trans ag (fun j hj => hj) (fun j hj => List.mem_cons_of_mem _ hj)) dm' m'⟩
      have m0 : M CA H ((v, d) :: (vs.zip ds ++ (envL σ ρ ++ L))) := m
      have m1 : M CA H ((v, d) :: (envL σ ρ ++ (vs.zip ds ++ L))) := m0.perm ((pswap _ _ _).cons _)
      exact (m1.store dm (by rw [← dm.1]; exact hl2)).perm (pswap _ _ _)
theorem pg_tupD {is : List Nat} {j : Nat} (hc : X.calm = true) (hs : PGs X es (tGs CA is)) (hn : (assignEach es X.env).length = is.length) (hst : (assignEach es X.env).findIdx? (·.1) = none) : PG X (.Tuple es j pos) (tG CA (.tup is)) :=
  ((pg_tup hc hs hn hst).or (pg_unl hc hs hn hst)).imp fun v σ H Q ⟨d, ρ, L, dm, m, ρ1, ev, q⟩ => by
  have lens : ∀ {is : List Nat} {ds : List D} {ρ ρ1 : Env}, asgL is ds ρ = .ok ρ1 → ds.length = is.length := by
    intro is
    induction is with
    | nil => intro ds ρ ρ1 e; cases ds with
      | nil => rfl
      | cons _ _ => cases e
    | cons i is ih =>
      intro ds ρ ρ1 e
      cases ds with
      | nil => cases e
      | cons d ds =>
        obtain ⟨ρ2, _, e⟩ := Out.bind_eq e
        simp [ih e]
  cases d <;> simp only [asgT] at ev <;> first
    | (cases ev; done)
    | skip
  · obtain ⟨p, vs, rfl, hl, hp, m1⟩ := m.openT
    have m2 : M CA H (vs.zip _ ++ (envL σ ρ ++ L)) := MR.drop (MR.unrot m1)
    exact .inl ⟨p, vs, rfl, .of hp, hl.trans (lens ev), _, ρ, L, hl, dm, m2, ρ1, ev, q⟩
  · obtain ⟨hf, ev⟩ := Out.guard_eq ev
    obtain ⟨p, vs, rfl, hl, hp, m1⟩ := m.itemsL hf
    have m2 : M CA H (vs.zip _ ++ (envL σ ρ ++ L)) := MR.drop (MR.unrot m1)
    exact .inr ⟨p, vs, rfl, .of hp, hl.trans (lens ev), _, ρ, L, hl, dm, m2, ρ1, ev, q⟩
/-! ### small statements -/
def setF' (i : Nat) (f : Ev) : Env → Out Fl := fun ρ => (f ρ).bind fun x => (setv x.2 i x.1).bind fun ρ1 => .ok (.nx ρ1)
theorem ps_setD {pos' : Pos} (h : PS X (.Assign [.Name x pos'] e pos) (tAsg (tE CA f) (gName i))) : PS X (.Assign [.Name x pos'] e pos) (tS CA [i] (setF' i f)) := h.imp fun D σ H ⟨ρ, L, dm, m, fl, ev, q⟩ => by
  obtain ⟨y, e1, ev⟩ := Out.bind_eq ev
  obtain ⟨ρ1, e2, ev⟩ := Out.bind_eq ev
  cases ev
  obtain ⟨hl, rfl⟩ := setv_ok e2
  exact ⟨ρ, L, dm, m, y.1, y.2, e1, fun v H' dm' m' => q _ _ (Agr.set (by simp)) dm'.set (m'.store dm' (by rw [← dm'.1]; exact hl))⟩
def setsF (is : List Nat) (f : Ev) : Env → Out Fl := fun ρ => (f ρ).bind fun x => (asgT (.tup is) x.1 x.2).bind fun ρ1 => .ok (.nx ρ1)
theorem ps_setsD {is : List Nat} (h : PS X (.Assign [tg] e pos) (tAsg (tE CA f) (tG CA (.tup is)))) : PS X (.Assign [tg] e pos) (tS CA is (setsF is f)) := h.imp fun D σ H ⟨ρ, L, dm, m, fl, ev, q⟩ => by
  obtain ⟨y, e1, ev⟩ := Out.bind_eq ev
  obtain ⟨ρ1, e2, ev⟩ := Out.bind_eq ev
  cases ev
  exact ⟨ρ, L, dm, m, y.1, y.2, e1, fun v H' dm' m' => ⟨y.1, y.2, L, dm', m', ρ1, e2, fun σ' ag dm2 m2 => q σ' H' ag dm2 m2⟩⟩
def exF (f : Ev) : Env → Out Fl := fun ρ => (f ρ).bind fun x => .ok (.nx x.2)
theorem ps_exD (he : PE X e (tE CA f)) (hs : swapsWith e none pos.line X.env = pure false) : PS X (.Expr e pos) (tS CA [] (exF f)) := (ps_expr he hs).imp fun D σ H ⟨ρ, L, dm, m, fl, ev, q⟩ => by
  obtain ⟨y, e1, ev⟩ := Out.bind_eq ev
  cases ev
  exact ⟨ρ, L, dm, m, y.1, y.2, e1, fun v H' dm' m' => q _ _ Agr.refl dm' m'.drop⟩
def retF (f : Ev) : Env → Out Fl := fun ρ => (f ρ).bind fun x => .ok (.rt x.1 x.2)
theorem ps_retD (he : PE X e (tE CA f)) : PS X (.Return (some e) pos) (tS CA [] (retF f)) := (ps_ret he).imp fun D σ H ⟨ρ, L, dm, m, fl, ev, q⟩ => by
  obtain ⟨y, e1, ev⟩ := Out.bind_eq ev
  cases ev
  exact ⟨ρ, L, dm, m, y.1, y.2, e1, fun v H' dm' m' => q _ _ _ Agr.refl dm' m'⟩
theorem ps_retnD : PS X (.Return none pos) (tS CA [] (fun ρ => .ok (.rt .non ρ))) := ps_retN.imp fun D σ H ⟨ρ, L, dm, m, fl, ev, q⟩ => by
  cases ev; exact q _ _ _ Agr.refl dm m.pNon
theorem ps_passD : PS X (.Pass pos) (tS CA [] (fun ρ => .ok (.nx ρ))) := ps_pass.imp fun D σ H ⟨ρ, L, dm, m, fl, ev, q⟩ => by
  cases ev; exact q _ _ Agr.refl dm m
theorem ps_noneD (hf : ∀ ρ fl, fb ρ ≠ .ok fl) : PS X st (tS CA sl fb) := ps_never.imp fun D σ H ⟨ρ, L, dm, m, fl, ev, q⟩ => hf ρ fl ev
/-! ### blocks -/
theorem tS.mono {D : Ends} {σ : L2.St} {H : Hp} (h : tS CA sl fb D σ H) (hs : ∀ j ∈ sl', j ∈ sl) : tS CA sl' fb D σ H := by
  obtain ⟨ρ, L, dm, m, fl, ev, q⟩ := h
  refine ⟨ρ, L, dm, m, fl, ev, ?_⟩
  cases fl with
  | nx ρ' => exact fun σ' H' ag => q σ' H' (ag.mono hs)
  | rt d ρ' => exact fun v σ' H' ag => q v σ' H' (ag.mono hs)
theorem pss_nilD : PSs X [] (tS CA [] (fun ρ => .ok (.nx ρ))) := pss_nil.imp fun D σ H ⟨ρ, L, dm, m, fl, ev, q⟩ => by
  cases ev; exact q _ _ Agr.refl dm m
theorem pss_consD (h1 : PS X st (tS CA sl fb)) (h2 : PSs X sts (tS CA sl' fb')) : PSs X (st :: sts) (tS CA (sl ++ sl') (fun ρ => seqF (fb ρ) fb')) := (pss_cons h1 h2).imp fun D σ H ⟨ρ, L, dm, m, fl, ev, q⟩ => by
  obtain ⟨r, e1, ev⟩ := Out.bind_eq ev
  refine ⟨ρ, L, dm, m, r, e1, ?_⟩
  cases r with
  | nx ρ1 =>
    intro σ1 H1 ag1 dm1 m1
    refine ⟨ρ1, L, dm1, m1, fl, ev, ?_⟩
    cases fl with
    | nx ρ2 => exact fun σ2 H2 ag2 dm2 m2 => q σ2 H2 (ag1.trans ag2 (fun j => List.mem_append_left _) (fun j => List.mem_append_right _)) dm2 m2
    | rt d ρ2 => exact fun v σ2 H2 ag2 dm2 m2 => q v σ2 H2 (ag1.trans ag2 (fun j => List.mem_append_left _) (fun j => List.mem_append_right _)) dm2 m2
  | rt d ρ1 =>
    cases ev
    exact fun v σ1 H1 ag1 dm1 m1 => q v σ1 H1 (ag1.mono fun j => List.mem_append_left _) dm1 m1
def ifF (t : Env → Out (Bool × Env)) (fb fb' : Env → Out Fl) : Env → Out Fl := fun ρ => (t ρ).bind fun x => match x.1 with
    | true => fb x.2
    | false => fb' x.2
theorem ps_ifD (hc : PT X c (tT CA (tstF f))) (ha : PSs X sts (tS CA sl fb)) (hb : PSs X sts' (tS CA sl' fb')) : PS X (.If c sts sts' pos) (tS CA (sl ++ sl') (ifF (tstF f) fb fb')) := (ps_if hc ha hb).imp fun D σ H ⟨ρ, L, dm, m, fl, ev, q⟩ => by
  obtain ⟨y, e1, ev⟩ := Out.bind_eq ev
  refine ⟨ρ, L, dm, m, y.1, y.2, e1, fun H' dm' m' => ?_⟩
  have q' : tS CA (sl ++ sl') (fun _ => .ok fl) D σ H' := ⟨y.2, L, dm', m', fl, rfl, q⟩
  cases hy : y.1 with
  | true =>
    dsimp only
    rw [if_pos rfl]
    rw [hy] at ev
    have : tS CA (sl ++ sl') fb D σ H' := ⟨y.2, L, dm', m', fl, ev, q⟩
    exact this.mono fun j => List.mem_append_left _
  | false =>
    dsimp only
    rw [if_neg Bool.false_ne_true]
    rw [hy] at ev
    have : tS CA (sl ++ sl') fb' D σ H' := ⟨y.2, L, dm', m', fl, ev, q⟩
    exact this.mono fun j => List.mem_append_right _
/-! ### while -/
theorem ps_whlD {n : Nat} (hp : PassesOwn (model X.prog X.w) X.A X.env X.xe) (hc : PT X c (tT CA (tstF f))) (hb : PSs X sts (tS CA sl fb)) : PS X (.While c sts [] pos) (tS CA sl (whlF (tstF f) fb n)) := (ps_while hp hc hb).imp fun D σ H ⟨ρ, L, dm, m, fl, ev, q⟩ => by
  refine ⟨fun n σ' H' => Agr sl σ σ' ∧ ∃ ρ', Dom σ' ρ' ∧ M CA H' (envL σ' ρ' ++ L) ∧ whlF (tstF f) fb n ρ' = .ok fl, ⟨n, Agr.refl, ρ, dm, m, ev⟩, ?_⟩
  rintro n σ1 H1 ⟨ag1, ρ1, dm1, m1, ev1⟩
  cases n with
  | zero => cases ev1
  | succ n =>
    obtain ⟨y, e1, ev1⟩ := Out.bind_eq ev1
    refine ⟨ρ1, L, dm1, m1, y.1, y.2, e1, fun H2 dm2 m2 => ?_⟩
    cases hy : y.1 with
    | false =>
      dsimp only
      rw [if_neg Bool.false_ne_true]
      rw [hy] at ev1
      cases ev1
      exact q σ1 H2 ag1 dm2 m2
    | true =>
      dsimp only
      rw [if_pos rfl]
      rw [hy] at ev1
      obtain ⟨r, e2, ev1⟩ := Out.bind_eq ev1
      refine ⟨fun σ' H' => Agr sl σ σ' ∧ ∃ ρ', Dom σ' ρ' ∧ M CA H' (envL σ' ρ' ++ L) ∧ whlF (tstF f) fb n ρ' = .ok fl, fun σ' H' h => ⟨n, Nat.lt_succ_self n, h⟩, y.2, L, dm2, m2, r, e2, ?_⟩
      cases r with
      | nx ρ3 => exact fun σ3 H3 ag3 dm3 m3 => ⟨ag1.trans ag3 (fun _ h => h) (fun _ h => h), ρ3, dm3, m3, ev1⟩
      | rt d ρ3 =>
        cases ev1
        exact fun v σ3 H3 ag3 dm3 m3 => q v σ3 H3 (ag1.trans ag3 (fun _ h => h) (fun _ h => h)) dm3 m3
/-! ### for -/
theorem for_read {CA : Ct} {g : Tg} {fw : EvW} {D : Ends} {σ : L2.St} {H : Hp}
    (hch : ∀ ρ w j d, fw ρ = .ok w → w.1.2 = some (j, d) → j ∉ g.slots ++ sl) (t : tS CA (g.slots ++ sl) (fun ρ => (fw ρ).bind fun w => forF w.1.2 (asgT g) fb w.1.1 w.2) D σ H) : tFor (tW CA fw) (tG CA g) (tS CA sl fb) D σ H := by
  obtain ⟨ρ, L, dm, m, fl, ev, q⟩ := t
  obtain ⟨w, e1, ev⟩ := Out.bind_eq ev
  obtain ⟨⟨ds, ch⟩, ρ1⟩ := w
  have stay : ∀ {c : Option (Nat × VL.D)} {ρ : Env}, stayE c ρ = true → ∀ j d, c = some (j, d) → getv ρ j = some d := fun {c ρ} h j d e => by
    subst e; exact stayE_iff.mp h
  refine ⟨ρ, L, dm, m, (ds, ch), ρ1, e1, fun j d hj => ?_, fun J S H1 dm1 W m1 => ?_⟩
  · have hj : ch = some (j, d) := hj
    cases ds with
    | nil => obtain ⟨h, _⟩ := Out.guard_eq ev; exact stay h j d hj
    | cons _ _ => obtain ⟨h, _⟩ := Out.guard_eq ev; exact stay h j d hj
  refine ⟨fun i n σ' H' => Agr (g.slots ++ sl) σ σ' ∧ n = ds.length - i ∧ i ≤ ds.length ∧ ∃ ρ', Dom σ' ρ' ∧ M CA H' (envL σ' ρ' ++ (S ++ L)) ∧ forF ch (asgT g) fb (ds.drop i) ρ' = .ok fl, ⟨_, Agr.refl, rfl, Nat.zero_le _, ρ1, dm1, m1, ev⟩, ?_⟩
  rintro i n σ2 H2 ⟨ag2, rfl, hi2, ρ2, dm2, m2, ev2⟩
  have slot : ∀ {ρ : Env}, stayE ch ρ = true → ∀ j d, ch = some (j, d) → getv ρ j = some d ∧ σ2[j]? = σ[j]? := fun {ρ} h j d e =>
    ⟨stay h j d e, ag2.2 j (hch _ _ j d e1 e)⟩
  by_cases hlt : i < ds.length
  · right
    rw [List.drop_eq_getElem_cons hlt] at ev2
    obtain ⟨st2, ev2⟩ := Out.guard_eq ev2
    obtain ⟨ρ3, e3, ev2⟩ := Out.bind_eq ev2
    obtain ⟨r, e4, ev2⟩ := Out.bind_eq ev2
    refine ⟨W.go i σ2 ρ2 L H2 m2 (slot st2) hlt, fun σ' H' => Agr (g.slots ++ sl) σ σ' ∧ i + 1 ≤ ds.length ∧ ∃ ρ', Dom σ' ρ' ∧ M CA H' (envL σ' ρ' ++ (S ++ L)) ∧ forF ch (asgT g) fb (ds.drop (i + 1)) ρ' = .ok fl,
      fun σ' H' ⟨a, b, c⟩ => ⟨ds.length - (i + 1), by omega, a, rfl, b, c⟩, fun x H3 y3 => ?_⟩
    have m3 := W.yld i σ2 ρ2 L H2 _ x H3 m2 (slot st2) (List.getElem?_eq_getElem hlt) y3
    refine ⟨ds[i], ρ2, S ++ L, dm2, m3, ρ3, e3, fun σ4 ag4 dm4 m4 => ?_⟩
    refine ⟨ρ3, S ++ L, dm4, m4, r, e4, ?_⟩
    have ag24 := ag2.trans ag4 (c := g.slots ++ sl) (fun _ h => h) (fun j hj => List.mem_append_left _ hj)
    cases r with
    | nx ρ5 => exact fun σ5 H5 ag5 dm5 m5 => ⟨ag24.trans ag5 (fun _ h => h) (fun j hj => List.mem_append_right _ hj), hlt, ρ5, dm5, m5, ev2⟩
    | rt d ρ5 =>
      cases ev2
      intro v σ5 H5 ag5 dm5 m5
      refine q v σ5 H5 (ag24.trans ag5 (fun _ h => h) (fun j hj => List.mem_append_right _ hj)) dm5 ?_
      have m6 : M CA H5 (S ++ ((v, d) :: (envL σ5 ρ5 ++ L))) := by
        refine m5.perm ?_
        refine List.Perm.trans ((pswap (envL σ5 ρ5) S L).cons _) ?_
        exact List.perm_middle.symm
      exact m6.dropL
  · left
    have hi' : i = ds.length := by omega
    subst hi'
    rw [List.drop_length] at ev2
    obtain ⟨st2, ev2⟩ := Out.guard_eq ev2
    cases ev2
    exact ⟨W.stop _ σ2 ρ2 L H2 m2 (slot st2) (Nat.le_refl _), q σ2 H2 ag2 dm2 ((m2.perm (pswap _ _ _)).dropL)⟩
theorem ps_forD {g : Tg} {fw : EvW} {iter : Expr} (hp : PassesOwn (model X.prog X.w) X.A X.env X.xe) (hc : X.calm = true) (hi : PI X tg iter (tW CA fw)) (hg : PG X tg (tG CA g)) (hb : PSs X sts (tS CA sl fb)) (hs : ∀ x, foldedSetIterable iter X.env x = pure x)
    (hch : ∀ ρ w j d, fw ρ = .ok w → w.1.2 = some (j, d) → j ∉ g.slots ++ sl) : PS X (.For tg iter sts [] pos) (tS CA (g.slots ++ sl) (fun ρ => (fw ρ).bind fun w => forF w.1.2 (asgT g) fb w.1.1 w.2)) := (ps_for hp hc hi hg hb hs).imp fun D σ H t => for_read hch t
end
end VL
/-! VL part 16: list comprehensions -/
namespace VL
open PySem PySem.Spec L2
theorem wipeE_cons {ρ : Env} {i : Nat} {own : List Nat} : wipeE ρ (i :: own) = wipeE (ρ.set i none) own := rfl
theorem keepE_cons {old ρ : Env} {i : Nat} {own : List Nat} : keepE old ρ (i :: own) = keepE old (ρ.set i (getv old i)) own := rfl
theorem wipeE_length {own : List Nat} : ∀ {ρ : Env}, (wipeE ρ own).length = ρ.length := by
  induction own with
  | nil => intro ρ; rfl
  | cons i own ih => intro ρ; rw [wipeE_cons, ih, List.length_set]
theorem keepE_length {old : Env} {own : List Nat} : ∀ {ρ : Env}, (keepE old ρ own).length = ρ.length := by
  induction own with
  | nil => intro ρ; rfl
  | cons i own ih => intro ρ; rw [keepE_cons, ih, List.length_set]
theorem getv_wipeE {own : List Nat} {j : Nat} : ∀ {ρ : Env}, getv (wipeE ρ own) j = if j ∈ own then none else getv ρ j := by
  induction own with
  | nil => intro ρ; simp [wipeE]
  | cons i own ih =>
    intro ρ
    rw [wipeE_cons, ih]
    by_cases h : j ∈ own
    · rw [if_pos h, if_pos (List.mem_cons_of_mem _ h)]
    · rw [if_neg h]
      by_cases e : i = j
      · subst e
        rw [if_pos List.mem_cons_self]
        by_cases hl : i < ρ.length
        · exact getv_set_same hl
        · unfold getv; rw [List.getElem?_eq_none (by rw [List.length_set]; omega)]; rfl
      · rw [getv_set_ne e, if_neg]
        simp only [List.mem_cons, not_or]
        exact ⟨fun q => e q.symm, h⟩
theorem keepE_set {old : Env} {own : List Nat} {i : Nat} {o : Option D} (h : i ∉ own) : ∀ {ρ : Env}, (keepE old ρ own).set i o = keepE old (ρ.set i o) own := by
  induction own with
  | nil => intro ρ; rfl
  | cons j own ih =>
    intro ρ
    simp only [List.mem_cons, not_or] at h
    rw [keepE_cons, keepE_cons, ih h.2, List.set_comm _ _ (fun e => h.1 e.symm)]
theorem keepE_congr {old old' : Env} {own : List Nat} (h : ∀ j ∈ own, getv old j = getv old' j) : ∀ {ρ : Env}, keepE old ρ own = keepE old' ρ own := by
  induction own with
  | nil => intro ρ; rfl
  | cons j own ih =>
    intro ρ
    rw [keepE_cons, keepE_cons, h j List.mem_cons_self, ih fun i hi => h i (List.mem_cons_of_mem _ hi)]
theorem getv_keepE {old : Env} {own : List Nat} {j : Nat} (hl : j < old.length) : ∀ {ρ : Env}, ρ.length = old.length → getv (keepE old ρ own) j = if j ∈ own then getv old j else getv ρ j := by
  induction own with
  | nil => intro ρ _; simp [keepE]
  | cons i own ih =>
    intro ρ e
    rw [keepE_cons, ih (by rw [List.length_set]; exact e)]
    by_cases h : j ∈ own
    · rw [if_pos h, if_pos (List.mem_cons_of_mem _ h)]
    · rw [if_neg h]
      by_cases q : i = j
      · subst q; rw [getv_set_same (by omega), if_pos List.mem_cons_self]
      · rw [getv_set_ne q, if_neg]
        simp only [List.mem_cons, not_or]
        exact ⟨fun z => q z.symm, h⟩
theorem envL_congr : ∀ {σ σ' : L2.St} {ρ : Env}, σ.length = σ'.length → (∀ j d, getv ρ j = some d → σ[j]? = σ'[j]?) → envL σ ρ = envL σ' ρ
  | [], [], ρ, _, _ => rfl
  | s :: σ, s' :: σ', [], _, _ => by simp [envL]
  | s :: σ, s' :: σ', r :: ρ, hl, h => by
    have ih := envL_congr (σ := σ) (σ' := σ') (ρ := ρ) (by simpa using hl) (fun j d hj => by simpa using h (j + 1) d (by rw [getv_succ]; exact hj))
    cases r with
    | none => simp only [envL, ih]
    | some d =>
      have h0 := h 0 d (getv_zero _ _)
      simp only [List.getElem?_cons_zero, Option.some.injEq] at h0
      subst h0
      cases s <;> simp only [envL, ih]
  | [], _ :: _, _, hl, _ => by simp at hl
  | _ :: _, [], _, hl, _ => by simp at hl
theorem wipe_in {σ : L2.St} {i : Nat} : ∀ {vs : List Nat}, i ∈ vs → i < σ.length → (wipe σ vs)[i]? = some none
  | v :: vs, h, hl => by
    unfold wipe
    by_cases e : v = i
    · subst e; rw [List.getElem?_set_self (by rw [wipe_length]; exact hl)]
    · rw [List.getElem?_set_ne e]
      rcases List.mem_cons.mp h with q | q
      · exact absurd q.symm e
      · exact wipe_in q hl
theorem wipe_eq {σ σ2 : L2.St} {vs : List Nat} (hl : σ2.length = σ.length) (h : ∀ j, j ∉ vs → σ2[j]? = σ[j]?) : wipe σ2 vs = wipe σ vs := by
  apply List.ext_getElem?
  intro j
  by_cases hj : j ∈ vs
  · by_cases q : j < σ.length
    · rw [wipe_in hj (by omega), wipe_in hj q]
    · rw [List.getElem?_eq_none (by rw [wipe_length]; omega), List.getElem?_eq_none (by rw [wipe_length]; omega)]
  · rw [wipe_out hj, wipe_out hj, h j hj]
theorem Dom.wipe {σ : L2.St} {ρ : Env} {own : List Nat} (h : Dom σ ρ) : Dom σ (wipeE ρ own) := by
  refine ⟨by rw [wipeE_length]; exact h.1, fun j d e => ?_⟩
  rw [getv_wipeE] at e
  split at e
  · cases e
  · exact h.2 j d e
theorem Dom.cong {σ σ' : L2.St} {ρ : Env} (h : Dom σ ρ) (hl : σ'.length = σ.length) (k : ∀ j d, getv ρ j = some d → σ'[j]? = σ[j]?) : Dom σ' ρ :=
  ⟨h.1.trans hl.symm, fun j d e => by rw [k j d e]; exact h.2 j d e⟩
section
variable {X : Cx} {CA : Ct} {H : Hp} {σ : L2.St}
theorem MR.wipe {own : List Nat} : ∀ {ρ : Env} {L : List VD}, Dom σ ρ → M CA H (envL σ ρ ++ L) → M CA H (envL σ (wipeE ρ own) ++ L) := by
  induction own with
  | nil => intro ρ L _ m; exact m
  | cons i own ih => intro ρ L dm m; rw [wipeE_cons]; exact ih dm.none (m.dropSlot dm)
theorem wipe_save {own : List Nat} (nd : own.Nodup) : ∀ {ρ : Env} {L : List VD}, Dom σ ρ → M CA H (envL σ ρ ++ L) → ∃ S, M CA H (envL σ (wipeE ρ own) ++ (S ++ L)) ∧
    ∀ {H' : Hp} {ρ2 : Env} {L' : List VD}, ρ2.length = ρ.length → M CA H' (envL σ (wipeE ρ2 own) ++ (S ++ L')) → M CA H' (envL σ (keepE ρ ρ2 own) ++ L') := by
  induction own with
  | nil => intro ρ L dm m; exact ⟨[], m, fun _ m' => m'⟩
  | cons i own ih =>
    intro ρ L dm m
    rw [List.nodup_cons] at nd
    have agree : ∀ j ∈ own, getv (ρ.set i none) j = getv ρ j := fun j hj => getv_set_ne fun e => nd.1 (by rw [e]; exact hj)
    cases e : getv ρ i with
    | none =>
      have m1 : M CA H (envL σ (ρ.set i none) ++ L) := by rw [envL_none e]; exact m
      obtain ⟨S, m2, back⟩ := ih nd.2 dm.none m1
      refine ⟨S, m2, fun {H' ρ2 L'} hl m' => ?_⟩
      have := back (ρ2 := ρ2.set i none) (by simp [hl]) m'
      rw [keepE_congr agree] at this
      rw [keepE_cons, e]; exact this
    | some d =>
      obtain ⟨v, hv⟩ := dm.2 i d e
      have m1 := MR.front m hv e
      have m2 : M CA H (envL σ (ρ.set i none) ++ ((v, d) :: L)) := m1.rot
      obtain ⟨S, m3, back⟩ := ih nd.2 dm.none m2
      refine ⟨(v, d) :: S, ?_, fun {H' ρ2 L'} hl m' => ?_⟩
      · rw [wipeE_cons]
        refine m3.perm (List.Perm.append_left _ ?_)
        exact List.perm_middle
      · have m4 : M CA H' (envL σ (wipeE (ρ2.set i none) own) ++ (S ++ ((v, d) :: L'))) := by
          refine m'.perm (List.Perm.append_left _ ?_)
          exact List.perm_middle.symm
        have m5 := back (ρ2 := ρ2.set i none) (by simp [hl]) m4
        rw [keepE_congr agree] at m5
        have m6 := MR.unrot m5
        rw [keepE_cons, e]
        have hz : (keepE ρ (ρ2.set i none) own).set i none = keepE ρ (ρ2.set i none) own := by rw [keepE_set nd.1, List.set_set]
        have hs : (keepE ρ (ρ2.set i none) own).set i (some d) = keepE ρ (ρ2.set i (some d)) own := by rw [keepE_set nd.1, List.set_set]
        rw [← hz] at m6
        have hil : i < (keepE ρ (ρ2.set i none) own).length := by rw [keepE_length, List.length_set, hl]; exact getv_lt e
        have m7 := MR.back m6 hv hil
        rw [hs] at m7
        exact m7
variable {tg iter elt : Expr} {ifs : List Expr} {fw : EvW} {g : Tg} {t : Env → Out (Bool × Env)} {el : Ev} {own : List Nat} {pos : Pos} {scope : Scope}
theorem keepE_dom {ρ ρ2 : Env} (d1 : Dom σ ρ) (d2 : Dom σ (wipeE ρ2 own)) : Dom σ (keepE ρ ρ2 own) := by
  have hl : ρ2.length = ρ.length := by have := d2.1; rw [wipeE_length] at this; rw [this, d1.1]
  refine ⟨by rw [keepE_length, hl]; exact d1.1, fun j d e => ?_⟩
  have hj : j < ρ.length := by have := getv_lt e; rw [keepE_length, hl] at this; exact this
  rw [getv_keepE hj hl] at e
  split at e
  · exact d1.2 j d e
  · rename_i h
    exact d2.2 j d (by rw [getv_wipeE, if_neg h]; exact e)
theorem lc_read {H : Hp} {Q : VK} (hown : own = g.slots) (nd : own.Nodup) (hch : ∀ ρ w j d, fw ρ = .ok w → w.1.2 = some (j, d) → j ∉ own) (h : tE CA (fun ρ => (fw ρ).bind (lcF own g t el)) σ H Q) :
    tLc (tW CA fw) (tG CA g) (tT CA t) (tE CA el) own σ H Q := by
  obtain ⟨ρ, L, dm, m, d, ρ', ev, q⟩ := h
  obtain ⟨w, e1, ev⟩ := Out.bind_eq ev
  obtain ⟨hlen, ev⟩ := Out.guard_eq ev
  obtain ⟨r, e2, ev⟩ := Out.bind_eq ev
  cases ev
  obtain ⟨⟨ds, ch⟩, ρ1⟩ := w
  have hlen : ds.length < lim := of_decide_eq_true hlen
  have stay : ∀ {c : Option (Nat × VL.D)} {ρ : Env}, stayE c ρ = true → ∀ j d, c = some (j, d) → getv ρ j = some d := fun {c ρ} h j d e => by
    subst e; exact stayE_iff.mp h
  have slot : ∀ {ρ2 : Env}, stayE ch ρ2 = true → ∀ j d, ch = some (j, d) → getv (wipeE ρ2 own) j = some d ∧ σ[j]? = σ[j]? := fun {ρ2} h j d e =>
    ⟨by rw [getv_wipeE, if_neg (hch _ _ j d e1 e)]; exact stay h j d e, rfl⟩
  refine ⟨ρ, L, dm, m, (ds, ch), ρ1, e1, fun j d hj => ?_, fun J S H1 dm1 W m1 Dn hDn => ?_⟩
  · have hj : ch = some (j, d) := hj
    cases ds with
    | nil => obtain ⟨h, _⟩ := Out.guard_eq e2; exact stay h j d hj
    | cons _ _ => obtain ⟨h, _⟩ := Out.guard_eq e2; exact stay h j d hj
  obtain ⟨Sv, m2, back⟩ := wipe_save nd dm1 m1
  have m3 : M CA (upd H1 Dn (.lst [])) ((V.ref Dn, D.lst true []) :: (envL σ (wipeE ρ1 own) ++ (Sv ++ (S ++ L)))) := MR.newL (vs := []) (ds := []) m2 rfl hDn
  refine ⟨fun i n H' => n = ds.length - i ∧ i ≤ ds.length ∧ ∃ acc ρ2, acc.length ≤ i ∧ Dom σ (wipeE ρ2 own) ∧ M CA H' (envL σ (wipeE ρ2 own) ++ (S ++ ((V.ref Dn, D.lst true acc) :: (Sv ++ L)))) ∧
      compF ch (fun d ρ => asgT g d (wipeE ρ own)) t el (ds.drop i) acc ρ2 = .ok r, ⟨_, rfl, Nat.zero_le _, [], ρ1, Nat.le_refl _, dm1.wipe, ?_, e2⟩, ?_⟩
  · refine m3.perm ?_
    have p1 : ((V.ref Dn, D.lst true []) :: (envL σ (wipeE ρ1 own) ++ (Sv ++ (S ++ L)))).Perm (envL σ (wipeE ρ1 own) ++ ((V.ref Dn, D.lst true []) :: (Sv ++ (S ++ L)))) := List.perm_middle.symm
    refine p1.trans (List.Perm.append_left _ ?_)
    have p2 : ((V.ref Dn, D.lst true []) :: (Sv ++ (S ++ L))).Perm ((V.ref Dn, D.lst true []) :: (S ++ (Sv ++ L))) := (pswap _ _ _).cons _
    exact p2.trans List.perm_middle.symm
  rintro i n H2 ⟨rfl, hi2, acc, ρ2, hacc, dm2, m4, ev2⟩
  by_cases hlt : i < ds.length
  · right
    rw [List.drop_eq_getElem_cons hlt] at ev2
    obtain ⟨st2, ev2⟩ := Out.guard_eq ev2
    obtain ⟨ρ3, e3, ev2⟩ := Out.bind_eq ev2
    obtain ⟨b, e4, ev2⟩ := Out.bind_eq ev2
    refine ⟨W.go i σ _ _ H2 m4 (slot st2) hlt, fun H' => i + 1 ≤ ds.length ∧ ∃ acc ρ2, acc.length ≤ i + 1 ∧ Dom σ (wipeE ρ2 own) ∧ M CA H' (envL σ (wipeE ρ2 own) ++ (S ++ ((V.ref Dn, D.lst true acc) :: (Sv ++ L)))) ∧
      compF ch (fun d ρ => asgT g d (wipeE ρ own)) t el (ds.drop (i + 1)) acc ρ2 = .ok r, fun H' ⟨a, b⟩ => ⟨ds.length - (i + 1), by omega, rfl, a, b⟩, fun x H3 y3 => ?_⟩
    have m5 := W.yld i σ _ _ H2 _ x H3 m4 (slot st2) (List.getElem?_eq_getElem hlt) y3
    have wlen : (wipe σ own).length = σ.length := wipe_length σ own
    have wsame : ∀ j d, getv (wipeE ρ2 own) j = some d → (wipe σ own)[j]? = σ[j]? := fun j d hj => by
      rw [getv_wipeE] at hj
      split at hj
      · cases hj
      · rename_i h; exact wipe_out h
    have ew : envL (wipe σ own) (wipeE ρ2 own) = envL σ (wipeE ρ2 own) := envL_congr wlen wsame
    refine ⟨ds[i], wipeE ρ2 own, S ++ ((V.ref Dn, D.lst true acc) :: (Sv ++ L)), dm2.cong wlen wsame, by rw [ew]; exact m5, ρ3, e3, fun σ4 ag4 dm4 m6 => ?_⟩
    have off : ∀ j, j ∉ own → σ4[j]? = σ[j]? := fun j hj => by
      rw [ag4.2 j (by rw [← hown]; exact hj), wipe_out hj]
    have len4 : σ4.length = σ.length := ag4.1.trans wlen
    refine ⟨wipe_eq len4 off, ρ3, S ++ ((V.ref Dn, D.lst true acc) :: (Sv ++ L)), dm4, m6, b.1, b.2, e4, fun H5 dm5 m7 => ?_⟩
    -- behind the turn: the block's own slots forgotten
    have again : ∀ {ρ5 : Env} {acc' : List VL.D} {H6 : Hp}, Dom σ4 ρ5 → M CA H6 (envL σ4 ρ5 ++ (S ++ ((V.ref Dn, D.lst true acc') :: (Sv ++ L)))) → Dom σ (wipeE ρ5 own) ∧ M CA H6 (envL σ (wipeE ρ5 own) ++ (S ++ ((V.ref Dn, D.lst true acc') :: (Sv ++ L)))) := fun {ρ5 acc' H6} dd mm => by
      have same : ∀ j d, getv (wipeE ρ5 own) j = some d → σ[j]? = σ4[j]? := fun j d hj => by
        rw [getv_wipeE] at hj
        split at hj
        · cases hj
        · rename_i h; exact (off j h).symm
      have m8 := MR.wipe (own := own) dd mm
      rw [← envL_congr (σ := σ) len4.symm same] at m8
      exact ⟨dd.wipe.cong len4.symm same, m8⟩
    cases hb : b.1 with
    | false =>
      dsimp only
      rw [if_neg Bool.false_ne_true]
      rw [hb] at ev2
      obtain ⟨d8, m8⟩ := again dm5 m7
      exact ⟨hlt, acc, b.2, by omega, d8, m8, ev2⟩
    | true =>
      dsimp only
      rw [if_pos rfl]
      rw [hb] at ev2
      obtain ⟨z, e5, ev2⟩ := Out.bind_eq ev2
      refine ⟨b.2, S ++ ((V.ref Dn, D.lst true acc) :: (Sv ++ L)), dm5, m7, z.1, z.2, e5, fun y H6 dm6 m8 => ?_⟩
      -- the list's entry in front, opened, one more item
      have m9 : M CA H6 ((V.ref Dn, D.lst true acc) :: ((y, z.1) :: (envL σ4 z.2 ++ (S ++ (Sv ++ L))))) := by
        refine m8.perm ?_
        have p1 : (envL σ4 z.2 ++ (S ++ ((V.ref Dn, D.lst true acc) :: (Sv ++ L)))).Perm ((V.ref Dn, D.lst true acc) :: (envL σ4 z.2 ++ (S ++ (Sv ++ L)))) := by
          refine (List.Perm.append_left _ List.perm_middle).trans ?_
          exact List.perm_middle
        exact (p1.cons _).trans (.swap _ _ _)
      obtain ⟨p, vs, e0, hl, hp, m10⟩ := m9.openL
      cases e0
      refine ⟨vs, hp, by rw [sizeLine_lim, hl]; omega, hlt, acc ++ [z.1], z.2, by simp; omega, ?_⟩
      have m11 : MR CA H6 [Dn] ((vs ++ [y]).zip (acc ++ [z.1]) ++ (envL σ4 z.2 ++ (S ++ (Sv ++ L)))) := by
        rw [zip_append' hl, List.append_assoc]
        exact m10
      have m12 := m11.closeL (by simp [hl])
      have m13 : M CA (upd H6 Dn (.lst (vs ++ [y]))) (envL σ4 z.2 ++ (S ++ ((V.ref Dn, D.lst true (acc ++ [z.1])) :: (Sv ++ L)))) := by
        refine m12.perm ?_
        refine List.perm_middle.symm.trans ?_
        exact List.Perm.append_left _ List.perm_middle.symm
      obtain ⟨d8, m14⟩ := again dm6 m13
      exact ⟨d8, m14, ev2⟩
  · left
    have hi' : i = ds.length := by omega
    subst hi'
    rw [List.drop_length] at ev2
    obtain ⟨st2, ev2⟩ := Out.guard_eq ev2
    cases ev2
    refine ⟨W.stop _ σ _ _ H2 m4 (slot st2) (Nat.le_refl _), q _ _ (keepE_dom dm1 dm2) ?_⟩
    have m5 : M CA H2 (envL σ (wipeE ρ2 own) ++ (Sv ++ ((V.ref Dn, D.lst true acc) :: L))) := by
      have p1 : (S ++ ((V.ref Dn, D.lst true acc) :: (Sv ++ L))).Perm (S ++ (Sv ++ ((V.ref Dn, D.lst true acc) :: L))) := List.Perm.append_left _ List.perm_middle.symm
      have m6 : M CA H2 (envL σ (wipeE ρ2 own) ++ (S ++ (Sv ++ ((V.ref Dn, D.lst true acc) :: L)))) := m4.perm (List.Perm.append_left _ p1)
      have m7 : M CA H2 (S ++ (envL σ (wipeE ρ2 own) ++ (Sv ++ ((V.ref Dn, D.lst true acc) :: L)))) := m6.perm (pswap _ _ _)
      exact m7.dropL
    have hl2 : ρ2.length = ρ1.length := by have := dm2.1; rw [wipeE_length] at this; rw [this, dm1.1]
    exact (back hl2 m5).unrot
theorem pe_lcD (hc : X.calm = true) (hN : X.N.Nodup) {ns : List (Str × Nat)} (hi : PI X tg iter (tW CA fw)) (ok : BlkOk X.N X.env.scope scope ns) (hns : ns.map (·.2) = own)
    (hg : ∀ (s : Shared) (H : Hp) (C : Addr) (cl : List (Str × Addr)) (fp : List Addr), PG (X.blk s H scope (compEnvC scope cl C X.env) fp) tg (tG CA g)) (ht : ∀ (s : Shared) (H : Hp) (C : Addr) (cl : List (Str × Addr)) (fp : List Addr), PTs (X.blk s H scope (compEnvC scope cl C X.env) fp) ifs (tT CA t))
    (he : ∀ (s : Shared) (H : Hp) (C : Addr) (cl : List (Str × Addr)) (fp : List Addr), PE (X.blk s H scope (compEnvC scope cl C X.env) fp) elt (tE CA el)) (hs : ∀ x, foldedSetIterable iter X.env x = pure x)
    (hown : own = g.slots) (nd : own.Nodup) (hch : ∀ ρ w j d, fw ρ = .ok w → w.1.2 = some (j, d) → j ∉ own) : PE X (.ListComp elt [⟨tg, iter, ifs, 0⟩] scope pos) (tE CA (fun ρ => (fw ρ).bind (lcF own g t el))) := by
  have h := pe_lc (pos := pos) hc hN hi ok hg ht he hs
  rw [hns] at h
  exact h.imp fun σ H Q q => lc_read hown nd hch q
theorem ps_setLcD {i : Nat} {y : Str} {py spos : Pos} (hc : X.calm = true) (hN : X.N.Nodup) (hy : X.N[i]? = some y) (hyl : X.env.scope.names.lookup y = some .local) (hsw : swapsWith (.ListComp elt [⟨tg, iter, ifs, 0⟩] scope pos) (some (.Name y py)) spos.line X.env = pure true) {ns : List (Str × Nat)} (hi : PI X tg iter (tW CA fw)) (ok : BlkOk X.N X.env.scope scope ns) (hns : ns.map (·.2) = own)
    (hg : ∀ (s : Shared) (H : Hp) (C : Addr) (cl : List (Str × Addr)) (fp : List Addr), PG (X.blk s H scope (compEnvC scope cl C X.env) fp) tg (tG CA g)) (ht : ∀ (s : Shared) (H : Hp) (C : Addr) (cl : List (Str × Addr)) (fp : List Addr), PTs (X.blk s H scope (compEnvC scope cl C X.env) fp) ifs (tT CA t))
    (he : ∀ (s : Shared) (H : Hp) (C : Addr) (cl : List (Str × Addr)) (fp : List Addr), PE (X.blk s H scope (compEnvC scope cl C X.env) fp) elt (tE CA el)) (hs : ∀ x, foldedSetIterable iter X.env x = pure x)
    (hown : own = g.slots) (nd : own.Nodup) (hch : ∀ ρ w j d, fw ρ = .ok w → w.1.2 = some (j, d) → j ∉ own) : PS X (.Assign [.Name y py] (.ListComp elt [⟨tg, iter, ifs, 0⟩] scope pos) spos) (tAsg (tE CA (fun ρ => (fw ρ).bind (lcF own g t el))) (gName i)) := by
  have h := ps_setLc hc hN hy hyl hsw hi ok hg ht he hs
  rw [hns] at h
  exact h.imp fun D σ H q => lc_read hown nd hch q
theorem _root_.L2.PTs.imp {X : Cx} {e : List Expr} {t t' : TT} (h : PTs X e t) (i : ∀ σ H Q, t' σ H Q → t σ H Q) : PTs X e t' := ⟨fun pins s σ H Q I q => h.run pins s σ H Q I (i σ H Q q)⟩
theorem pts_nilD : PTs X [] (tT CA (fun ρ => .ok (true, ρ))) := pts_nil.imp fun σ H Q ⟨ρ, L, dm, m, b, ρ', ev, q⟩ => by
  cases ev; exact q H dm m
theorem pts_oneD {c : Expr} {f : Ev} (h : PT X c (tT CA (tstF f))) : PTs X [c] (tT CA (tstF f)) := pts_one h
end
end VL
/-! VL part 17: what is written in place -/
namespace VL
open PySem PySem.Spec L2
section
variable {X : Cx} {CA : Ct} {H : Hp} {R : List Addr} {L K : List VD}
theorem MR.ndR {p : Addr} (m : MR CA H (p :: R) L) : ∀ a ∈ R, a ≠ p := by
  obtain ⟨Hf, F, le, rs, nd, no, tr, lk⟩ := m
  rw [List.cons_append, List.nodup_cons] at nd
  exact fun a ha e => nd.1 (List.mem_append_left _ (e ▸ ha))
theorem zip_snoc {vs : List V} {ds : List D} {v : V} {d : D} (h : vs.length = ds.length) : (vs ++ [v]).zip (ds ++ [d]) = vs.zip ds ++ [(v, d)] := by
  rw [List.zip_append h]; rfl
/-- the item j changed -/
theorem zip_set2 {vs : List V} {ds : List D} {j : Nat} (h : vs.length = ds.length) (hj : j < ds.length) : ∃ K x, (vs.zip ds).Perm (x :: K) ∧ ∀ v d, ((vs.set j v).zip (ds.set j d)).Perm ((v, d) :: K) := by
  induction vs generalizing ds j with
  | nil => simp at h; omega
  | cons a vs ih =>
    cases ds with
    | nil => simp at h
    | cons b ds =>
      cases j with
      | zero => exact ⟨vs.zip ds, (a, b), .refl _, fun v d => .refl _⟩
      | succ j =>
        obtain ⟨K, x, p1, p2⟩ := ih (ds := ds) (j := j) (by simpa using h) (by simpa using hj)
        exact ⟨(a, b) :: K, x, (p1.cons _).trans (.swap _ _ _), fun v d => ((p2 v d).cons _).trans (.swap _ _ _)⟩
theorem didx_get : ∀ {ks : List KD} {k : KD} {j : Nat}, didx ks k = some j → ks[j]? = some k
  | k' :: ks, k, j, h => by
    simp only [didx] at h
    by_cases e : k' = k
    · rw [if_pos e] at h; cases h; simp [e]
    · rw [if_neg e] at h
      cases q : didx ks k with
      | none => rw [q] at h; cases h
      | some i =>
        rw [q] at h
        simp only [Option.map_some, Option.some.injEq] at h
        subst h
        simpa using didx_get q
theorem map_zip_ne {α : Type} {k : KD} {d : α} : ∀ {ks : List KD} {l : List α}, ks.length = l.length → k ∉ ks → ((ks.zip l).map fun p => if p.1 = k then d else p.2) = l
  | [], [], _, _ => rfl
  | k' :: ks, x :: l, h, hn => by
    simp only [List.mem_cons, not_or] at hn
    simp only [List.zip_cons_cons, List.map_cons]
    rw [if_neg (fun e => hn.1 e.symm), map_zip_ne (by simpa using h) hn.2]
  | [], _ :: _, h, _ => by simp at h
  | _ :: _, [], h, _ => by simp at h
theorem map_zip_set {α : Type} {k : KD} {d : α} : ∀ {ks : List KD} {l : List α} {j : Nat}, ks.length = l.length → ks.Nodup → didx ks k = some j → ((ks.zip l).map fun p => if p.1 = k then d else p.2) = l.set j d
  | k' :: ks, x :: l, j, h, nd, e => by
    rw [List.nodup_cons] at nd
    simp only [List.zip_cons_cons, List.map_cons]
    by_cases q : k' = k
    · have : j = 0 := by simp only [didx, if_pos q, Option.some.injEq] at e; exact e.symm
      subst this
      rw [if_pos q, map_zip_ne (by simpa using h) (by rw [← q]; exact nd.1)]; rfl
    · rw [if_neg q]
      simp only [didx, if_neg q, Option.map_eq_some_iff] at e
      obtain ⟨i, e1, rfl⟩ := e
      rw [map_zip_set (by simpa using h) nd.2 e1]; rfl
  | [], _, _, _, _, e => by simp [didx] at e
  | _ :: _, [], _, h, _, _ => by simp at h
theorem dput_set {α : Type} {ks : List KD} {l : List α} {k : KD} {d : α} {j : Nat} (h : ks.length = l.length) (nd : ks.Nodup) (e : didx ks k = some j) : dput ks l k d = (ks, l.set j d) := by
  unfold dput
  rw [e, map_zip_set h nd e]; rfl
theorem dput_new {α : Type} {ks : List KD} {l : List α} {k : KD} {d : α} (e : didx ks k = none) : dput ks l k d = (ks ++ [k], l ++ [d]) := by
  unfold dput
  rw [e]; rfl
/-- an entry put, behind the node -/
theorem MR.dput {ks : List KD} {vs : List V} {l : List D} {k : KD} {v : V} {d : D} (hl : vs.length = l.length) (hk : ks.length = vs.length) (nd : ks.Nodup) (m : MR CA H R (vs.zip l ++ ((v, d) :: K))) :
    MR CA H R ((dput ks vs k v).2.zip (dput ks l k d).2 ++ K) ∧ (dput ks vs k v).2.length = (dput ks l k d).2.length ∧ (dput ks vs k v).1 = (dput ks l k d).1 := by
  cases e : didx ks k with
  | none =>
    rw [dput_new e, dput_new e]
    refine ⟨?_, by simp [hl], rfl⟩
    show MR CA H R ((vs ++ [v]).zip (l ++ [d]) ++ K)
    rw [zip_snoc hl, List.append_assoc]
    exact m
  | some j =>
    have hj := didx_lt e
    rw [dput_set hk nd e, dput_set (hk.trans hl) nd e]
    refine ⟨?_, by simp [hl], rfl⟩
    obtain ⟨K', x, p1, p2⟩ := zip_set2 (j := j) hl (by omega)
    have m1 : MR CA H R (x :: (K' ++ ((v, d) :: K))) := m.perm (p1.append_right _)
    have m2 : MR CA H R ((v, d) :: (K' ++ K)) := m1.drop.perm List.perm_middle
    exact m2.perm (((p2 v d).symm).append_right K)
/-! ### o[k] = v -/
def rPut (CA : Ct) : TSet := fun o i v H Q => ∃ R K nd k d nd', MR CA H R ((o, nd) :: (i, k) :: (v, d) :: K) ∧ putD k d nd = .ok nd' ∧ ∀ H', MR CA H' R ((o, nd') :: K) → (∀ a ∈ R, H' a = H a) → Q H'
theorem put_ok {k : Nat} (hr : Room k X.A) : PSet X (rPut CA) := by
  intro pins s σ H o i v ov iv u Q I ro ri rv h
  obtain ⟨R, K, nd, k, d, nd', m, e, q⟩ := h
  cases nd <;> simp only [putD] at e <;> first
    | (cases e; done)
    | skip
  · rename_i ow l
    cases ow <;> simp only [putD] at e <;> first
      | (cases e; done)
      | skip
    obtain ⟨n, e1, e⟩ := Out.bind_eq e
    obtain ⟨j, e2, e⟩ := Out.bind_eq e
    cases e
    cases k <;> simp only [num] at e1 <;> first
      | (cases e1; done)
      | skip
    cases e1
    obtain ⟨p, vs, rfl, hl, hp, m1⟩ := m.openL
    have m2 : MR CA H (p :: R) ((i, D.int n) :: (vs.zip l ++ ((v, d) :: K))) := m1.perm List.perm_middle
    have hi := m2.int
    have m3 := m2.drop
    have hj : j < l.length := by
      have := Out.of_eq e2
      have h4 := (ixN_seq this).2.1
      exact h4
    obtain ⟨K', x, p1, p2⟩ := zip_set2 (j := j) hl hj
    have m4 : MR CA H (p :: R) (x :: (K' ++ ((v, d) :: K))) := m3.perm (p1.append_right _)
    have m5 : MR CA H (p :: R) ((v, d) :: (K' ++ K)) := m4.drop.perm List.perm_middle
    have m6 : MR CA H (p :: R) ((vs.set j v).zip (l.set j d) ++ K) := m5.perm (((p2 v d).symm).append_right K)
    refine set_list pins s σ H _ i v ov iv u Q I ro ri rv ⟨p, vs, n, j, rfl, hi, hp, ?_, q _ (m6.closeL (by simp [hl])) fun a ha => upd_ne (m.openL |> fun _ => m1.ndR a ha)⟩
    rw [hl]; exact Out.of_eq e2
  · rename_i ow ks l
    cases ow <;> simp only [putD] at e <;> first
      | (cases e; done)
      | skip
    obtain ⟨kd, e1, e⟩ := Out.bind_eq e
    obtain ⟨h1, e⟩ := Out.guard_eq e
    cases e
    simp only [Bool.and_eq_true, decide_eq_true_eq] at h1
    obtain ⟨p, vs, u', rfl, hl, hp, hk, m1⟩ := m.openD
    have m2 : MR CA H (p :: R) ((i, k) :: (vs.zip l ++ ((v, d) :: K))) := m1.perm List.perm_middle
    have kv := toKD_keyV (m2.vw) (Out.of_eq e1)
    have m3 := m2.drop
    obtain ⟨u2, g, hk2⟩ := dpu_of (x := v) hp hk kv h1.1 h1.2
    obtain ⟨m4, l4, e4⟩ := MR.dput (k := kd) hl hk.len hk.nd m3
    rw [e4] at hk2
    have hu : X.A.units + 1 < cLine := hu_of hr
    cases (show ov = Value.ref p from ro)
    refine g_setItem hu I g ri rv fun s' I' => ⟨_, I', q _ (m4.closeD l4 hk2) fun a ha => upd_ne (m1.ndR a ha)⟩
/-! ### methods of lists that change them -/
def moN : MO → String
  | .app => "list.append" | .ext => "list.extend" | .rem => "list.remove" | .upd => "dict.update"
def rMo (CA : Ct) (o : MO) : V → List V → Hp → VK → Prop := fun x xs H Q => ∃ y R K nd d nd', xs = [y] ∧ MR CA H R ((x, nd) :: (y, d) :: K) ∧ moD o d nd = .ok nd' ∧ ∀ H', MR CA H' R ((x, nd') :: K) → (∀ a ∈ R, H' a = H a) → Q .non H'
theorem mo_app : MtR X (moN .app) (rMo CA .app) := by
  intro pins s σ H x xs v us Q I rx rv h
  obtain ⟨y, R, K, nd, d, nd', rfl, m, e, q⟩ := h
  cases nd <;> simp only [moD, appD] at e <;> first
    | (cases e; done)
    | skip
  rename_i ow l
  cases ow <;> simp only [appD] at e <;> first
    | (cases e; done)
    | skip
  obtain ⟨h1, e⟩ := Out.guard_eq e
  cases e
  obtain ⟨p, vs, rfl, hl, hp, m1⟩ := m.openL
  refine mt_append pins s σ H _ [y] v us Q I rx rv ⟨p, vs, y, rfl, rfl, hp, ?_, q _ ?_ fun a ha => upd_ne (m1.ndR a ha)⟩
  · rw [sizeLine_lim, hl]; exact of_decide_eq_true h1
  · refine MR.closeL (vs := vs ++ [y]) (ds := l ++ [d]) ?_ (by simp [hl])
    rw [zip_snoc hl, List.append_assoc]
    exact m1
theorem mo_ext : MtR X (moN .ext) (rMo CA .ext) := by
  intro pins s σ H x xs v us Q I rx rv h
  obtain ⟨y, R, K, nd, d, nd', rfl, m, e, q⟩ := h
  cases nd <;> simp only [moD, extD] at e <;> first
    | (cases e; done)
    | skip
  rename_i ow l
  cases ow <;> simp only [extD] at e <;> first
    | (cases e; done)
    | skip
  cases d <;> simp only at e <;> first
    | (cases e; done)
    | skip
  rename_i ow2 l2
  obtain ⟨h1, e⟩ := Out.guard_eq e
  cases e
  simp only [Bool.and_eq_true, decide_eq_true_eq] at h1
  obtain ⟨p, vs, rfl, hl, hp, m1⟩ := m.openL
  have m2 : MR CA H (p :: R) ((y, D.lst ow2 l2) :: (vs.zip l ++ K)) := m1.perm List.perm_middle
  obtain ⟨p2, vs2, rfl, hl2, hp2, m3⟩ := m2.itemsL h1.1
  have m4 : MR CA H (p :: R) (vs2.zip l2 ++ (vs.zip l ++ K)) := MR.drop (MR.unrot m3)
  refine mt_extend pins s σ H _ [_] v us Q I rx rv ⟨p, p2, vs, vs2, rfl, rfl, hp, hp2, ?_, q _ ?_ fun a ha => upd_ne (m1.ndR a ha)⟩
  · rw [sizeLine_lim, hl, hl2]; exact h1.2
  · refine MR.closeL (vs := vs ++ vs2) (ds := l ++ l2) ?_ (by simp [hl, hl2])
    rw [List.zip_append hl, List.append_assoc]
    exact m4.perm (pswap _ _ _)
end
end VL
/-! VL part 18: dicts made, statements that write in place, global values -/
namespace VL
open PySem PySem.Spec L2
section
variable {X : Cx} {CA : Ct} {H : Hp} {R : List Addr} {L K : List VD} {e a b c o : Expr} {es : List Expr} {pos p apos cpos : Pos} {f g h : Ev} {fa : EvN} {k i : Nat} {x name : Str}
/-! ### dicts of pairs -/
theorem mr_dputs : ∀ {ps : List (KD × D)} {kvs : List (Key × V)} {ks : List KD} {l : List D} {kvs0 : List (Key × V)}, ps.map (·.1) = kvs.map (fun kv => (Sum.inl kv.1 : KD)) → ks = kvs0.map (fun kv => (Sum.inl kv.1 : KD)) → ks.Nodup → kvs0.length = l.length →
    MR CA H R ((kvs0.map (·.2)).zip l ++ ((kvs.map (·.2)).zip (ps.map (·.2)) ++ K)) →
    MR CA H R (((mergeK kvs0 kvs).map (·.2)).zip (dputs ks l ps).2 ++ K) ∧ (dputs ks l ps).1 = (mergeK kvs0 kvs).map (fun kv => (Sum.inl kv.1 : KD)) ∧ (dputs ks l ps).1.Nodup ∧ (mergeK kvs0 kvs).length = (dputs ks l ps).2.length
  | [], [], ks, l, kvs0, _, e0, nd, hl, m => ⟨m, e0, nd, hl⟩
  | (kd, d) :: ps, (k, v) :: kvs, ks, l, kvs0, e, e0, nd, hl, m => by
    simp only [List.map_cons, List.cons.injEq] at e
    obtain ⟨rfl, e⟩ := e
    have hp := putK_dput (Sum.inl : Key → KD) (fun _ _ => inl_inj') kvs0 k v
    rw [← e0] at hp
    have m1 : MR CA H R ((kvs0.map (·.2)).zip l ++ ((v, d) :: ((kvs.map (·.2)).zip (ps.map (·.2)) ++ K))) := m
    obtain ⟨m2, l2, e2⟩ := MR.dput (k := (Sum.inl k : KD)) (v := v) (d := d) (by simp [hl]) (by rw [e0]; simp) nd m1
    rw [← hp.2] at m2 l2
    rw [← hp.1] at e2
    have := mr_dputs (ps := ps) (kvs := kvs) (ks := (dput ks l (Sum.inl k) d).1) (l := (dput ks l (Sum.inl k) d).2) (kvs0 := putK kvs0 k v) e e2.symm (dput_nodup nd) (by simpa using l2) m2
    exact this
  | [], _ :: _, _, _, _, e, _, _, _, _ => by simp at e
  | _ :: _, [], _, _, _, e, _, _, _, _ => by simp at e
theorem isK {kvs : List (Key × V)} {ks : List KD} {vs : List V} (h1 : ks = kvs.map (fun kv => (Sum.inl kv.1 : KD))) (h2 : vs = kvs.map (·.2)) (nd : ks.Nodup) : DkIs ks vs (.dK kvs) := ⟨nd, h1.symm, h2.symm⟩
/-- pairs, frozen, opened -/
theorem mr_pairs : ∀ {l : List D} {ps : List (KD × D)} {vs : List V} {K : List VD}, pairsD l = some ps → ps.all (·.1.isLeft) = true → fzdL l = true → vs.length = l.length → MR CA H R (vs.zip l ++ K) →
    ∃ (as : List Addr) (kvs : List (Key × V)), vs = as.map V.ref ∧ Paired (fun p kv => H p = some (.tup [kV kv.1, kv.2])) as kvs ∧ ps.map (·.1) = kvs.map (fun kv => (Sum.inl kv.1 : KD)) ∧ MR CA H R ((kvs.map (·.2)).zip (ps.map (·.2)) ++ K)
  | [], ps, [], K, e, _, _, _, m => by
    simp only [pairsD, Option.some.injEq] at e
    subst e
    exact ⟨[], [], rfl, .nil, rfl, m⟩
  | d :: l, ps, v :: vs, K, e, ha, hf, hl, m => by
    unfold pairsD at e
    split at e <;> first
      | (cases e; done)
      | skip
    · rename_i h0; cases h0
    rename_i k w l0 h0
    cases h0
    split at e <;> first
      | (cases e; done)
      | skip
    rename_i kd r e1 e2
    simp only [Option.some.injEq] at e
    subst e
    simp only [List.all_cons, Bool.and_eq_true] at ha
    have hf' : fzd (D.tup [k, w]) = true ∧ fzdL l = true := by
      simp only [fzdL, Bool.and_eq_true] at hf ⊢
      exact ⟨by simp only [fzd, fzdL]; exact hf.1, hf.2⟩
    have hk := hf'.1
    simp only [fzd] at hk
    have m1 : MR CA H R ((v, D.tup [k, w]) :: (vs.zip l ++ K)) := m
    obtain ⟨p, us, rfl, hu, hp, m2⟩ := m1.itemsT hk
    cases us with
    | nil => simp at hu
    | cons u1 us =>
      cases us with
      | nil => simp at hu
      | cons u2 us =>
        cases us with
        | cons _ _ => simp at hu
        | nil =>
          have m3 : MR CA H R ((u1, k) :: (u2, w) :: (V.ref p, D.tup [k, w]) :: (vs.zip l ++ K)) := m2
          have kv := toKD_keyV m3.vw e1
          cases kd with
          | inr _ => simp at ha
          | inl kk =>
            obtain rfl : u1 = kV kk := kv
            have m4 : MR CA H R (vs.zip l ++ ((u2, w) :: K)) := by
              have q1 : MR CA H R ((u2, w) :: (V.ref p, D.tup [k, w]) :: (vs.zip l ++ K)) := m3.drop
              have q2 : MR CA H R ((V.ref p, D.tup [k, w]) :: (u2, w) :: (vs.zip l ++ K)) := q1.perm (.swap _ _ _)
              exact q2.drop.rot
            obtain ⟨as, kvs, h1, h2, h3, h4⟩ := mr_pairs e2 ha.2 hf'.2 (by simpa using hl) m4
            refine ⟨p :: as, (kk, u2) :: kvs, by rw [h1]; rfl, .cons hp h2, by simp [h3], ?_⟩
            show MR CA H R ((u2, w) :: ((kvs.map (·.2)).zip (r.map (·.2)) ++ K))
            exact MR.unrot h4
  | [], _, _ :: _, _, _, _, _, hl, _ => by simp at hl
  | _ :: _, _, [], _, _, _, _, hl, _ => by simp at hl
theorem sq_paired {F : PySem.W.Frag} {as : List Addr} {kvs : List (Key × V)} (h : Paired (fun p (kv : Key × V) => H p = some (.tup [kV kv.1, kv.2])) as kvs) : Paired (fun p (kv : Key × V) => SqT F H p [kV kv.1, kv.2]) as kvs := by
  induction h with
  | nil => exact .nil
  | cons h t ih => exact .cons (.of h) ih
theorem ok_dict (hc : X.calm = true) : C1Ok X CA .dict (fun xs H Q => (∃ (a : Addr) (kvs : List (Key × V)), xs = [.ref a] ∧ Rd H a (.dK kvs) ∧ ∀ p, H p = none → Q (.ref p) (upd H p (.dK kvs))) ∨
    (∃ (a : Addr) (ps : List Addr) (kvs : List (Key × V)), xs = [.ref a] ∧ SqL X.K H a (ps.map V.ref) ∧ Paired (fun p kv => SqT X.K H p [kV kv.1, kv.2]) ps kvs ∧ ∀ p, H p = none → Q (.ref p) (upd H p (.dK (mergeK [] kvs))))) where
  call := call_dictD.or (call_dictP hc)
  read := fun σ ρ L x H ix u d Q m lt e ed dm q => by
    cases u <;> simp only [c1D] at ed <;> first
      | (cases ed; done)
      | skip
    · rename_i ow l
      obtain ⟨ps, e1, ed⟩ := Out.bind_eq ed
      obtain ⟨h1, ed⟩ := Out.guard_eq ed
      cases ed
      simp only [Bool.and_eq_true] at h1
      obtain ⟨p, vs, rfl, hl, hp, m1⟩ := opItemsL m lt e h1.1
      obtain ⟨as, kvs, rfl, h2, h3, m2⟩ := mr_pairs (Out.of_eq e1) h1.2 h1.1 hl m1
      have sq : Paired (fun p kv => SqT X.K H p [kV kv.1, kv.2]) as kvs := sq_paired h2
      refine .inr ⟨p, as, kvs, rfl, .of hp, sq, fun r hn => q _ _ ?_⟩
      obtain ⟨m3, h4, h5, h6⟩ := mr_dputs (ks := []) (l := []) (kvs0 := []) (K := envL σ ρ ++ L) h3 rfl List.nodup_nil rfl m2
      exact m3.newD (by simpa using h6) (isK h4 rfl h5) hn
    · rename_i ow ks l
      obtain ⟨h1, ed⟩ := Out.guard_eq ed
      cases ed
      simp only [Bool.and_eq_true] at h1
      obtain ⟨p, vs, u, rfl, hl, hp, hk, m1⟩ := opItemsD m lt e h1.1
      have hk0 := hk
      obtain ⟨_, hk⟩ := hk
      cases u <;> first
        | (exact hk.elim)
        | skip
      · rename_i kvs
        exact .inl ⟨p, kvs, rfl, hp, fun r hn => q _ _ (m1.newD hl hk0 hn)⟩
      · rename_i kvs
        obtain ⟨h1', h2, h3⟩ := hk
        cases kvs with
        | nil => exact absurd rfl h3
        | cons q r => rw [← h1'] at h1; simp at h1
/-! ### displays -/
def pairsF : List (Ev × Ev) → EvL
  | [] => fun ρ => .ok ([], ρ)
  | (f, g) :: r => fun ρ => (f ρ).bind fun x => ((fun ρ => (g ρ).bind fun y => (pairsF r y.2).bind fun z => .ok (y.1 :: z.1, z.2)) x.2).bind fun y => .ok (x.1 :: y.1, y.2)
def flatV : List (V × V) → List V
  | [] => []
  | p :: r => p.1 :: p.2 :: flatV r
def trsOf (CA : Ct) (fks : List (Ev × Ev)) : List (TE × TE) := fks.map fun p => (tE CA p.1, tE CA p.2)
theorem tPairs_read {σ : L2.St} : ∀ {fks : List (Ev × Ev)} {H : Hp} {Q : List (V × V) → Hp → Prop},
    (∃ ρ L, Dom σ ρ ∧ M CA H (envL σ ρ ++ L) ∧ ∃ l ρ', pairsF fks ρ = .ok (l, ρ') ∧ ∀ vs H', (flatV vs).length = l.length → Dom σ ρ' → M CA H' ((flatV vs).zip l ++ (envL σ ρ' ++ L)) → Q vs H') → tPairs (trsOf CA fks) σ H Q
  | [], H, Q, ⟨ρ, L, dm, m, l, ρ', ev, q⟩ => by
    cases ev
    exact q [] H rfl dm m
  | (f, g) :: r, H, Q, ⟨ρ, L, dm, m, l, ρ', ev, q⟩ => by
    obtain ⟨x, e1, ev⟩ := Out.bind_eq ev
    obtain ⟨y, e2, ev⟩ := Out.bind_eq ev
    obtain ⟨z, e3, e2⟩ := Out.bind_eq e2
    obtain ⟨w, e4, e2⟩ := Out.bind_eq e2
    cases e2
    cases ev
    refine ⟨ρ, L, dm, m, x.1, x.2, e1, fun v H1 dm1 m1 => ⟨x.2, (v, x.1) :: L, dm1, m1.rot, z.1, z.2, e3, fun v2 H2 dm2 m2 => ?_⟩⟩
    refine tPairs_read ⟨z.2, (v2, z.1) :: (v, x.1) :: L, dm2, m2.rot, w.1, w.2, e4, fun vs H3 hl dm3 m3 => ?_⟩
    refine q ((v, v2) :: vs) H3 (by simp [flatV, hl]) dm3 ?_
    show M CA H3 ((v, x.1) :: (v2, z.1) :: ((flatV vs).zip w.1 ++ (envL σ w.2 ++ L)))
    refine m3.perm ?_
    have p1 : ((flatV vs).zip w.1 ++ (envL σ w.2 ++ ((v2, z.1) :: (v, x.1) :: L))).Perm ((v2, z.1) :: ((flatV vs).zip w.1 ++ (envL σ w.2 ++ ((v, x.1) :: L)))) :=
      (List.Perm.append_left _ List.perm_middle).trans List.perm_middle
    have p2 : ((flatV vs).zip w.1 ++ (envL σ w.2 ++ ((v, x.1) :: L))).Perm ((v, x.1) :: ((flatV vs).zip w.1 ++ (envL σ w.2 ++ L))) :=
      (List.Perm.append_left _ List.perm_middle).trans List.perm_middle
    exact p1.trans ((p2.cons _).trans (.swap _ _ _))
theorem pairs_flat : ∀ {l : List D} {dps : List (D × D)} {ps : List (KD × D)} {vs : List (V × V)} {K : List VD}, pairUp l = some dps → pairsD (dps.map fun p => .tup [p.1, p.2]) = some ps → ps.all (·.1.isLeft) = true → (flatV vs).length = l.length → MR CA H R ((flatV vs).zip l ++ K) →
    ∃ kvs : List (Key × V), vs = kvs.map (fun kv => (kV kv.1, kv.2)) ∧ ps.map (·.1) = kvs.map (fun kv => (Sum.inl kv.1 : KD)) ∧ MR CA H R ((kvs.map (·.2)).zip (ps.map (·.2)) ++ K)
  | [], dps, ps, [], K, e, e', _, _, m => by
    simp only [pairUp, Option.some.injEq] at e
    subst e
    simp only [List.map_nil, pairsD, Option.some.injEq] at e'
    subst e'
    exact ⟨[], rfl, rfl, m⟩
  | [], _, _, _ :: _, _, _, _, _, hl, _ => by simp [flatV] at hl
  | [_], _, _, _, _, e, _, _, _, _ => by simp [pairUp] at e
  | _ :: _ :: _, _, _, [], _, _, _, _, hl, _ => by simp [flatV] at hl
  | k :: d :: l, dps, ps, (v, v2) :: vs, K, e, e', ha, hl, m => by
    simp only [pairUp, Option.map_eq_some_iff] at e
    obtain ⟨dps0, e0, rfl⟩ := e
    simp only [List.map_cons] at e'
    unfold pairsD at e'
    split at e' <;> first
      | (cases e'; done)
      | skip
    rename_i kd r e1 e2
    simp only [Option.some.injEq] at e'
    subst e'
    simp only [List.all_cons, Bool.and_eq_true] at ha
    have m1 : MR CA H R ((v, k) :: (v2, d) :: ((flatV vs).zip l ++ K)) := m
    have kv := toKD_keyV m1.vw e1
    cases kd with
    | inr _ => simp at ha
    | inl kk =>
      obtain rfl : v = kV kk := kv
      have m2 : MR CA H R ((flatV vs).zip l ++ ((v2, d) :: K)) := (MR.drop m1).rot
      obtain ⟨kvs, h1, h2, h3⟩ := pairs_flat e0 e2 ha.2 (by simpa [flatV] using hl) m2
      refine ⟨(kk, v2) :: kvs, by rw [h1]; rfl, by simp [h2], ?_⟩
      show MR CA H R ((v2, d) :: ((kvs.map (·.2)).zip (r.map (·.2)) ++ K))
      exact MR.unrot h3
theorem length_pairsD : ∀ {l : List D} {ps : List (KD × D)}, pairsD l = some ps → ps.length = l.length
  | [], ps, e => by simp only [pairsD, Option.some.injEq] at e; subst e; rfl
  | d :: l, ps, e => by
    unfold pairsD at e
    split at e <;> first
      | (cases e; done)
      | skip
    · rename_i h0; cases h0
    rename_i h0
    cases h0
    split at e <;> first
      | (cases e; done)
      | skip
    rename_i e2
    simp only [Option.some.injEq] at e
    subst e
    simp [length_pairsD e2]
def dctF (fs : EvL) : Ev := fun ρ => (fs ρ).bind fun x => (dctD x.1).bind fun r => .ok (r, x.2)
theorem pe_dct0D : PE X (.Dict [] [] pos) (tE CA (dctF (pairsF []))) := pe_dnewK.imp fun σ H Q ⟨ρ, L, dm, m, d, ρ', ev, q⟩ => by
  cases ev
  exact fun p hn => q _ _ dm (MR.newD (vs := []) (ds := []) m rfl (isK (kvs := []) rfl rfl List.nodup_nil) hn)
theorem pe_dctD {keys : List (Option Expr)} {values : List Expr} {fks : List (Ev × Ev)} (h : PPs X pos keys values (trsOf CA fks)) (hall : keys.all (·.isSome) = true) (hl : keys.length = values.length) (h0 : keys ≠ []) (h15 : keys.length ≤ 15) :
    PE X (.Dict keys values pos) (tE CA (dctF (pairsF fks))) := (pe_disp h hall hl h0 h15).imp fun σ H Q ⟨ρ, L, dm, m, d, ρ', ev, q⟩ => by
  obtain ⟨x, e1, ev⟩ := Out.bind_eq ev
  obtain ⟨r, e2, ev⟩ := Out.bind_eq ev
  cases ev
  obtain ⟨dps, e3, e2⟩ := Out.bind_eq e2
  obtain ⟨ps, e4, e2⟩ := Out.bind_eq e2
  obtain ⟨h1, e2⟩ := Out.guard_eq e2
  cases e2
  simp only [Bool.and_eq_true, decide_eq_true_eq] at h1
  intro p hn
  have m1 : M CA (upd H p (.dK [])) ((V.ref p, D.dct true [] []) :: (envL σ ρ ++ L)) := MR.newD (vs := []) (ds := []) m rfl (isK (kvs := []) rfl rfl List.nodup_nil) hn
  refine tPairs_read ⟨ρ, (V.ref p, D.dct true [] []) :: L, dm, m1.rot, x.1, x.2, e1, fun vs H2 hv dm2 m2 => ?_⟩
  have m3 : M CA H2 ((V.ref p, D.dct true [] []) :: ((flatV vs).zip x.1 ++ (envL σ x.2 ++ L))) := m2.perm ((List.Perm.append_left _ List.perm_middle).trans List.perm_middle)
  obtain ⟨p', ws, u, e0, hl0, hp, hk, m4⟩ := MR.openD m3
  cases e0
  have hu : u = .dK [] := by
    obtain ⟨_, hk⟩ := hk
    cases u <;> first
      | (exact hk.elim)
      | skip
    · obtain ⟨a, b⟩ := hk
      rw [List.map_eq_nil_iff.mp a]
    · obtain ⟨a, b, c⟩ := hk
      exact absurd (List.map_eq_nil_iff.mp a) c
  subst hu
  refine ⟨hp, ?_⟩
  have hw : ws = [] := List.length_eq_zero_iff.mp hl0
  subst hw
  have m5 : MR CA H2 [p] ((flatV vs).zip x.1 ++ (envL σ x.2 ++ L)) := m4
  obtain ⟨kvs, rfl, h2, m6⟩ := pairs_flat (Out.of_eq e3) (Out.of_eq e4) h1.1 hv m5
  obtain ⟨m7, h4, h5, h6⟩ := mr_dputs (ks := []) (l := []) (kvs0 := []) (K := envL σ x.2 ++ L) h2 rfl List.nodup_nil rfl m6
  refine ⟨kvs, rfl, ?_, q _ _ dm2 (m7.closeD (by simpa using h6) (isK h4 rfl h5))⟩
  have := congrArg List.length h2
  simp only [List.length_map] at this
  rw [← this]; exact h1.2
/-! ### global values -/
theorem pe_glD {d : D} {u : Value} (hg : Gl X x) (hm : X.mg x = some u) (hd : isSc d = true) (r : RelV (scV d) u) (hb : (x == ("__debug__" : Str)) = false) : PE X (.Name x pos) (tE CA (fun ρ => .ok (d, ρ))) := (pe_glob hg hm r hb).imp fun σ H Q ⟨ρ, L, dm, m, d', ρ', ev, q⟩ => by
  cases ev
  exact q _ _ dm (m.pSc hd)
/-! ### statements that write in place -/
noncomputable def moF (o : MO) (i : Nat) (g : Ev) : Env → Out Fl := fun ρ => ((Out.of (getv ρ i)).bind fun _ => .ok ((none : Option Nat), ρ)).bind fun q => (Out.of (nodeAt q.2 i q.1)).bind fun n => Out.guard (nodeOk o n) <| (g q.2).bind fun x => (mendE x.2 i q.1 (moD o x.1)).bind fun ρ1 => .ok (.nx ρ1)
def moT : MO → String
  | .upd => "dict"
  | _ => "list"
theorem Vw.moT {v : V} {d : D} {o : MO} (K : PySem.W.Frag) (m : MR CA H R ((v, d) :: L)) (h : nodeOk o d = true) : tyV K (moT o) v H := by
  have lst : ∀ {l : List D}, d = .lst true l → tyV K "list" v H := fun e => by
    subst e
    obtain ⟨p, vs, rfl, _, hp, _⟩ := m.openL
    exact .inl ⟨rfl, vs, .of hp⟩
  cases d <;> cases o <;> simp only [nodeOk] at h <;> first
    | (cases h; done)
    | skip
  · rename_i ow l; cases ow <;> first
      | (cases h; done)
      | exact lst rfl
  · rename_i ow l; cases ow <;> first
      | (cases h; done)
      | exact lst rfl
  · rename_i ow l; cases ow <;> first
      | (cases h; done)
      | exact lst rfl
  · rename_i ow ks l
    cases ow <;> first
      | (cases h; done)
      | skip
    obtain ⟨p, vs, u, rfl, _, hp, hk, _⟩ := m.openD
    obtain ⟨_, hk⟩ := hk
    cases u <;> first
      | (exact hk.elim)
      | exact .inr (.inr (.inl ⟨rfl, .inl ⟨_, hp⟩⟩))
      | exact .inr (.inr (.inl ⟨rfl, .inr ⟨_, hp⟩⟩))
theorem ps_moD {mo : MO} {id : String} (pa : PlainAttrs (moT mo)) (slot : Slot (moT mo) name (moN mo)) (hty : typeOf (.builtin (moN mo)) = pure (.type "method_descriptor")) (hm : MtR X (moN mo) (rMo CA mo)) (ho : PE X o (tVar i)) (ha : PE X a (tE CA g))
    (hbase : attributeBase o name X.env (eval o X.env) = eval o X.env)
    (hfew : ((backTo cpos (starEach [a] X.env)).all (fun x => !x.1) && (backToKw cpos (keywordEach [] X.env)).all (fun x => x.1.isSome)
      && decide (([a] : List Expr).length + ([] : List Keyword).length + (if ([] : List Keyword).isEmpty then 0 else 1) < 30)) = true)
    (hline : (apos.endLine == cpos.line) = true) (hs : starEach [a] X.env = (false, eval a X.env) :: starEach [] X.env) (hplain : (backTo cpos (starEach [] X.env)).any (·.1) = false)
    (hsw : swapsWith (.Call (.Attribute o name apos) [a] [] cpos) none pos.line X.env = pure false) :
    PS X (.Expr (.Call (.Attribute o name apos) [a] [] cpos) pos) (tS CA [] (moF mo i g)) := (ps_expr (pe_bm pa slot hty hm ho (pa_cons ha pa_nil hs) hbase hfew hline hs hplain) hsw).imp fun D σ H ⟨ρ, L, dm, m, fl, ev, q⟩ => by
  obtain ⟨q0, e0, ev⟩ := Out.bind_eq ev
  obtain ⟨d0, e1, e0⟩ := Out.bind_eq e0
  cases e0
  have e1 := Out.of_eq e1
  obtain ⟨n, e2, ev⟩ := Out.bind_eq ev
  have e2 : getv ρ i = some n := Out.of_eq e2
  obtain ⟨hn, ev⟩ := Out.guard_eq ev
  obtain ⟨x, e3, ev⟩ := Out.bind_eq ev
  obtain ⟨ρ1, e4, ev⟩ := Out.bind_eq ev
  cases ev
  obtain ⟨a0, e5, e4⟩ := Out.bind_eq e4
  have e5 := Out.of_eq e5
  obtain ⟨a1, e6, e4⟩ := Out.bind_eq e4
  cases e4
  obtain ⟨v, hv⟩ := dm.2 i n e2
  refine ⟨v, hv, Vw.moT X.K (MR.front m hv e2) hn, ?_⟩
  refine ⟨ρ, L, dm, m, x.1, x.2, e3, fun y H2 dm2 m2 => ?_⟩
  have m3 : M CA H2 (envL σ x.2 ++ ((y, x.1) :: L)) := m2.rot
  have m4 := MR.front m3 hv e5
  have m5 : M CA H2 ((v, a0) :: (y, x.1) :: (envL σ (x.2.set i none) ++ L)) := m4.perm (List.perm_middle.cons _)
  refine ⟨y, [], _, a0, x.1, a1, rfl, m5, e6, fun H3 m6 _ => q σ H3 Agr.refl (dm2.put hv) (MR.back m6 hv (getv_lt e5))⟩
def setiF (i : Nat) (g h : Ev) : Env → Out Fl := fun ρ => (g ρ).bind fun x => ((Out.of (getv x.2 i)).bind fun _ => .ok ((none : Option Nat), x.2)).bind fun q => (h q.2).bind fun y => (mendE y.2 i q.1 (putD y.1 x.1)).bind fun ρ1 => .ok (.nx ρ1)
theorem ps_setiD {s i' : Expr} {p2 : Pos} (he : PS X (.Assign [.Subscript o b p2] e pos) (tAsg (tE CA g) (gSub (tVar i) (tE CA h) (rPut CA)))) : PS X (.Assign [.Subscript o b p2] e pos) (tS CA [] (setiF i g h)) := he.imp fun D σ H ⟨ρ, L, dm, m, fl, ev, q⟩ => by
  obtain ⟨x, e1, ev⟩ := Out.bind_eq ev
  obtain ⟨q0, e0, ev⟩ := Out.bind_eq ev
  obtain ⟨d0, e2, e0⟩ := Out.bind_eq e0
  cases e0
  have e2 := Out.of_eq e2
  obtain ⟨y, e3, ev⟩ := Out.bind_eq ev
  obtain ⟨ρ1, e4, ev⟩ := Out.bind_eq ev
  cases ev
  obtain ⟨a0, e5, e4⟩ := Out.bind_eq e4
  have e5 := Out.of_eq e5
  obtain ⟨a1, e6, e4⟩ := Out.bind_eq e4
  cases e4
  refine ⟨ρ, L, dm, m, x.1, x.2, e1, fun v H1 dm1 m1 => ?_⟩
  obtain ⟨vo, hv⟩ := dm1.2 i d0 e2
  refine ⟨vo, hv, x.2, (v, x.1) :: L, dm1, m1.rot, y.1, y.2, e3, fun vk H2 dm2 m2 => ?_⟩
  have m3 : M CA H2 (envL σ y.2 ++ ((vk, y.1) :: (v, x.1) :: L)) := m2.rot
  have m4 := MR.front m3 hv e5
  have m5 : M CA H2 ((vo, a0) :: (vk, y.1) :: (v, x.1) :: (envL σ (y.2.set i none) ++ L)) := m4.perm ((List.perm_middle.trans (List.perm_middle.cons _)).cons _)
  exact ⟨[], _, a0, y.1, x.1, a1, m5, e6, fun H3 m6 _ => q σ H3 Agr.refl (dm2.put hv) (MR.back m6 hv (getv_lt e5))⟩
end
end VL
/-! a set made of a list of ints, texts; its items -/
namespace VL
open PySem PySem.Spec PyProof.Rows L2
def dk : Value → Key
  | .int i _ => .inl i
  | .str x _ => .inr x
  | _ => .inl 0
theorem dk_of {k : Key} {v : Value} (r : RelV (kV k) v) : dk v = k := by
  cases k with
  | inl i => obtain ⟨t, rfl⟩ := r; rfl
  | inr x => obtain ⟨t, rfl⟩ := r; rfl
open Classical in
noncomputable def addK (ks : List Key) (k : Key) : List Key := if k ∈ ks then ks else k :: ks
theorem addK_len (ks : List Key) (k : Key) : (addK ks k).length ≤ ks.length + 1 := by
  unfold addK
  split <;> simp
theorem mem_addK {ks : List Key} {k j : Key} : j ∈ addK ks k ↔ j = k ∨ j ∈ ks := by
  unfold addK
  split
  · rename_i h
    exact ⟨.inr, fun q => q.elim (fun e => e ▸ h) id⟩
  · exact List.mem_cons
/-- the different ones -/
noncomputable def onceK (xs : List Key) : List Key := xs.foldl addK []
theorem onceK_take {xs : List Key} {i : Nat} {k : Key} (h : xs[i]? = some k) : onceK (xs.take (i + 1)) = addK (onceK (xs.take i)) k := by
  unfold onceK
  rw [List.take_succ, h, Option.toList_some, List.foldl_append]; rfl
theorem onceK_len : ∀ (xs ks : List Key), (xs.foldl addK ks).length ≤ ks.length + xs.length
  | [], ks => Nat.le_refl _
  | x :: xs, ks => by
    have h1 := onceK_len xs (addK ks x)
    have h2 := addK_len ks x
    simp only [List.foldl_cons, List.length_cons]; omega
theorem mem_onceK : ∀ {xs ks : List Key} {k : Key}, k ∈ xs.foldl addK ks ↔ k ∈ ks ∨ k ∈ xs
  | [], ks, k => by simp
  | x :: xs, ks, k => by
    simp only [List.foldl_cons, mem_onceK (xs := xs), mem_addK, List.mem_cons]
    constructor
    · rintro ((h | h) | h)
      · exact .inr (.inl h)
      · exact .inl h
      · exact .inr (.inr h)
    · rintro (h | h | h)
      · exact .inl (.inr h)
      · exact .inl (.inl h)
      · exact .inr h
section
variable (P : Program) (w : World)
def EntK (e : Int × Value) : Prop := RelV (kV (dk e.2)) e.2 ∧ e.1 = (mixKind P w).hash (dk e.2)
def dks (es : Array (Int × Value)) : List Key := es.toList.map fun e => dk e.2
structure StK0 (es : Array (Int × Value)) (t : SetTable) (ks : List Key) : Prop where
  ent : ∀ e ∈ es.toList, EntK P w e
  perm : (dks es).Perm ks
  nd : ks.Nodup
  few : es.size < scanBound
  fits : t.fits es.size = true
  ris : Ris t.place.toList
  led : w.params.followText "set-order" = true ∨ t.led = true
def StK (h : Heap) (a : Addr) (ks : List Key) : Prop := ∃ o es ep t, h.get? a = some o ∧ o.ExactSet ∧ o.data = .set es ep t ∧ StK0 P w es t ks
end
section
variable {P : Program} {w : World} {A : Around} {E : Value → Shared → Prop} {s : Shared} {a : Addr} {ks : List Key}
theorem StK.at {h h' : Heap} (R : StK P w h a ks) (k : ∀ o, h.get? a = some o → h'.get? a = some o) : StK P w h' a ks := by
  obtain ⟨o, es, ep, t, ho, r⟩ := R
  exact ⟨o, es, ep, t, k o ho, r⟩
theorem ent_elems {es : Array (Int × Value)} (h : ∀ e ∈ es.toList, EntK P w e) : ElemsOf (mixKind P w) es.toList := fun e he =>
  ⟨⟨dk e.2, kV_is (h e he).1, (h e he).2⟩, key_scan (h e he).1⟩
theorem ent_is {e : Int × Value} (h : EntK P w e) (k : Key) : (mixKind P w).is k e.2 = true ↔ dk e.2 = k := by
  have h0 : (mixKind P w).is (dk e.2) e.2 = true := kV_is h.1
  constructor
  · exact fun q => (mixKind P w).inj _ _ _ h0 q
  · rintro rfl; exact h0
/-- the new entries stored, the table laid anew where it is too full -/
theorem stk_tail {es : Array (Int × Value)} {ep : Nat} {t t2 : SetTable} {es1 : Array (Int × Value)} {o : Obj} {ks1 : List Key} {wd : Bool} {R : Option Bool → Shared → Prop} {note : Bool → Sem Unit}
    (hn : ∀ b (s₁ : Shared) (Q : Unit → Shared → Prop), Q () s₁ → wpAny (model P w) A (note b) Q E s₁)
    (ho : s.heap.get? a = some o) (hx : o.ExactSet) (hd : o.data = .set es ep t) (k1 : StK0 P w es1 t2 ks1)
    (hR : ∀ h', Heap.SameBut a s.heap h' → StK P w h' a ks1 → R (some true) { s with heap := h' }) :
    wpAny (model P w) A (storeSet a es1 t2 >>= fun _ => if (!wd && t2.tooFull) = true then (note (relayAll t2 es1 (SetTable.grown es1.size)).2.2 >>= fun _ =>
      storeSet a (relayAll t2 es1 (SetTable.grown es1.size)).1 (relayAll t2 es1 (SetTable.grown es1.size)).2.1 >>= fun _ => pure (some true)) else pure (some true)) R E s := by
  refine wpAny_bind (wpAny_storeSet_of ho hd ?_ (fits_of_scanBound k1.few))
  have at1 := store_at (es' := es1) (t' := t2) ho hd
  have same1 := Heap.SameBut.update s.heap a (Obj.putSet es1 t2)
  by_cases full : (!wd && t2.tooFull) = true
  · rw [if_pos full]
    have p2 := relayAll_perm t2 es1 (SetTable.grown es1.size)
    have f2 := relayAll_fits t2 es1 (SetTable.grown es1.size)
    have r2 := relayAll_ris t2 es1 (SetTable.grown es1.size)
    have l2 := relayAll_led t2 es1 (SetTable.grown es1.size)
    generalize relayAll t2 es1 (SetTable.grown es1.size) = z at *
    have size2 : z.1.size = es1.size := by
      have := p2.length_eq
      simpa using this
    refine wpAny_bind (hn _ _ _ ?_)
    refine wpAny_bind (wpAny_storeSet_of at1 rfl ?_ (fits_of_scanBound (by rw [size2]; exact k1.few)))
    have at2 := store_at (es' := z.1) (t' := z.2.1) at1 rfl
    exact wpAny_pure (hR _ (same1.trans (Heap.SameBut.update _ a _)) ⟨_, z.1, _, z.2.1, at2, hx, rfl, fun e he => k1.ent e (p2.mem_iff.mp he), (p2.map _).trans k1.perm, k1.nd, by rw [size2]; exact k1.few, f2, r2, k1.led.imp id fun q => by rw [l2]; exact q⟩)
  · rw [if_neg full]
    exact wpAny_pure (hR _ same1 ⟨_, es1, _, t2, at1, hx, rfl, k1⟩)
theorem fits_off {t : SetTable} {n : Nat} {b : Bool} (h : t.fits n = true) : (if b = true then t else { t with plain := false }).fits n = true := by
  cases b <;> first | exact h | exact SetTable.fits_plain_off h
theorem stk_add {k : Key} {x : Value} {Q : Bool → Shared → Prop} (R : StK P w s.heap a ks) (rx : RelV (kV k) x) (room : ks.length + 1 < scanBound)
    (hQ : ∀ b h', Heap.SameBut a s.heap h' → StK P w h' a (addK ks k) → Q b { s with heap := h' }) :
    wpAny (model P w) A (setAddHashed a x ((mixKind P w).hash k)) Q E s := by
  obtain ⟨o, es, ep, t, ho, hx, hd, R0⟩ := R
  have isk : (mixKind P w).is k x = true := kV_is rx
  have scan := key_scan rx
  have elems := ent_elems R0.ent
  unfold setAddHashed setAddHashedIn
  refine wpAny_holding (wpAny_bind (wpAny_setState_of ho hd R0.fits ?_))
  dsimp only
  rw [byScan_of scan R0.few elems]
  simp only [↓reduceIte]
  unfold setAddByScan
  refine wpAny_bind ?_
  refine wpAny_bind (wpAny_rule (wpAny_bind (wpAny_setScan_of isk ho hd R0.fits elems ?_)))
  have mem : k ∈ ks ↔ ∃ e ∈ es.toList, (mixKind P w).is k e.2 = true := by
    rw [← R0.perm.mem_iff]
    unfold dks
    rw [List.mem_map]
    exact ⟨fun ⟨e, he, q⟩ => ⟨e, he, (ent_is (R0.ent e he) k).mpr q⟩, fun ⟨e, he, q⟩ => ⟨e, he, (ent_is (R0.ent e he) k).mp q⟩⟩
  cases found : List.findIdx? (fun e => (mixKind P w).is k e.2) es.toList with
  | some j =>
    dsimp only
    obtain ⟨hj, pj, _⟩ := List.findIdx?_eq_some_iff_getElem.mp found
    have hk : k ∈ ks := mem.mpr ⟨_, List.getElem_mem hj, pj⟩
    exact wpAny_pure (wpAny_pure (hQ _ s.heap (Heap.SameBut.refl a s.heap) (by unfold addK; rw [if_pos hk]; exact ⟨o, es, ep, t, ho, hx, hd, R0⟩)))
  | none =>
    dsimp only
    have hk : k ∉ ks := fun q => by
      obtain ⟨e, he, z⟩ := mem.mp q
      have := List.findIdx?_eq_none_iff.mp found e he
      rw [z] at this
      cases this
    have note : ∀ (b : Bool) (s₁ : Shared) (Q' : Unit → Shared → Prop), Q' () s₁ → wpAny (model P w) A (match b with | true => rule "set.scan.the-table-gave-way" | false => pure ()) Q' E s₁ := by
      intro b s₁ Q' q
      cases b
      · exact wpAny_pure q
      · exact wpAny_rule q
    have p1 := layNew_perm t es ((mixKind P w).hash k) x
    have f1 := layNew_fits t es ((mixKind P w).hash k) x
    have r1 := layNew_ris t es ((mixKind P w).hash k) x R0.ris
    have l1 := layNew_led t es ((mixKind P w).hash k) x
    generalize layNew t es ((mixKind P w).hash k) x = z at *
    obtain ⟨es1, t1, wd, gave⟩ := z
    dsimp only at p1 f1 r1 l1 ⊢
    rw [Array.toList_push] at p1
    have p2 : es1.toList.Perm (((mixKind P w).hash k, x) :: es.toList) := p1.trans (List.perm_append_singleton _ _)
    have dkx := dk_of rx
    have p3 : (dks es1).Perm (k :: ks) := by
      have := p2.map fun e => dk e.2
      rw [List.map_cons, dkx] at this
      exact this.trans (R0.perm.cons _)
    have few1 : es1.size < scanBound := by
      have h1 := p3.length_eq
      unfold dks at h1
      simp only [List.length_map, Array.length_toList, List.length_cons] at h1
      rw [h1]; exact room
    have led1 : w.params.followText "set-order" = true ∨ t1.led = true := R0.led.imp id fun q => by rw [l1]; exact q
    have ent1 : ∀ e ∈ es1.toList, EntK P w e := fun e he => by
      rcases List.mem_cons.mp (p2.mem_iff.mp he) with q | q
      · subst q
        exact ⟨by rw [dkx]; exact rx, by rw [dkx]⟩
      · exact R0.ent e q
    have fin : ∀ h', Heap.SameBut a s.heap h' → StK P w h' a (k :: ks) → Q true { s with heap := h' } := fun h' q1 q2 => hQ true h' q1 (by unfold addK; rw [if_neg hk]; exact q2)
    refine wpAny_bind (note _ _ _ ?_)
    by_cases pl : t1.plain = true
    · rw [if_pos pl]
      refine wpAny_bind ?_
      rw [hashByValue_scannable 8 scan]
      refine wpAny_pure ?_
      refine stk_tail (ks1 := k :: ks) note ho hx hd ⟨ent1, p3, List.nodup_cons.mpr ⟨hk, R0.nd⟩, few1, fits_off f1, ?_, ?_⟩ fun h' q1 q2 => wpAny_pure (fin h' q1 q2)
      · split <;> exact r1
      · split <;> exact led1
    · rw [if_neg pl]
      refine wpAny_bind (wpAny_pure ?_)
      simp only [↓reduceIte]
      exact stk_tail (ks1 := k :: ks) note ho hx hd ⟨ent1, p3, List.nodup_cons.mpr ⟨hk, R0.nd⟩, few1, f1, r1, led1⟩ fun h' q1 q2 => wpAny_pure (fin h' q1 q2)
theorem vals_get {xs : List Key} {vs : List Value} (r : Vals (xs.map kV) vs) {i : Nat} {v : Value} (h : vs[i]? = some v) : ∃ k, xs[i]? = some k ∧ RelV (kV k) v := by
  have hl : i < vs.length := (List.getElem?_eq_some_iff.mp h).1
  have hn := r.length
  rw [List.length_map] at hn
  have hx : (xs.map kV)[i]? = some (kV (xs[i]'(by omega))) := by rw [List.getElem?_map, List.getElem?_eq_getElem (by omega)]; rfl
  obtain ⟨u, hu, ru⟩ := r.get hx
  rw [h] at hu
  cases hu
  exact ⟨_, List.getElem?_eq_getElem (by omega), ru⟩
/-- the walk that puts the items in -/
theorem stk_loop {Rz : Result → Shared → Prop} {I : Addr} {fp wr : List Addr} {G : Array GenState → Array GenState → Prop} {n : Nat} {Pv : Nat → Value → Prop} {St : Nat → Shared → Prop} (W : WalksS P w A.in1 I fp wr G n Pv St) {xs : List Key}
    (away : a ∉ fp) (val : ∀ i v, Pv i v → ∃ k, xs[i]? = some k ∧ RelV (kV k) v) (len : xs.length = n) (room : n + 1 < scanBound) :
    ∀ (left i : Nat) (s : Shared), i + left = n → St i s → StK P w s.heap a (onceK (xs.take i)) →
      (∀ s', Moved (a :: wr) G s s' → StK P w s'.heap a (onceK xs) → Rz (.ok (.ret .none)) s') → codeAny (model P w) A (.builtin "set.update.loop" ⟨[.ref a, .ref I], []⟩) Rz s := by
  have sub1 : ∀ b ∈ wr, b ∈ a :: wr := fun b => List.mem_cons_of_mem _
  have awr : a ∉ wr := fun q => away (W.sub _ q)
  intro left
  induction left with
  | zero =>
    intro i s e st R hR
    obtain rfl : i = n := e
    refine codeAny_builtin PyProof.Rows.F.entry_set_update_loop ?_
    rw [Around.under_plainId PyProof.Rows.F.plain_set_update_loop _]
    show wpAny _ A.in1 (pyNext (.ref I) >>= _) _ _ s
    refine wpAny_bind (W.done s _ _ st fun s' mv => ?_)
    refine wpAny_pure (hR s' (mv.mono sub1) ?_)
    rw [← len, List.take_length] at R
    exact R.at fun o q => mv.heap a o awr q
  | succ left ih =>
    intro i s e st R hR
    refine codeAny_builtin PyProof.Rows.F.entry_set_update_loop ?_
    rw [Around.under_plainId PyProof.Rows.F.plain_set_update_loop _]
    show wpAny _ A.in1 (pyNext (.ref I) >>= _) _ _ s
    refine wpAny_bind (W.item i s _ _ (by omega) st fun v s1 pv st1 mv => ?_)
    obtain ⟨k, hk, rk⟩ := val i v pv
    have R1 := R.at (h' := s1.heap) fun o q => mv.heap a o awr q
    show wpAny _ A.in1 (holding [v] (setAdd a v) >>= _) _ _ s1
    refine wpAny_bind (wpAny_holding ?_)
    unfold setAdd
    refine wpAny_holding (wpAny_bind ((mixKind P w).pyHash (kV_is rk) ?_))
    have few : (onceK (xs.take i)).length + 1 < scanBound := by
      have := onceK_len (xs.take i) []
      simp only [List.length_take, List.length_nil] at this
      unfold onceK; omega
    refine stk_add (s := { s1 with toks := s1.toks + 1 }) R1 rk few fun b h' sb R2 => ?_
    rw [← onceK_take hk] at R2
    refine wpAny_pure ⟨plainId_quiet PyProof.Rows.F.plain_set_update_loop _, ih (i + 1) _ (by omega) (W.frame _ s1 _ _ st1 (Nat.le_succ _) fun c hc o q => ?_) R2 fun s2 mv2 R3 => ?_⟩
    · rw [sb.2 c (fun z => away (z ▸ hc))]; exact q
    · refine hR s2 (Moved.trans W.gtrans ((mv.mono sub1).then_heap (Nat.le_succ _) fun c o hc q => ?_) mv2) R3
      rw [sb.2 c (fun z => hc (z ▸ List.mem_cons_self))]; exact q
end
end VL
/-! set(xs) of ints and texts; sorted and len of it -/
namespace VL
open PySem PySem.Spec PyProof.Rows L2
abbrev set0 (led : Bool) : Obj := { cls := .type "set", dict := none, data := .set #[] 0 (.fresh 0 0 led) }
section
variable {P : Program} {w : World} {A : Around} {E : Value → Shared → Prop} {s : Shared} {a : Addr} {ks : List Key}
theorem stk_fresh {h : Heap} (ho : h.get? a = some (set0 (!w.params.followText "set-order"))) : StK P w h a [] :=
  ⟨_, #[], 0, _, ho, ⟨rfl, rfl, rfl⟩, rfl, (fun e he => by simp at he), (by simp [dks]), List.nodup_nil, (by decide), (by rfl), List.Pairwise.nil, by
    show _ ∨ (!w.params.followText "set-order") = true
    cases w.params.followText "set-order"
    · exact .inr rfl
    · exact .inl rfl⟩
theorem code_new1 (x : Value) {Q₁ : Value → Shared → Prop}
    (h : Q₁ (.ref s.heap.objs.size) { s with heap := s.heap.push (set0 (!w.params.followText "set-order")) }) : codeAny (model P w) A (.call (.builtin "set.__new__") ⟨[.type "set", x], []⟩) (wants Q₁ E) s := by
  refine codeAny_of_tree ?_
  show wpAny _ A.in1 (checkBuiltinCall "set.__new__" ⟨[.type "set", x], []⟩ >>= fun _ => again (.builtin "set.__new__" ⟨[.type "set", x], []⟩)) _ _ s
  refine wpAny_bind (wpAny_of_eq (PySem.F.newCall_set_1 x) (wpAny_pure ⟨plainId_quiet PySem.F.plain_set_new _, codeAny_builtin PySem.F.entry_set_new ?_⟩))
  rw [Around.under_plainId PySem.F.plain_set_new _]
  unfold Builtin.«set.__new__» Builtin.Frozenset.newClass
  have sub := sub_set_self
  obtain ⟨hp, g, d, tk, os⟩ := s
  dsimp only
  wp_walk
  refine wpAny_askSetting (wpAny_pure ?_)
  dsimp only
  simp only [newObj]
  exact wpAny_bind (wpAny_alloc (wpAny_pure (wpAny_pure h)))
theorem call_set_keys {l : Addr} {its : Array Value} {xs : List Key} {Q : Value → Shared → Prop} (hh : A.handled = none) (hl : s.heap.IsList l its) (hv : Vals (xs.map kV) its.toList) (few : its.size + 1 < scanBound)
    (h : ∀ (h' : Heap) (tk : Nat), StK P w h' s.heap.objs.size (onceK xs) → (∀ b o, b < s.heap.objs.size → s.heap.get? b = some o → h'.get? b = some o) → Q (.ref s.heap.objs.size) { s with heap := h', toks := tk }) :
    wpAny (model P w) A (call (.type "set") [.ref l]) Q E s := by
  obtain ⟨c, tl, hmro⟩ := PySem.F.called_set.mro
  have hmade := PySem.F.called_set.made
  have hsub := PySem.F.called_set.sub
  refine wpAny_call (codeAny_of_tree ?_)
  show wpAny _ _ (callAny (.type "set") _) _ _ _
  refine wpAny_pure ⟨Code.quiet_builtin _ (by decide +kernel), codeAny_builtin PySem.F.entry_type_call ?_⟩
  rw [Around.under_plain (weight_type_call_type "set" [.ref l] []) rfl]
  have t1 := PySem.F.called_set.notType
  have t2 := PySem.F.called_set.canCreate
  have t3 := PySem.F.typeCall_set_1 (.ref l)
  repeat (any_goals (first | assumption | wp_step))
  refine codeAny_mono (code_new1 (.ref l) (E := E) (Q₁ := fun obj s₁ => obj = .ref s.heap.objs.size ∧ s₁ = { s with heap := s.heap.push (set0 (!w.params.followText "set-order")) }) ⟨rfl, rfl⟩) fun r s₁ hr => ?_
  cases r with
  | error e => exact hr
  | ok fl =>
    cases fl with
    | ret obj =>
      obtain ⟨rfl, rfl⟩ := hr
      have new : (s.heap.push (set0 (!w.params.followText "set-order"))).get? s.heap.objs.size = some (set0 (!w.params.followText "set-order")) := Heap.get?_push_size _ rfl
      have typ : Shared.TypeIs { s with heap := s.heap.push (set0 (!w.params.followText "set-order")) } (.ref s.heap.objs.size) "set" := ⟨_, new, rfl⟩
      have t4 := PySem.F.called_set.init.lookup
      have t5 := PySem.F.called_set.init.bind (.ref s.heap.objs.size)
      repeat (any_goals (first | assumption | wp_step))
      refine codeAny_mono (codeAny_call_builtin (R := wants (fun r s₂ => r = .none ∧ ∃ h' tk, s₂ = { s with heap := h', toks := tk } ∧ StK P w h' s.heap.objs.size (onceK xs) ∧
        ∀ b o, b < s.heap.objs.size → s.heap.get? b = some o → h'.get? b = some o) E) PySem.F.called_set.init.plain PySem.F.entry_set_init (check_set_init_1 typ ?_)) fun r₂ s₂ hr₂ => ?_
      · obtain ⟨ol, hol, hcl, nl, hdl⟩ := hl
        obtain ⟨ocls, odict, odata, oslots⟩ := ol
        simp only at hcl hdl
        subst hcl; subst hdl
        have stands : (s.heap.push (set0 (!w.params.followText "set-order"))).IsList l its := ⟨_, Heap.get?_push_of_some _ hol, rfl, nl, rfl⟩
        have hol' := Heap.get?_push_of_some (set0 (!w.params.followText "set-order")) hol
        have u1 := PySem.F.sub_list_set
        have u2 := PySem.F.sub_list_frozenset
        have u3 : (Value.type "list" == Value.type "dict") = false := by decide
        unfold Builtin.«set.__init__» noKeywords Builtin.Frozenset.updateFrom
        generalize keep : pyIter = PI
        wp_walk
        subst keep
        refine wpAny_pyIter_list stands ?_
        refine wpAny_bind (wpAny_runValue ?_)
        have lt : l < s.heap.objs.size := Heap.lt_size hol
        have in3 : A.in1.in1.in1.handled = none := by simp [hh]
        have apart : l ≠ (s.heap.push (set0 (!w.params.followText "set-order"))).objs.size := by
          rw [Heap.size_push]
          exact Nat.ne_of_lt (Nat.lt_succ_of_lt lt)
        have away : s.heap.objs.size ∉ [(s.heap.push (set0 (!w.params.followText "set-order"))).objs.size, l] := by
          rw [Heap.size_push]
          simp only [List.mem_cons, List.not_mem_nil, or_false, not_or]
          exact ⟨Nat.ne_of_lt (Nat.lt_succ_self _), Nat.ne_of_gt lt⟩
        have size : xs.length = its.size := by
          have := hv.length
          simpa using this
        refine stk_loop ((PySem.Walks.list in3 _ l apart its).toS) (xs := xs) away (fun i v hi => vals_get hv (by rw [Array.getElem?_toList]; exact hi)) size few its.size 0 _ (by omega)
          ⟨⟨_, Heap.get?_push_size _ rfl, rfl, rfl⟩, (stands.push _)⟩ ?_ ?_
        · exact stk_fresh (Heap.get?_push_of_some _ new)
        · intro s' mv R
          obtain ⟨h', g', d', tk', os'⟩ := s'
          obtain rfl : g' = s.gens := mv.gens
          obtain rfl : d' = s.drawn := mv.drawn
          obtain rfl : os' = s.os := mv.os
          show wpAny _ _ _ _ _ _
          refine wpAny_pure ?_
          show wpAny _ _ (ret Value.none) _ _ _
          refine wpAny_pure ⟨rfl, h', tk', rfl, R, fun b o hb e => ?_⟩
          refine mv.heap b o ?_ (Heap.get?_push_of_some _ (Heap.get?_push_of_some _ e))
          rw [Heap.size_push]
          simp only [List.mem_cons, List.not_mem_nil, or_false, not_or]
          exact ⟨Nat.ne_of_lt hb, Nat.ne_of_lt (Nat.lt_succ_of_lt hb)⟩
      · cases r₂ with
        | error e => exact hr₂
        | ok fl₂ =>
          cases fl₂ with
          | ret r =>
            obtain ⟨rfl, h', tk, rfl, R, old⟩ := hr₂
            repeat (any_goals (first | assumption | wp_step))
            exact h _ _ R old
          | _ => exact hr₂.elim
    | _ => exact hr.elim
end
end VL
/-! sorted(..) of what can be gathered -/
namespace VL
open PySem PySem.Spec PyProof.Rows L2
section
variable {X : Cx} {pins : List (Addr × Obj)} {σ : L2.St} {H : Hp} {s : Shared} {v : Value} {Q : VK}
/-- what gathering v gives -/
def Gath (X : Cx) (pins : List (Addr × Obj)) (σ : L2.St) (H : Hp) (s : Shared) (v : Value) (good : List Value → Prop) : Prop :=
  ∀ (R : List Value → Shared → Prop), (∀ acc s1, Inv X pins σ H s1 → good acc → R acc s1) → wpAny (model X.prog X.w) X.A.in1 (collect v) R X.xe s
theorem sorted_by {good : List Value → Prop} {out : List V → Prop} (g : Gath X pins σ H s v good) (few : ∀ acc, good acc → acc.length < 64)
    (srt : ∀ (acc : List Value) (s1 : Shared) (a : Addr), good acc → s1.heap.get? a = some (seqObj "list" acc.toArray 0) → ∀ (R : PySem.Fin → Shared → Prop), (∀ o ys, Vals ys o.toList → ys.length = acc.length → out ys → R (.done (.ret .none)) { s1 with heap := sortedHeap s1.heap a acc o }) →
      wpAny (model X.prog X.w) X.A.in1.in1 (Builtin.«list.sort» ⟨[.ref a], []⟩) R X.xe s1)
    (q : ∀ ys p, out ys → H p = none → Q (.ref p) (upd H p (.lst ys))) : wpAny (model X.prog X.w) X.A (call (.builtin "sorted") [v]) (EP X pins σ Q) X.xe s := by
  refine Calls.call_function_entry kind_sorted plain_sorted entry_sorted (args_sorted1 _) ?_
  unfold Builtin.«sorted»
  refine wpAny_bind (m := checkCount "sorted" 1 1 _) (wpAny_pure ?_)
  refine wpAny_bind (g _ fun acc s1 I1 ga => ?_)
  have h64 := few acc ga
  refine wpAny_bind (wpAny_newList ?_ (by rw [sizeLine_eq]; omega))
  have here : (s1.heap.push (seqObj "list" acc.toArray 0)).get? s1.heap.objs.size = some (seqObj "list" acc.toArray 0) := Heap.get?_push_size _ rfl
  refine wpAny_bind (wpAny_holding (wpAny_call_entry slot_list_sort ⟨_, here, rfl⟩ entry_list_sort (srt acc { s1 with heap := s1.heap.push (seqObj "list" acc.toArray 0) } _ ga here _ fun o ys r hl ho => ⟨_, rfl, ?_⟩) (args_list_sort _)))
  obtain ⟨ep, at1⟩ := sortedHeap_at (vs := acc) (out := o) here
  have len : ys.length ≤ sizeLine := by rw [hl, sizeLine_eq]; omega
  refine wpAny_pure ⟨_, rfl, .ref s1.heap.objs.size, upd H s1.heap.objs.size (.lst ys), I1.laid (t' := s1.toks) (fun b u e => ?_) (Nat.le_refl _) (show ObjOk X.prog X.w _ _ _ (.lst ys) from ⟨len, o.toList, ep, r, by rw [Array.toArray_toList]; exact at1⟩), rfl, q ys _ ho (I1.hok.fresh (Nat.le_refl _))⟩
  have lt : b < s1.heap.objs.size := Heap.lt_size e
  show (sortedHeap (s1.heap.push (seqObj "list" acc.toArray 0)) s1.heap.objs.size acc o).get? b = some u
  rw [sortedHeap_old (Nat.ne_of_lt lt) (by rw [size_push']; exact Nat.lt_succ_of_lt lt)]
  exact Heap.get?_push_of_some _ e
theorem sorted_int {ns : List Int} (h64 : ns.length < 64) (g : Gath X pins σ H s v fun acc => ∃ ms, IntsAre acc ms ∧ ms.Perm ns) (q : ∀ (ms : List Int) p, ms.Perm ns → ms.Pairwise (· ≤ ·) → H p = none → Q (.ref p) (upd H p (.lst (ms.map V.int)))) :
    wpAny (model X.prog X.w) X.A (call (.builtin "sorted") [v]) (EP X pins σ Q) X.xe s := by
  refine sorted_by (out := fun ys => ∃ ms : List Int, ys = ms.map V.int ∧ ms.Perm ns ∧ ms.Pairwise (· ≤ ·)) g (fun acc ⟨ms, h1, h2⟩ => ?_) (fun acc s1 a ⟨ms, h1, h2⟩ ha R hR => ?_) fun ys p ⟨ms, e, h1, h2⟩ hp => by subst e; exact q ms p h1 h2 hp
  · rw [h1.length, h2.length_eq]; exact h64
  · refine list_sort_tree ha h1 (by rw [h1.length, h2.length_eq]; exact h64) fun o ms' k1 k2 k3 => hR o (ms'.map V.int) (vals_of_ints k1) ?_ ⟨ms', rfl, k2.trans h2, k3⟩
    rw [List.length_map, k2.length_eq, h1.length]
theorem sorted_str {ns : List Str} (h64 : ns.length < 64) (g : Gath X pins σ H s v fun acc => ∃ ms, StrsAre acc ms ∧ ms.Perm ns) (q : ∀ (ms : List Str) p, ms.Perm ns → sortedS ms = true → H p = none → Q (.ref p) (upd H p (.lst (ms.map V.str)))) :
    wpAny (model X.prog X.w) X.A (call (.builtin "sorted") [v]) (EP X pins σ Q) X.xe s := by
  refine sorted_by (out := fun ys => ∃ ms : List Str, ys = ms.map V.str ∧ ms.Perm ns ∧ sortedS ms = true) g (fun acc ⟨ms, h1, h2⟩ => ?_) (fun acc s1 a ⟨ms, h1, h2⟩ ha R hR => ?_) fun ys p ⟨ms, e, h1, h2⟩ hp => by subst e; exact q ms p h1 h2 hp
  · rw [h1.len_eq, h2.length_eq]; exact h64
  · refine list_sort_treeK strKind_oneLt ha h1.keysOf (fun v₁ v₂ rest e => keyKind_strs (by rw [← e]; exact h1)) (by rw [h1.len_eq, h2.length_eq]; exact h64) fun st hp hs => ?_
    obtain ⟨ms', k1, k2, k3⟩ := sorted_out_str h1 hp hs
    refine hR _ (ms'.map V.str) (vals_of_strs k1) ?_ ⟨ms', rfl, k2.trans h2, k3⟩
    rw [List.length_map, k2.length_eq, h1.len_eq]
/-! ### what can be gathered -/
theorem gath_list (I : Inv X pins σ H s) {l : Addr} {vs : List Value} (hl : s.heap.IsList l vs.toArray) (hn : vs.length ≤ sizeLine) : Gath X pins σ H s (.ref l) (· = vs) := fun R k => by
  refine collect_list hl (k vs _ (I.kept (t' := s.toks) fun b u e => ?_) rfl) hn
  have lt : b < s.heap.objs.size := Heap.lt_size e
  exact (Heap.get?_update_other _ _ (Nat.ne_of_gt lt)).trans (Heap.get?_push_of_some _ e)
theorem gath_dict (hc : X.calm = true) (I : Inv X pins σ H s) {a : Addr} {kvs : List (Key × V)} (hd : Rd H a (.dK kvs)) : Gath X pins σ H s (.ref a) fun acc => Vals ((kvs.map (·.1)).map kV) acc := fun R k => by
  obtain ⟨z, lo, vs, rel, dd⟩ := dk_rd I.hok hd
  obtain ⟨ep, hat⟩ := dd.dictAt
  refine PySem.W.kdu_collect (A := X.A.in1) (PySem.W.kdl_dict (knd := mixKind X.prog X.w) (kvs := vs) (ep := ep) lo) (I.ok.hd hc) hat (by rw [← rel.length]; exact z) fun h' tk acc keep items => k _ _ (I.kept keep) ?_
  have e : (kvs.map (·.1)).map kV = vs.map fun p => kV p.1 := by rw [rel.keys, List.map_map]; rfl
  rw [e]
  exact keys_at (by rw [Array.length_toList]; exact items.1) fun j u q => items.2 j u (by rw [← Array.getElem?_toList]; exact q)
def StO (P : Program) (w : World) (a : Addr) (ks : List Key) : HO := .ext fun h => StK P w h a ks
theorem stO_new {P : Program} {w : World} {h : Heap} {a : Addr} {ks : List Key} (R : StK P w h a ks) : ObjOk P w H h a (StO P w a ks) := by
  have ⟨o, _, _, _, ho, _⟩ := R
  exact ⟨R, ⟨o, ho⟩, fun h1 h2 p k => StK.at p k⟩
theorem gath_set (hc : X.calm = true) (I : Inv X pins σ H s) {a : Addr} {ks : List Key} (ha : H a = some (StO X.prog X.w a ks)) : Gath X pins σ H s (.ref a) fun acc => ∃ js : List Key, Vals (js.map kV) acc ∧ js.Perm ks := fun R k => by
  obtain ⟨o, es, ep, t, ho, hx, hd, R0⟩ := (I.hok a _ ha).1
  refine collect_set (A := X.A.in1) (I.ok.hd hc) ⟨o, ho, hx.1, hd⟩ R0.fits R0.few R0.ris R0.led fun s1 out k1 hz g1 o1 pm => k out s1 (I.call' (ch := []) o1 (Un.kept k1) (I.hok.kept k1) (by rw [g1]; exact I.bare) fun _ z => nomatch z) ⟨out.map dk, ?_, ?_⟩
  · have all : ∀ u ∈ out, RelV (kV (dk u)) u := fun u hu => by
      obtain ⟨e, he, rfl⟩ := List.mem_map.mp (pm.mem_iff.mp hu)
      exact (R0.ent e he).1
    clear pm
    induction out with
    | nil => exact .nil
    | cons u out ih => exact .cons (all u List.mem_cons_self) (ih fun z hz => all z (List.mem_cons_of_mem _ hz))
  · have := pm.map dk
    rw [List.map_map] at this
    exact this.trans R0.perm
theorem ints_keys {ns : List Int} {acc : List Value} (r : Vals ((ns.map Sum.inl : List Key).map kV) acc) : IntsAre acc ns := by
  have e : (ns.map (Sum.inl : Int → Key)).map kV = ns.map V.int := by rw [List.map_map]; rfl
  rw [e] at r
  exact r.ints
theorem strs_keys {ns : List Str} {acc : List Value} (r : Vals ((ns.map Sum.inr : List Key).map kV) acc) : StrsAre acc ns := by
  have e : (ns.map (Sum.inr : Str → Key)).map kV = ns.map V.str := by rw [List.map_map]; rfl
  rw [e] at r
  exact r.strs
theorem Gath.imp {f g : List Value → Prop} (h : Gath X pins σ H s v f) (i : ∀ acc, f acc → g acc) : Gath X pins σ H s v g := fun R k => h R fun acc s1 I1 fa => k acc s1 I1 (i acc fa)
theorem perm_inl {js : List Key} {ns : List Int} (h : js.Perm (ns.map Sum.inl)) : ∃ ms : List Int, js = ms.map Sum.inl ∧ ms.Perm ns := by
  have all : ∀ k ∈ js, ∃ i, k = Sum.inl i := fun k hk => by
    obtain ⟨i, _, rfl⟩ := List.mem_map.mp (h.mem_iff.mp hk)
    exact ⟨i, rfl⟩
  refine ⟨js.filterMap fun | .inl i => some i | .inr _ => none, ?_, ?_⟩
  · clear h
    induction js with
    | nil => rfl
    | cons k js ih =>
      obtain ⟨i, rfl⟩ := all k List.mem_cons_self
      simp only [List.filterMap_cons, List.map_cons]
      rw [← ih fun z hz => all z (List.mem_cons_of_mem _ hz)]
  · have := h.filterMap fun | Sum.inl i => some i | Sum.inr _ => none
    rw [List.filterMap_map] at this
    refine this.trans ?_
    have e : (ns.filterMap ((fun (k : Key) => match k with | Sum.inl i => some i | Sum.inr _ => none) ∘ Sum.inl)) = ns := by
      induction ns with
      | nil => rfl
      | cons n ns ih => simp [Function.comp_def] 
    exact .of_eq e
theorem perm_inr {js : List Key} {ns : List Str} (h : js.Perm (ns.map Sum.inr)) : ∃ ms : List Str, js = ms.map Sum.inr ∧ ms.Perm ns := by
  have all : ∀ k ∈ js, ∃ i, k = Sum.inr i := fun k hk => by
    obtain ⟨i, _, rfl⟩ := List.mem_map.mp (h.mem_iff.mp hk)
    exact ⟨i, rfl⟩
  refine ⟨js.filterMap fun | .inr i => some i | .inl _ => none, ?_, ?_⟩
  · clear h
    induction js with
    | nil => rfl
    | cons k js ih =>
      obtain ⟨i, rfl⟩ := all k List.mem_cons_self
      simp only [List.filterMap_cons, List.map_cons]
      rw [← ih fun z hz => all z (List.mem_cons_of_mem _ hz)]
  · have := h.filterMap fun | Sum.inr i => some i | Sum.inl _ => none
    rw [List.filterMap_map] at this
    refine this.trans ?_
    have e : (ns.filterMap ((fun (k : Key) => match k with | Sum.inr i => some i | Sum.inl _ => none) ∘ Sum.inr)) = ns := by
      induction ns with
      | nil => rfl
      | cons n ns ih => simp [Function.comp_def]
    exact .of_eq e
end
end VL
/-! orders; data of sorted, set -/
namespace VL
open PySem PySem.Spec PyProof.Rows L2
theorem int_sort_eq {ms ns : List Int} (h : ms.Perm ns) (p : ms.Pairwise (· ≤ ·)) : ms = sortI ns := by
  have q : (sortI ns).Pairwise (· ≤ ·) := by
    have := List.pairwise_mergeSort (le := fun a b : Int => decide (a ≤ b)) (fun a b c h1 h2 => by simp at *; omega) (fun a b => by simp; omega) ns
    exact this.imp fun h => of_decide_eq_true h
  exact List.Perm.eq_of_pairwise (le := (· ≤ ·)) (fun a b _ _ h1 h2 => Int.le_antisymm h1 h2) p q (h.trans (List.mergeSort_perm _ _).symm)
theorem ltCps_iff : ∀ {a b : List Nat}, ltCps a b = true ↔ a < b
  | [], [] => by simp [ltCps]
  | [], b :: bs => by simp [ltCps]
  | a :: as, [] => by simp [ltCps]
  | a :: as, b :: bs => by
    have ih := ltCps_iff (a := as) (b := bs)
    simp only [ltCps]
    rw [List.cons_lt_cons_iff]
    by_cases h1 : a < b
    · simp [h1]
    · by_cases h2 : a = b
      · subst h2; simp [ih]
      · simp [h1, h2]
theorem strLe_iff {x y : Str} : strLe x y = true ↔ x.cps.toList ≤ y.cps.toList := by
  unfold strLe
  rw [decide_eq_true_iff]; rfl
theorem strLe_trans (a b c : Str) (h1 : strLe a b = true) (h2 : strLe b c = true) : strLe a c = true := by
  rw [strLe_iff] at *
  exact List.le_trans h1 h2
theorem strLe_total (a b : Str) : (strLe a b || strLe b a) = true := by
  rw [Bool.or_eq_true, strLe_iff, strLe_iff]
  exact List.le_total _ _
theorem str_ext {x y : Str} (h : x.cps.toList = y.cps.toList) : x = y := by
  cases x; cases y
  simp only at h
  congr
  exact Array.toList_inj.mp h
theorem strLe_anti {a b : Str} (h1 : strLe a b = true) (h2 : strLe b a = true) : a = b := by
  rw [strLe_iff] at *
  exact str_ext (List.le_antisymm h1 h2)
theorem rising_le : ∀ {xs : List Str} {p : Str}, risingS p xs = true → (p :: xs).Pairwise fun a b => strLe a b = true
  | [], p, _ => by simp
  | x :: xs, p, h => by
    simp only [risingS, Bool.and_eq_true, Bool.not_eq_true'] at h
    have ih := rising_le h.2
    have le : strLe p x = true := by
      rw [strLe_iff]
      intro hlt
      have := ltCps_iff.mpr hlt
      rw [this] at h
      exact absurd h.1 (by decide)
    refine List.pairwise_cons.mpr ⟨fun y hy => ?_, ih⟩
    rcases List.mem_cons.mp hy with rfl | hy
    · exact le
    · exact strLe_trans _ _ _ le ((List.pairwise_cons.mp ih).1 y hy)
theorem str_sort_eq {ms ns : List Str} (h : ms.Perm ns) (p : sortedS ms = true) : ms = sortS ns := by
  have p' : ms.Pairwise fun a b => strLe a b = true := by
    cases ms with
    | nil => exact List.Pairwise.nil
    | cons x xs => exact rising_le p
  have q : (sortS ns).Pairwise fun a b => strLe a b = true := List.pairwise_mergeSort strLe_trans strLe_total ns
  exact List.Perm.eq_of_pairwise (fun a b _ _ h1 h2 => strLe_anti h1 h2) p' q (h.trans (List.mergeSort_perm _ _).symm)
theorem once_map {α β : Type} {f : α → β} (inj : ∀ a b, f a = f b → a = b) : ∀ (l acc : List α), (l.map f).foldl addO (acc.map f) = (l.foldl addO acc).map f
  | [], acc => rfl
  | x :: l, acc => by
    simp only [List.map_cons, List.foldl_cons]
    have e : f x ∈ acc.map f ↔ x ∈ acc := by
      rw [List.mem_map]
      exact ⟨fun ⟨y, hy, q⟩ => by rw [← inj _ _ q]; exact hy, fun h => ⟨x, h, rfl⟩⟩
    have e2 : addO (acc.map f) (f x) = (addO acc x).map f := by
      unfold addO
      by_cases h : x ∈ acc
      · rw [if_pos (e.mpr h), if_pos h]
      · rw [if_neg (fun q => h (e.mp q)), if_neg h]; rfl
    rw [e2]
    exact once_map inj l _
theorem onceK_eq (l : List Key) : onceK l = once l := rfl
theorem once_inl (ns : List Int) : onceK (ns.map Sum.inl) = (once ns).map Sum.inl := by
  rw [onceK_eq]; exact once_map (f := (Sum.inl : Int → Key)) (fun a b h => by cases h; rfl) ns []
theorem once_inr (ns : List Str) : onceK (ns.map Sum.inr) = (once ns).map Sum.inr := by
  rw [onceK_eq]; exact once_map (f := (Sum.inr : Str → Key)) (fun a b h => by cases h; rfl) ns []
theorem once_len {α : Type} (l : List α) : (once l).length ≤ l.length := by
  have : ∀ (l acc : List α), (l.foldl addO acc).length ≤ acc.length + l.length := by
    intro l
    induction l with
    | nil => intro acc; exact Nat.le_refl _
    | cons x l ih =>
      intro acc
      simp only [List.foldl_cons, List.length_cons]
      have := ih (addO acc x)
      have h2 : (addO acc x).length ≤ acc.length + 1 := by unfold addO; split <;> simp
      omega
  have := this l []
  simpa [once] using this
theorem intsD_map {l : List Int} : intsD (l.map D.int) = some l := by
  induction l with
  | nil => rfl
  | cons a l ih => simp [intsD, ih]
theorem strsD_map' {l : List Str} : strsD (l.map D.str) = some l := by
  induction l with
  | nil => rfl
  | cons a l ih => simp [strsD, ih]
theorem intsD_strs {a : Str} {l : List Str} : intsD ((a :: l).map D.str) = none := rfl
theorem intsD_eq : ∀ {l : List D} {ns : List Int}, intsD l = some ns → l = ns.map D.int
  | [], ns, h => by simp only [intsD, Option.some.injEq] at h; subst h; rfl
  | d :: l, ns, h => by
    cases d <;> simp only [intsD] at h <;> first
      | (cases h; done)
      | skip
    rw [Option.map_eq_some_iff] at h
    obtain ⟨ms, h1, rfl⟩ := h
    rw [intsD_eq h1]; rfl
theorem strsD_eq : ∀ {l : List D} {ns : List Str}, strsD l = some ns → l = ns.map D.str
  | [], ns, h => by simp only [strsD, Option.some.injEq] at h; subst h; rfl
  | d :: l, ns, h => by
    cases d <;> simp only [strsD] at h <;> first
      | (cases h; done)
      | skip
    rw [Option.map_eq_some_iff] at h
    obtain ⟨ms, h1, rfl⟩ := h
    rw [strsD_eq h1]; rfl
end VL
/-! VL: sorted, sorted(set(..)), pop, min, max, methods of an item -/
namespace VL
open PySem PySem.Spec PyProof.Rows L2
section
variable {X : Cx} {CA : Ct} {e a b c o : Expr} {es : List Expr} {pos apos cpos : Pos} {f g h : Ev} {fa : EvN} {k : Nat}
theorem MR.pInts {H : Hp} {R : List Addr} {L : List VD} (ns : List Int) (m : MR CA H R L) : MR CA H R ((ns.map V.int).zip (ns.map D.int) ++ L) := by
  induction ns with
  | nil => exact m
  | cons n ns ih => exact ih.pInt
theorem MR.pStrs {H : Hp} {R : List Addr} {L : List VD} (ns : List Str) (m : MR CA H R L) : MR CA H R ((ns.map V.str).zip (ns.map D.str) ++ L) := by
  induction ns with
  | nil => exact m
  | cons n ns ih => exact ih.pStr
/-- sorted(d), the keys ints -/
theorem call_sortedDI (hc : X.calm = true) : CallR X (.builtin "sorted") (fun xs H Q => ∃ (a : Addr) (kvs : List (Key × V)) (ns : List Int), xs = [.ref a] ∧ Rd H a (.dK kvs) ∧ kvs.map (·.1) = ns.map Sum.inl ∧ ns.length < 64 ∧
    ∀ (ms : List Int) p, ms.Perm ns → ms.Pairwise (· ≤ ·) → H p = none → Q (.ref p) (upd H p (.lst (ms.map V.int)))) := by
  intro pins s σ H xs us Q I r q
  obtain ⟨a, kvs, ns, rfl, hd, hk, h64, q⟩ := q
  obtain ⟨u, rfl, rx⟩ := vals1 r
  cases rx
  refine sorted_int h64 ((gath_dict hc I hd).imp fun acc r => ⟨ns, ?_, .refl _⟩) q
  rw [hk] at r
  exact ints_keys r
def rSrt (K : PySem.W.Frag) : List V → Hp → VK → Prop := fun xs H Q => rSorted K xs H Q ∨ (rSortedS K xs H Q ∨ ((∃ (a : Addr) (kvs : List (Key × V)) (ns : List Int), xs = [.ref a] ∧ Rd H a (.dK kvs) ∧ kvs.map (·.1) = ns.map Sum.inl ∧ ns.length < 64 ∧
    ∀ (ms : List Int) p, ms.Perm ns → ms.Pairwise (· ≤ ·) → H p = none → Q (.ref p) (upd H p (.lst (ms.map V.int)))) ∨ ∃ (a : Addr) (kvs : List (Key × V)) (ks : List Str), xs = [.ref a] ∧ Rd H a (.dK kvs) ∧ kvs.map (·.1) = ks.map Sum.inr ∧ ks.length < 64 ∧
    ∀ ys p, ys.Perm ks → sortedS ys = true → H p = none → Q (.ref p) (upd H p (.lst (ys.map V.str)))))
theorem call_srt (hc : X.calm = true) : CallR X (.builtin "sorted") (rSrt X.K) := cr_sorted.or (cr_sortedS.or ((call_sortedDI hc).or (call_sortedD hc)))
theorem kd_ints : ∀ {kvs : List (Key × V)} {ns : List Int}, (kvs.map (fun p => (Sum.inl p.1 : KD))).map kdD = ns.map D.int → kvs.map (·.1) = ns.map Sum.inl
  | [], [], _ => rfl
  | [], _ :: _, h => by cases h
  | _ :: _, [], h => by cases h
  | (k, v) :: kvs, n :: ns, h => by
    simp only [List.map_cons, List.cons.injEq] at h
    have ih := kd_ints (kvs := kvs) (ns := ns) h.2
    simp only [List.map_cons, ih]
    cases k with
    | inl i => have := h.1; cases this; rfl
    | inr x => have := h.1; cases this
theorem kd_strs : ∀ {kvs : List (Key × V)} {ns : List Str}, (kvs.map (fun p => (Sum.inl p.1 : KD))).map kdD = ns.map D.str → kvs.map (·.1) = ns.map Sum.inr
  | [], [], _ => rfl
  | [], _ :: _, h => by cases h
  | _ :: _, [], h => by cases h
  | (k, v) :: kvs, n :: ns, h => by
    simp only [List.map_cons, List.cons.injEq] at h
    have ih := kd_strs (kvs := kvs) (ns := ns) h.2
    simp only [List.map_cons, ih]
    cases k with
    | inr i => have := h.1; cases this; rfl
    | inl x => have := h.1; cases this
theorem sortD_eq {l : List D} {r : List D} (h : sortD l = .ok r) : (∃ ns, l = ns.map D.int ∧ intsD l = some ns ∧ r = (sortI ns).map .int) ∨ (∃ xs, l = xs.map D.str ∧ strsD l = some xs ∧ r = (sortS xs).map .str) := by
  unfold sortD at h
  split at h
  · rename_i ns e
    cases h
    exact .inl ⟨ns, intsD_eq e, e, rfl⟩
  · split at h
    · rename_i xs e
      cases h
      exact .inr ⟨xs, strsD_eq e, e, rfl⟩
    · cases h
theorem ok_sorted (hc : X.calm = true) : C1Ok X CA .sorted (rSrt X.K) where
  call := call_srt hc
  read := fun σ ρ L x H ix u d Q m lt e ed dm q => by
    have w := opVw m lt dm e
    have base := dropTmp m
    have fI : ∀ (ns ms : List Int) (p : Addr), d = .lst true ((sortI ns).map .int) → ms.Perm ns → ms.Pairwise (· ≤ ·) → H p = none → Q (.ref p) (upd H p (.lst (ms.map V.int))) := fun ns ms p hd h1 h2 hn => by
      rw [int_sort_eq h1 h2]
      refine q _ _ ?_
      rw [hd]
      exact (base.pInts (sortI ns)).newL (by simp) hn
    have fS : ∀ (ns ms : List Str) (p : Addr), d = .lst true ((sortS ns).map .str) → ms.Perm ns → sortedS ms = true → H p = none → Q (.ref p) (upd H p (.lst (ms.map V.str))) := fun ns ms p hd h1 h2 hn => by
      rw [str_sort_eq h1 h2]
      refine q _ _ ?_
      rw [hd]
      exact (base.pStrs (sortS ns)).newL (by simp) hn
    cases u <;> simp only [c1D] at ed <;> first
      | (cases ed; done)
      | skip
    · obtain ⟨h64, ed⟩ := Out.guard_eq ed
      have h64 := of_decide_eq_true h64
      obtain ⟨r, e1, ed⟩ := Out.bind_eq ed
      cases ed
      obtain ⟨p, vs, rfl, hl, hp, kd⟩ := w.kidL
      rcases sortD_eq e1 with ⟨ns, h1, h2, rfl⟩ | ⟨ns, h1, h2, rfl⟩
      · have := ints_vals' hl kd h2
        subst this
        exact .inl ⟨p, ns, rfl, .of hp, by rw [h1, List.length_map] at h64; exact h64, fun ms p' a1 a2 a3 => fI ns ms p' rfl a1 a2 a3⟩
      · have := strs_vals' hl kd h2
        subst this
        exact .inr (.inl ⟨p, ns, rfl, .of hp, by rw [h1, List.length_map] at h64; exact h64, fun ms p' a1 a2 a3 => fS ns ms p' rfl a1 a2 a3⟩)
    · obtain ⟨h64, ed⟩ := Out.guard_eq ed
      simp only [Bool.and_eq_true, decide_eq_true_eq] at h64
      obtain ⟨r, e1, ed⟩ := Out.bind_eq ed
      cases ed
      obtain ⟨p, vs, u, rfl, hl, hp, hk, _⟩ := w.kidD
      obtain ⟨_, hk⟩ := hk
      cases u <;> first
        | (exact hk.elim)
        | skip
      · rename_i kvs
        obtain ⟨hk1, hk2⟩ := hk
        subst hk1
        rcases sortD_eq e1 with ⟨ns, h1, h2, rfl⟩ | ⟨ns, h1, h2, rfl⟩
        · have e3 := kd_ints h1
          have l3 := congrArg List.length e3
          simp only [List.length_map] at l3 h64
          exact .inr (.inr (.inl ⟨p, kvs, ns, rfl, hp, e3, by omega, fun ms p' a1 a2 a3 => fI ns ms p' rfl a1 a2 a3⟩))
        · have e3 := kd_strs h1
          have l3 := congrArg List.length e3
          simp only [List.length_map] at l3 h64
          exact .inr (.inr (.inr ⟨p, kvs, ns, rfl, hp, e3, by omega, fun ms p' a1 a2 a3 => fS ns ms p' rfl a1 a2 a3⟩))
      · rename_i kvs
        obtain ⟨hk1, hk2, hk3⟩ := hk
        subst hk1
        have := h64.2
        cases kvs with
        | nil => exact absurd rfl hk3
        | cons z r => simp at this
/-! ### sorted(set(xs)), len(set(xs)) -/
def rSetOf (K : PySem.W.Frag) (P : Program) (w : World) : List V → Hp → VK → Prop := fun xs H Q => ∃ (l : Addr) (ks : List Key), xs = [V.ref l] ∧ SqL K H l (ks.map kV) ∧ ks.length < 64 ∧ ∀ a, H a = none → Q (.ref a) (upd H a (StO P w a (onceK ks)))
theorem cr_setOf (hc : X.calm = true) : CallR X (.type "set") (rSetOf X.K X.prog X.w) := by
  intro pins s σ H xs us Q I r h
  obtain ⟨l, ks, rfl, hl, h64, q⟩ := h
  rw [Vals.ref1 r]
  obtain ⟨its, rv, pl, hz⟩ := I.list hl
  have hn : H s.heap.objs.size = none := I.hok.fresh (Nat.le_refl _)
  have size := rv.length
  rw [List.length_map] at size
  refine call_set_keys (P := X.prog) (w := X.w) (xs := ks) (I.ok.hd hc) pl.isList (by simpa using rv) (by rw [List.size_toArray, ← size]; unfold scanBound; omega) fun h' tk R old => ?_
  exact ⟨.ref s.heap.objs.size, upd H s.heap.objs.size (StO X.prog X.w s.heap.objs.size (onceK ks)), I.laid (t' := tk) (fun b u e => old b u (Heap.lt_size e) e) (Nat.le_refl _) (stO_new R), rfl, q _ hn⟩
def rSrtSt (P : Program) (w : World) : List V → Hp → VK → Prop := fun xs H Q => ∃ (a : Addr) (ks : List Key), xs = [V.ref a] ∧ H a = some (StO P w a ks) ∧ ks.length < 64 ∧
  ((∃ ns : List Int, ks = ns.map Sum.inl ∧ ∀ (ms : List Int) p, ms.Perm ns → ms.Pairwise (· ≤ ·) → H p = none → Q (.ref p) (upd H p (.lst (ms.map V.int)))) ∨
   (∃ ns : List Str, ks = ns.map Sum.inr ∧ ∀ (ms : List Str) p, ms.Perm ns → sortedS ms = true → H p = none → Q (.ref p) (upd H p (.lst (ms.map V.str)))))
theorem cr_srtSt (hc : X.calm = true) : CallR X (.builtin "sorted") (rSrtSt X.prog X.w) := by
  intro pins s σ H xs us Q I r h
  obtain ⟨a, ks, rfl, ha, h64, h⟩ := h
  rw [Vals.ref1 r]
  rcases h with ⟨ns, rfl, q⟩ | ⟨ns, rfl, q⟩
  · refine sorted_int (by simpa using h64) ((gath_set hc I ha).imp fun acc ⟨js, r, pm⟩ => ?_) q
    obtain ⟨ms, rfl, pm2⟩ := perm_inl pm
    exact ⟨ms, ints_keys r, pm2⟩
  · refine sorted_str (by simpa using h64) ((gath_set hc I ha).imp fun acc ⟨js, r, pm⟩ => ?_) q
    obtain ⟨ms, rfl, pm2⟩ := perm_inr pm
    exact ⟨ms, strs_keys r, pm2⟩
theorem onceD_eq {l : List D} {r : List D} (h : onceD l = .ok r) : (∃ ns, l = ns.map D.int ∧ intsD l = some ns ∧ r = (once ns).map .int) ∨ (∃ xs, l = xs.map D.str ∧ strsD l = some xs ∧ r = (once xs).map .str) := by
  unfold onceD at h
  split at h
  · rename_i ns e
    cases h
    exact .inl ⟨ns, intsD_eq e, e, rfl⟩
  · split at h
    · rename_i xs e
      cases h
      exact .inr ⟨xs, strsD_eq e, e, rfl⟩
    · cases h
theorem sortD_ints {ns : List Int} : sortD (ns.map D.int) = .ok ((sortI ns).map .int) := by
  unfold sortD; rw [intsD_map]
theorem sortD_strs {ns : List Str} : sortD (ns.map D.str) = .ok ((sortS ns).map .str) := by
  unfold sortD
  cases ns with
  | nil => simp [intsD, sortI, sortS]
  | cons a l => rw [intsD_strs, strsD_map']
theorem sset_read {σ : L2.St} {H : Hp} {Q : VK} (t : tE CA (c1F .sset fa) σ H Q) : tCB (rSrtSt X.prog X.w) (tCons (tCB (rSetOf X.K X.prog X.w) (tCons (tN CA fa) tNil)) tNil) σ H Q := by
  obtain ⟨ρ, L, dm, m, d, ρ', ev, q⟩ := t
  obtain ⟨x, e1, ev⟩ := Out.bind_eq ev
  obtain ⟨u, e2, ev⟩ := Out.bind_eq ev
  obtain ⟨d', e3, ev⟩ := Out.bind_eq ev
  cases ev
  refine ⟨ρ, L, dm, m, x.1, x.2, e1, fun v H' dm' m' lt => ?_⟩
  have w := opVw m' lt dm' (Out.of_eq e2)
  have base := dropTmp m'
  cases u <;> simp only [c1D] at e3 <;> first
    | (cases e3; done)
    | skip
  obtain ⟨h64, e3⟩ := Out.guard_eq e3
  have h64 := of_decide_eq_true h64
  obtain ⟨r1, e4, e3⟩ := Out.bind_eq e3
  obtain ⟨r2, e5, e3⟩ := Out.bind_eq e3
  cases e3
  obtain ⟨p, vs, rfl, hl, hp, kd⟩ := w.kidL
  rcases onceD_eq e4 with ⟨ns, h1, h2, rfl⟩ | ⟨ns, h1, h2, rfl⟩
  · have := ints_vals' hl kd h2
    subst this
    rw [sortD_ints] at e5
    cases e5
    have l64 : ns.length < 64 := by rw [h1, List.length_map] at h64; exact h64
    refine ⟨p, ns.map Sum.inl, rfl, by rw [List.map_map]; exact .of hp, by simpa using l64, fun a0 hn => ⟨a0, _, rfl, upd_same, ?_, .inl ⟨once ns, once_inl ns, fun ms p' b1 b2 hn' => ?_⟩⟩⟩
    · rw [once_inl, List.length_map]; have := once_len ns; omega
    · rw [int_sort_eq b1 b2]
      exact q _ _ dm' (((base.fresh hn).pInts (sortI (once ns))).newL (by simp) hn')
  · have := strs_vals' hl kd h2
    subst this
    rw [sortD_strs] at e5
    cases e5
    have l64 : ns.length < 64 := by rw [h1, List.length_map] at h64; exact h64
    refine ⟨p, ns.map Sum.inr, rfl, by rw [List.map_map]; exact .of hp, by simpa using l64, fun a0 hn => ⟨a0, _, rfl, upd_same, ?_, .inr ⟨once ns, once_inr ns, fun ms p' b1 b2 hn' => ?_⟩⟩⟩
    · rw [once_inr, List.length_map]; have := once_len ns; omega
    · rw [str_sort_eq b1 b2]
      exact q _ _ dm' (((base.fresh hn).pStrs (sortS (once ns))).newL (by simp) hn')
/-! ### pop -/
def popF (i : Nat) : Ev := fun ρ => match getv ρ i with
    | some (.lst true l) => (Out.of (l[l.length - 1]?)).bind fun d => .ok (d, ρ.set i (some (.lst true l.dropLast)))
    | _ => .no
theorem snoc_of {α : Type} {l : List α} {x : α} (h : l[l.length - 1]? = some x) : l = l.dropLast ++ [x] := by
  have hne : l ≠ [] := by rintro rfl; simp at h
  have e := List.dropLast_concat_getLast hne
  have : l.getLast hne = x := by
    rw [List.getLast_eq_getElem]
    have hl : l.length - 1 < l.length := by have := List.length_pos_iff.mpr hne; omega
    rw [List.getElem?_eq_getElem hl] at h
    exact Option.some.inj h
  rw [this] at e
  exact e.symm
theorem pe_popD {i : Nat} (ho : PE X o (tVar i)) (hbase : attributeBase o "pop" X.env (eval o X.env) = eval o X.env) (hline : (apos.endLine == cpos.line) = true) : PE X (.Call (.Attribute o "pop" apos) [] [] cpos) (tE CA (popF i)) :=
  (pe_bm0 PySem.F.plainAttrs_list PySem.F.slot_list_pop PySem.F.type_list_pop mt_pop ho hbase hline).imp fun σ H Q ⟨ρ, L, dm, m, d, ρ', ev, q⟩ => by
  unfold popF at ev
  split at ev
  · rename_i l e1
    obtain ⟨d0, e2, ev⟩ := Out.bind_eq ev
    cases ev
    have e2 := Out.of_eq e2
    obtain ⟨v, hv⟩ := dm.2 i _ e1
    have m1 := MR.front m hv e1
    refine ⟨v, hv, ?_⟩
    obtain ⟨p, vs, rfl, hl, hp, m2⟩ := m1.openL
    have hlen : l.length - 1 < vs.length := by have := (List.getElem?_eq_some_iff.mp e2).1; omega
    have hy : vs[vs.length - 1]? = some (vs[vs.length - 1]'(by omega)) := List.getElem?_eq_getElem (by omega)
    generalize vs[vs.length - 1]'(by omega) = y at hy
    refine ⟨.inl ⟨rfl, vs, .of hp⟩, p, vs, y, rfl, rfl, hp, hy, ?_⟩
    have e3 := snoc_of hy
    have e4 := snoc_of e2
    have hl2 : vs.dropLast.length = l.dropLast.length := by simp [hl]
    rw [e3, e4, zip_snoc hl2, List.append_assoc] at m2
    have m3 : M CA (upd H p (.lst vs.dropLast)) ((.ref p, .lst true l.dropLast) :: ((y, d) :: (envL σ (ρ.set i none) ++ L))) := MR.closeL (L := (y, d) :: (envL σ (ρ.set i none) ++ L)) m2 hl2
    have m4 : M CA (upd H p (.lst vs.dropLast)) ((.ref p, .lst true l.dropLast) :: (envL σ (ρ.set i none) ++ ((y, d) :: L))) := m3.perm (List.Perm.cons _ List.perm_middle.symm)
    exact q _ _ (dm.put hv) (MR.unrot (MR.back m4 hv (getv_lt e1)))
  · cases ev
/-! ### min, max of two -/
def b2F (f : B2) (g h : Ev) : Ev := fun ρ => (g ρ).bind fun x => (h x.2).bind fun y => (b2D f x.1 y.1).bind fun r => .ok (r, y.2)
def b2V : B2 → Value
  | .min => .builtin "min" | .max => .builtin "max"
def b2I : B2 → Int → Int → Int
  | .min, i, j => if j < i then j else i
  | .max, i, j => if j > i then j else i
def rB2 (f : B2) : List V → Hp → VK → Prop := fun xs H Q => ∃ i j, xs = [.int i, .int j] ∧ Q (.int (b2I f i j)) H
theorem call_b2 (f : B2) (hc : X.calm = true) : CallR X (b2V f) (rB2 f) := by
  cases f with
  | min => exact call_min2 hc
  | max => exact call_max2 hc
theorem b2D_eq {f : B2} {a b d : D} (h : b2D f a b = .ok d) : ∃ i j, a = .int i ∧ b = .int j ∧ d = .int (b2I f i j) := by
  cases f <;> cases a <;> cases b <;> simp only [b2D] at h <;> first
    | (cases h; done)
    | (cases h; exact ⟨_, _, rfl, rfl, rfl⟩)
theorem b2_read {f : B2} {σ : L2.St} {H : Hp} {Q : VK} (t : tE CA (b2F f g h) σ H Q) : tCB (rB2 f) (tCons (tE CA g) (tCons (tE CA h) tNil)) σ H Q := by
  obtain ⟨ρ, L, dm, m, d, ρ', ev, q⟩ := t
  obtain ⟨x, e1, ev⟩ := Out.bind_eq ev
  obtain ⟨y, e2, ev⟩ := Out.bind_eq ev
  obtain ⟨r, e3, ev⟩ := Out.bind_eq ev
  cases ev
  obtain ⟨i, j, h1, h2, rfl⟩ := b2D_eq e3
  refine ⟨ρ, L, dm, m, x.1, x.2, e1, fun v H' dm' m' => ⟨x.2, (v, x.1) :: L, dm', m'.rot, y.1, y.2, e2, fun v2 H2 dm2 m2 => ?_⟩⟩
  rw [h1, h2] at m2
  have m3 := MR.drop m2
  have m4 : M CA H2 ((v, .int i) :: (envL σ y.2 ++ L)) := MR.unrot m3
  exact ⟨i, j, by rw [m2.int, m4.int], q _ _ dm2 (MR.pInt (MR.drop m4))⟩
theorem set_get {α : Type} : ∀ {l : List α} {j : Nat} {x : α}, l[j]? = some x → l.set j x = l
  | [], _, _, h => by simp at h
  | y :: l, 0, x, h => by simp at h; simp [h]
  | y :: l, j + 1, x, h => by simp at h; simp [set_get h]
/-! ### x[k].append(d), d flat -/
/-- an argument that only looks -/
def stillE : E → Bool
  | .nm _ => true
  | .ci _ => true
  | .cs _ => true
  | .neg (.ci _) => true
  | _ => false
theorem flat_sc {d : D} (h : flat d = true) : isSc d = true := by cases d <;> first | rfl | (simp [flat] at h)
/-- .. gives its value, the heap as it was -/
def tStill (CA : Ct) (f : Ev) : TE := fun σ H Q => ∃ ρ L, Dom σ ρ ∧ M CA H (envL σ ρ ++ L) ∧ ∃ d ρ', f ρ = .ok (d, ρ') ∧ flat d = true ∧ Q (scV d) H
theorem pe_stillV {i : Nat} {G : Ctx} (h : PE X e (tVar i)) : PE X e (tStill CA (evE G (.nm i))) := h.imp fun σ H Q ⟨ρ, L, dm, m, d, ρ', ev, fd, q⟩ => by
  simp only [evE] at ev
  obtain ⟨d0, e1, ev⟩ := Out.bind_eq ev
  have e1 := Out.of_eq e1
  obtain ⟨v, hv⟩ := dm.2 i d0 e1
  have w := (MR.front m hv e1).vw
  refine ⟨v, hv, ?_⟩
  have hd : d = d0 := by
    split at ev
    · cases ev; rfl
    · cases ev
      rename_i hf
      cases d0 <;> first
        | rfl
        | (simp [frz, flat] at fd)
  subst hd
  have : v = scV d := by
    cases d <;> simp [flat] at fd
    · exact w.non
    · exact w.int
    · exact w.str
  rw [this]; exact q
def stillC (e : E) (y : Expr) : Bool := match e, y with
  | .ci i, .Constant (.int j) _ _ => decide (i = j)
  | .cs i, .Constant (.str j) _ _ => decide (i = j)
  | .neg (.ci i), .UnaryOp .USub (.Constant (.int j) _ _) _ => decide (i = j)
  | _, _ => false
theorem pe_stillC {E0 : E} {G : Ctx} {y : Expr} (h : stillC E0 y = true) : PE X y (tStill CA (evE G E0)) := by
  unfold stillC at h
  split at h
  · have e := of_decide_eq_true h
    subst e
    refine pe_int.imp fun σ H Q ⟨ρ, L, dm, m, d, ρ', ev, fd, q⟩ => ?_
    simp only [evE] at ev
    cases ev
    exact q
  · have e := of_decide_eq_true h
    subst e
    refine pe_str.imp fun σ H Q ⟨ρ, L, dm, m, d, ρ', ev, fd, q⟩ => ?_
    simp only [evE] at ev
    cases ev
    exact q
  · have e := of_decide_eq_true h
    subst e
    refine (pe_un un_neg pe_int).imp fun σ H Q ⟨ρ, L, dm, m, d, ρ', ev, fd, q⟩ => ?_
    simp only [evE, Out.bind_ok, num] at ev
    cases ev
    exact ⟨_, rfl, q⟩
  · exact absurd h Bool.false_ne_true
theorem mr_flat {H : Hp} {R : List Addr} {L : List VD} {d : D} (m : MR CA H R L) (h : flat d = true) : MR CA H R ((scV d, d) :: L) := m.pSc (flat_sc h)
/-- the item of slot i that a key tells -/
def tItem (CA : Ct) (i : Nat) (g : Ev) (P : L2.St → Env → List VD → Nat → List D → D → Addr → List V → V → Hp → Prop) : L2.St → Hp → Prop := fun σ H => ∃ ρ L, Dom σ ρ ∧ M CA H (envL σ ρ ++ L) ∧ ∃ d0 y l j d, getv ρ i = some d0 ∧ g ρ = .ok y ∧ getv y.2 i = some (.lst true l) ∧ whichD (.lst true l) y.1 = some j ∧ l[j]? = some d ∧
  ∀ p vs vj H2, Dom σ y.2 → M CA H2 (envL σ y.2 ++ L) → σ[i]? = some (some (.ref p)) → H2 p = some (.lst vs) → vs.length = l.length → vs[j]? = some vj → P σ y.2 L j l d p vs vj H2
theorem pe_item {i : Nat} (hr : Room k X.A) (ha : PE X a (tVar i)) (hb : PE X b (tE CA g)) (hs : PlainIx b) : PE X (.Subscript a b pos) (fun σ H Q => tItem CA i g (fun _ _ _ _ _ _ _ _ vj H2 => Q vj H2) σ H) := (pe_ix (ix_sub (hu_of hr)) ha hb hs).imp fun σ H Q ⟨ρ, L, dm, m, d0, y, l, j, d, e0, e1, e2, e3, e4, q⟩ => by
  obtain ⟨vx, hv⟩ := dm.2 i d0 e0
  refine ⟨vx, hv, ρ, L, dm, m, y.1, y.2, e1, fun vy H2 dm2 m2 => ?_⟩
  have wy := m2.vw
  have m3 : M CA H2 (envL σ y.2 ++ L) := m2.drop
  obtain ⟨p, vs, rfl, hl, hp, _⟩ := (MR.front m3 hv e2).openL
  obtain ⟨vj, hj⟩ := get_of_len hl e4
  exact sub_of (a := .lst true l) ⟨hl, p, rfl, hp⟩ e3 wy hj (q p vs vj H2 dm2 m3 hv hp hl hj)
noncomputable def moiF (o : MO) (i : Nat) (g h : Ev) : Env → Out Fl := fun ρ => (Out.of (getv ρ i)).bind fun _ => (g ρ).bind fun y => (Out.of (getv y.2 i)).bind fun a => match a with
  | .lst true l => (Out.of (whichD (.lst true l) y.1)).bind fun j => (Out.of (l[j]?)).bind fun n => Out.guard (nodeOk o n) ((h y.2).bind fun x => Out.guard (flat x.1) ((moD o x.1 n).bind fun n' => .ok (.nx (y.2.set i (some (.lst true (l.set j n')))))))
  | _ => .no
theorem nodeOk_ty {H : Hp} {L : List VD} {v : V} {n : D} {o : MO} {R : List Addr} (K : PySem.W.Frag) (m : MR CA H R ((v, n) :: L)) (h : nodeOk o n = true) : tyV K (moT o) v H := Vw.moT K m h
theorem ps_moiD {mo : MO} {i : Nat} {name : Str} (hr : Room k X.A) (pa : PlainAttrs (moT mo)) (slot : Slot (moT mo) name (moN mo)) (hty : typeOf (.builtin (moN mo)) = pure (.type "method_descriptor")) (hm : MtR X (moN mo) (rMo CA mo)) (ha : PE X a (tVar i)) (hb : PE X b (tE CA g)) (hs : PlainIx b) (he : PE X e (tStill CA h))
    (hbase : attributeBase (.Subscript a b pos) name X.env (eval (.Subscript a b pos) X.env) = eval (.Subscript a b pos) X.env)
    (hfew : ((backTo cpos (starEach [e] X.env)).all (fun x => !x.1) && (backToKw cpos (keywordEach [] X.env)).all (fun x => x.1.isSome)
      && decide (([e] : List Expr).length + ([] : List Keyword).length + (if ([] : List Keyword).isEmpty then 0 else 1) < 30)) = true)
    (hline : (apos.endLine == cpos.line) = true) (hst : starEach [e] X.env = (false, eval e X.env) :: starEach [] X.env) (hplain : (backTo cpos (starEach [] X.env)).any (·.1) = false) {spos : Pos}
    (hsw : swapsWith (.Call (.Attribute (.Subscript a b pos) name apos) [e] [] cpos) none spos.line X.env = pure false) :
    PS X (.Expr (.Call (.Attribute (.Subscript a b pos) name apos) [e] [] cpos) spos) (tS CA [] (moiF mo i g h)) := (ps_expr (pe_bm pa slot hty hm (pe_item hr ha hb hs) (pa_cons he pa_nil hst) hbase hfew hline hst hplain) hsw).imp fun D σ H ⟨ρ, L, dm, m, fl, ev, q⟩ => by
  obtain ⟨d0, e0, ev⟩ := Out.bind_eq ev
  obtain ⟨y, e1, ev⟩ := Out.bind_eq ev
  obtain ⟨a0, e2, ev⟩ := Out.bind_eq ev
  cases a0 <;> first
    | (cases ev; done)
    | skip
  rename_i ow l
  cases ow <;> first
    | (cases ev; done)
    | skip
  obtain ⟨j, e3, ev⟩ := Out.bind_eq ev
  obtain ⟨n, e4, ev⟩ := Out.bind_eq ev
  obtain ⟨hn, ev⟩ := Out.guard_eq ev
  obtain ⟨x, e5, ev⟩ := Out.bind_eq ev
  obtain ⟨hf, ev⟩ := Out.guard_eq ev
  obtain ⟨n', e6, ev⟩ := Out.bind_eq ev
  cases ev
  have e2 := Out.of_eq e2
  have e4 := Out.of_eq e4
  refine ⟨ρ, L, dm, m, d0, y, l, j, n, Out.of_eq e0, e1, e2, Out.of_eq e3, e4, fun p vs vj H2 dm2 m2 hσ hp hl hj => ?_⟩
  have m3 := MR.front m2 hσ e2
  obtain ⟨p', vs', ee, hl', hp', m4⟩ := m3.openL
  cases ee
  rw [hp] at hp'
  cases hp'
  have hjl : j < l.length := (List.getElem?_eq_some_iff.mp e4).1
  obtain ⟨K, z, p1, p2⟩ := zip_set2 (vs := vs) (ds := l) (j := j) hl hjl
  have pz := p2 vj n
  have e7 : vs.set j vj = vs := set_get hj
  have e8 : l.set j n = l := set_get e4
  rw [e7, e8] at pz
  have m5 : MR CA H2 [p] ((vj, n) :: (K ++ (envL σ (y.2.set i none) ++ L))) := m4.perm (pz.append_right _)
  refine ⟨Vw.moT X.K m5 hn, y.2, L, dm2, m2, x.1, x.2, e5, hf, ?_⟩
  refine ⟨scV x.1, [p], K ++ (envL σ (y.2.set i none) ++ L), n, x.1, n', rfl, (mr_flat m5 hf).perm (.swap _ _ _), e6, fun H3 m6 keep => ?_⟩
  have hp3 : H3 p = some (.lst vs) := (keep p List.mem_cons_self).trans hp
  have pz' := p2 vj n'
  rw [e7] at pz'
  have m7 : MR CA H3 [p] (vs.zip (l.set j n') ++ (envL σ (y.2.set i none) ++ L)) := MR.perm (L := (vj, n') :: (K ++ (envL σ (y.2.set i none) ++ L))) m6 (pz'.symm.append_right _)
  exact q σ H3 Agr.refl (dm2.put hσ) (MR.back (MR.closeL0 m7 (by simp [hl]) hp3) hσ (getv_lt e2))
end
end VL
/-! VL part 19: does an expression of the text bear this one of the small syntax? -/
namespace VL
open PySem PySem.Spec L2
/-- what the names of a def stand for -/
structure Gm where
  N : List Str
  fns : List Str
  gls : List Str
  blt : List Str
inductive Md where | val | bor | late | ref | tst | wh
def Md.nw : Md → Bool
  | .wh => false
  | _ => true
def Md.in2 : Md → Md
  | .tst => .tst
  | .wh => .tst
  | _ => .val
def Md.in3 : Md → Md
  | .tst => .wh
  | .wh => .wh
  | _ => .val
def visB (sc : Scope) (y : Str) : Bool := match sc.names.lookup y with
  | some .local => true
  | some .cell => true
  | some .free => true
  | _ => false
def locB (sc : Scope) (y : Str) : Bool := match sc.names.lookup y with
  | some .local => true
  | some .cell => true
  | _ => false
def cfB (sc : Scope) (y : Str) : Bool := match sc.names.lookup y with
  | some .free => true
  | some .cell => true
  | _ => false
def glB (sc : Scope) (y : Str) : Bool := match sc.names.lookup y with
  | some .globalImplicit => !(y == ("__debug__" : Str))
  | _ => false
section
variable (Γ : Gm)
def kN (i : Nat) (sc : Scope) (x : Expr) : Bool := match x with
  | .Name y _ => decide (Γ.N[i]? = some y) && visB sc y && !(y == ("__debug__" : Str)) && !(y == ("__classdict__" : Str))
  | _ => false
def kS (i : Nat) (sc : Scope) (x : Expr) : Bool := match x with
  | .Name y _ => decide (Γ.N[i]? = some y) && locB sc y
  | _ => false
def kSs : List Nat → Scope → List Expr → Bool
  | [], _, [] => true
  | i :: is, sc, x :: xs => kS Γ i sc x && kSs is sc xs
  | _, _, _ => false
def kG (g : Tg) (sc : Scope) (x : Expr) : Bool := match g, x with
  | .one i, x => kS Γ i sc x
  | .tup is, .Tuple xs _ _ => kSs Γ is sc xs
  | _, _ => false
def kB (sc : Scope) (y : Str) : Bool := glB sc y && decide (y ∈ Γ.blt) && !(y == ("__name__" : Str))
def kF (k : Nat) (sc : Scope) (x : Expr) : Bool := match x with
  | .Name y _ => glB sc y && decide (Γ.fns[k]? = some y)
  | _ => false
end
def opE : Bop → Operator → Bool
  | .add, .Add => true | .sub, .Sub => true | .mul, .Mult => true | .fdiv, .FloorDiv => true | .mod, .Mod => true | .pow, .Pow => true
  | _, _ => false
theorem opE_of {o : Bop} {p : Operator} (h : opE o p = true) : p = opOf o := by
  cases o <;> cases p <;> first
    | rfl
    | (exact absurd h (by decide))
def coE : Cop → CmpOp → Bool
  | .lt, .Lt => true | .le, .LtE => true | .gt, .Gt => true | .ge, .GtE => true | .eq, .Eq => true | .ne, .NotEq => true
  | _, _ => false
theorem coE_of {o : Cop} {p : CmpOp} (h : coE o p = true) : p = cop o := by
  cases o <;> cases p <;> first
    | rfl
    | (exact absurd h (by decide))
def inE : Bool → CmpOp → Bool
  | false, .In => true | true, .NotIn => true
  | _, _ => false
theorem inE_of {o : Bool} {p : CmpOp} (h : inE o p = true) : p = opIn o := by
  cases o <;> cases p <;> first
    | rfl
    | (exact absurd h (by decide))
def isE : Bool → CmpOp → Bool
  | false, .Is => true | true, .IsNot => true
  | _, _ => false
theorem isE_of {o : Bool} {p : CmpOp} (h : isE o p = true) : p = opIs o := by
  cases o <;> cases p <;> first
    | rfl
    | (exact absurd h (by decide))
/-- no star, no slice, no comprehension, no tuple, no call, no set -/
def nStar : Expr → Bool
  | .Starred _ _ => false
  | _ => true
def nSlice : Expr → Bool
  | .Slice _ _ _ _ => false
  | _ => true
def nComp : Expr → Bool
  | .ListComp _ _ _ _ => false
  | .SetComp _ _ _ _ => false
  | .DictComp _ _ _ _ _ => false
  | _ => true
def nTup : Expr → Bool
  | .Tuple _ _ _ => false
  | _ => true
def nCall : Expr → Bool
  | .Call _ _ _ _ => false
  | _ => true
def nSet : Expr → Bool
  | .Set _ _ _ => false
  | _ => true
theorem star_cons {e : Expr} {es : List Expr} {env : PySem.Env} (h : nStar e = true) : starEach (e :: es) env = (false, eval e env) :: starEach es env := by
  cases e <;> first
    | rfl
    | (simp [nStar] at h; done)
theorem star_any {pos : Pos} {env : PySem.Env} : ∀ {es : List Expr}, es.all nStar = true → (backTo pos (starEach es env)).any (·.1) = false
  | [], _ => rfl
  | e :: es, h => by
    simp only [List.all_cons, Bool.and_eq_true] at h
    rw [star_cons h.1]
    show (false || (backTo pos (starEach es env)).any (·.1)) = false
    rw [star_any h.2]; rfl
theorem plain_ix {b : Expr} (h : nSlice b = true) : PlainIx b := by
  intro o i
  cases b <;> first
    | rfl
    | (simp [nSlice] at h; done)
theorem base_of {o : Expr} {n : Str} {env : PySem.Env} {w : Sem Value} (h : nCall o = true) : attributeBase o n env w = w := by
  cases o <;> first
    | rfl
    | (simp [nCall] at h; done)
theorem folded_of {e : Expr} {env : PySem.Env} (h : nSet e = true) : ∀ x, foldedSetIterable e env x = pure x := by
  intro x
  cases e <;> first
    | rfl
    | (simp [nSet] at h; done)
theorem sw_of {e : Expr} {t : Option Expr} {l : Nat} {env : PySem.Env} (h : nComp e = true) : swapsWith e t l env = pure false := by
  cases e <;> first
    | rfl
    | (simp [nComp] at h; done)
theorem asgEach_cons {e : Expr} {es : List Expr} {env : PySem.Env} (h : nStar e = true) : assignEach (e :: es) env = (false, assign e env) :: assignEach es env := by
  cases e <;> first
    | rfl
    | (simp [nStar] at h; done)
/-- its truth is its value's -/
def tstE : Expr → Bool
  | .UnaryOp .Not _ _ => false
  | .BoolOp _ _ _ => false
  | .IfExp _ _ _ _ => false
  | .Compare _ _ _ _ => false
  | _ => true
theorem tst_of {e : Expr} {env : PySem.Env} (h : tstE e = true) : ∀ whole, isTrue e env whole = (do let v ← whole; standAt e.pos; holding [v] (truthy v)) := by
  intro w
  cases e with
  | UnaryOp op a p => cases op <;> first
    | rfl
    | (simp [tstE] at h; done)
  | _ => first
    | rfl
    | (simp [tstE] at h; done)
def b1N : B1 → Str
  | .len => "len" | .all => "all" | .lset => "" | .int => "int" | .max => "max"
def b2N : B2 → Str
  | .min => "min" | .max => "max"
def c1N : C1 → Str
  | .sorted => "sorted" | .sset => "" | .list => "list" | .tuple => "tuple" | .dict => "dict"
def tyS : Ty → Str
  | .int => "int" | .bool => "bool" | .str => "str" | .tuple => "tuple" | .list => "list"
/-- the slot that a walk stands on -/
def itSlot : It → Option Nat
  | .seq (.bnm i) => some i
  | _ => none
def nsOf (Γ : Gm) : List Nat → List (Str × Nat)
  | [] => []
  | i :: is => ((Γ.N[i]?).getD "", i) :: nsOf Γ is
/-- a comprehension's own scope -/
def blkB (Γ : Gm) (sc scope : Scope) (own : List Nat) : Bool :=
  (match scope.kind with | .function => true | _ => false) && (scope.names.all fun y => decide (scope.names.lookup y.1 = some y.2)) && ((nsOf Γ own).all fun p => decide (Γ.N[p.2]? = some p.1)) &&
    (scope.names.all fun y => match y.2 with
      | .free => cfB sc y.1
      | .local => decide (y.1 ∈ (nsOf Γ own).map (·.1)) || decide (y.1 ∉ Γ.N)
      | .cell => decide (y.1 ∈ (nsOf Γ own).map (·.1)) || decide (y.1 ∉ Γ.N)
      | _ => true)
def isNp : E → Bool
  | .np => true
  | _ => false
def dkB (Γ : Gm) (a : E) (sc : Scope) (x : Expr) : Bool := match a with
  | .nm i => kN Γ i sc x
  | .sub (.lnm i) k => match x with
    | .Subscript y z _ => kN Γ i sc y && nSlice z && (match k with
      | .nm k => kN Γ k sc z
      | .ci m => (match z with
        | .Constant (.int j) _ _ => decide (m = j)
        | _ => false)
      | _ => false)
    | _ => false
  | _ => false
def itDk : It → Bool
  | .dk _ => true
  | _ => false
mutual
def ckE (Γ : Gm) : E → Md → Scope → Expr → Bool
  | .cn, m, _, x => m.nw && match x with
    | .Constant .none _ _ => true
    | _ => false
  | .cb b, m, _, x => m.nw && match x with
    | .Constant (.bool c) _ _ => b == c
    | _ => false
  | .ci i, m, _, x => m.nw && match x with
    | .Constant (.int j) _ _ => decide (i = j)
    | _ => false
  | .cs s, m, _, x => m.nw && match x with
    | .Constant (.str z) _ _ => decide (s = z)
    | _ => false
  | .gl j, m, sc, x => m.nw && match x with
    | .Name y _ => glB sc y && decide (Γ.gls[j]? = some y)
    | _ => false
  | .nm i, m, sc, x => m.nw && kN Γ i sc x
  | .mv i, m, sc, x => m.nw && kN Γ i sc x
  | .bnm i, .bor, sc, x => kN Γ i sc x
  | .lnm i, .late, sc, x => kN Γ i sc x
  | .rf i, .ref, sc, x => kN Γ i sc x
  | .bsub i b, .bor, sc, x => match x with
    | .Subscript a y _ => kN Γ i sc a && ckE Γ b .val sc y && nSlice y
    | _ => false
  | .bin o a b, m, sc, x => m.nw && match x with
    | .BinOp y p z _ => opE o p && ckE Γ a .late sc y && ckE Γ b .late sc z
    | _ => false
  | .neg a, m, sc, x => m.nw && match x with
    | .UnaryOp .USub y _ => ckE Γ a .val sc y
    | _ => false
  | .cmp o a b, m, sc, x => m.nw && match x with
    | .Compare y [p] [z] _ => coE o p && ckE Γ a .late sc y && ckE Γ b .bor sc z
    | _ => false
  | .inn n a b, m, sc, x => m.nw && match x with
    | .Compare y [p] [z] _ => inE n p && ckE Γ a .late sc y && ckE Γ b .bor sc z && !behindInMarks p z
    | _ => false
  | .isn n a, m, sc, x => m.nw && match x with
    | .Compare y [p] [.Constant .none _ _] _ => isE n p && ckE Γ a .bor sc y
    | _ => false
  | .chn o o' a b c, m, sc, x => m.nw && match x with
    | .Compare y [p, q] [z, w] _ => coE o p && coE o' q && ckE Γ a .val sc y && ckE Γ b .val sc z && ckE Γ c .val sc w
    | _ => false
  | .and1 a, m, sc, x => match x with
    | .BoolOp .And [y] _ => ckE Γ a m.in2 sc y
    | _ => false
  | .or1 a, m, sc, x => match x with
    | .BoolOp .Or [y] _ => ckE Γ a m.in2 sc y
    | _ => false
  | .and2 a b, m, sc, x => match x with
    | .BoolOp .And (y :: z :: r) p => ckE Γ a m.in2 sc y && ckE Γ b m.in3 sc (.BoolOp .And (z :: r) p)
    | _ => false
  | .or2 a b, m, sc, x => match x with
    | .BoolOp .Or (y :: z :: r) p => ckE Γ a m.in2 sc y && ckE Γ b m.in3 sc (.BoolOp .Or (z :: r) p)
    | _ => false
  | .not_ a, m, sc, x => m.nw && match x with
    | .UnaryOp .Not y _ => ckE Γ a m.in2 sc y
    | _ => false
  | .ite c a b, .val, sc, x => match x with
    | .IfExp w y z _ => ckE Γ c .tst sc w && ckE Γ a .val sc y && ckE Γ b .val sc z
    | _ => false
  | .call k as, m, sc, x => m.nw && match x with
    | .Call f (y :: ys) [] _ => kF Γ k sc f && ckA Γ as sc (y :: ys) && (y :: ys).all nStar
    | _ => false
  | .b1 f a, m, sc, x => m.nw && match x with
    | .Call (.Name n _) [y] [] _ => (match f with
      | .lset => false
      | _ => true) && decide (n = b1N f) && kB Γ sc n && ckE Γ a .bor sc y && nStar y
    | _ => false
  | .c1 f a, m, sc, x => m.nw && match x with
    | .Call (.Name n _) [y] [] _ => match f with
      | .sset => (match y with
        | .Call (.Name n2 _) [z] [] _ => decide (n = "sorted") && kB Γ sc n && decide (n2 = "set") && kB Γ sc n2 && ckE Γ a .late sc z && nStar z
        | _ => false)
      | f => decide (n = c1N f) && kB Γ sc n && ckE Γ a .late sc y && nStar y
    | _ => false
  | .b2 f a b, m, sc, x => m.nw && match x with
    | .Call (.Name n _) [y, z] [] _ => decide (n = b2N f) && kB Γ sc n && ckE Γ a .val sc y && ckE Γ b .val sc z && nStar y && nStar z
    | _ => false
  | .pop i, m, sc, x => m.nw && match x with
    | .Call (.Attribute y n ap) [] [] p => decide (n = "pop") && kN Γ i sc y && nCall y && (ap.endLine == p.line)
    | _ => false
  | .isi a t, m, sc, x => m.nw && match x with
    | .Call (.Name n _) [y, .Name z _] [] _ => decide (n = "isinstance") && kB Γ sc n && decide (z = tyS t) && kB Γ sc z && ckE Γ a .bor sc y && nStar y
    | _ => false
  | .m1 f o a, m, sc, x => m.nw && match x with
    | .Call (.Attribute y n ap) [z] [] p => (match f with
      | .join => decide (n = "join")
      | .index => decide (n = "index")
      | .split => false) && ckE Γ o .val sc y && ckE Γ a .val sc z && nStar z && nCall y && (ap.endLine == p.line)
    | _ => false
  | .get1 o a, m, sc, x => m.nw && match x with
    | .Call (.Attribute y n ap) [z] [] p => decide (n = "get") && ckE Γ o .late sc y && ckE Γ a .val sc z && nStar z && nCall y && (ap.endLine == p.line)
    | _ => false
  | .get2 o a b, m, sc, x => m.nw && match x with
    | .Call (.Attribute y n ap) [z, w] [] p => decide (n = "get") && ckE Γ o .late sc y && ckE Γ a .val sc z && ckE Γ b .val sc w && nStar z && nStar w && nCall y && (ap.endLine == p.line)
    | _ => false
  | .sub a b, m, sc, x => m.nw && match x with
    | .Subscript y z _ => ckE Γ a .late sc y && ckE Γ b .val sc z && nSlice z
    | _ => false
  | .sl a lo hi, m, sc, x => m.nw && match x with
    | .Subscript y (.Slice l h none _) _ => ckE Γ a .late sc y && (match l with
      | none => isNp lo
      | some l => !isNp lo && ckE Γ lo .val sc l) && (match h with
      | none => isNp hi
      | some h => !isNp hi && ckE Γ hi .val sc h)
    | _ => false
  | .tup as, m, sc, x => m.nw && match x with
    | .Tuple ys _ _ => ckL Γ as sc ys && ys.all nStar && decide (as.length ≤ lim)
    | _ => false
  | .lst as, m, sc, x => m.nw && match x with
    | .List ys _ => ckL Γ as sc ys && ys.all nStar && decide (as.length ≤ lim)
    | _ => false
  | .dct as, m, sc, x => m.nw && match x with
    | .Dict ks vs _ => ckD Γ as sc ks vs && decide (ks.length ≤ 15)
    | _ => false
  | .lc own g it t el, m, sc, x => m.nw && match x with
    | .ListComp elt [⟨tg, iter, [c], 0⟩] scope _ => ckI Γ it sc iter && blkB Γ sc scope own && kG Γ g scope tg && ckE Γ t .tst scope c && ckE Γ el .val scope elt && nSet iter && decide (own = g.slots) && decide own.Nodup && (match itSlot it with
      | some j => decide (j ∉ own)
      | none => true)
    | _ => false
  | .lcn own g it el, m, sc, x => m.nw && match x with
    | .ListComp elt [⟨tg, iter, [], 0⟩] scope _ => ckI Γ it sc iter && blkB Γ sc scope own && kG Γ g scope tg && ckE Γ el .val scope elt && nSet iter && decide (own = g.slots) && decide own.Nodup && (match itSlot it with
      | some j => decide (j ∉ own)
      | none => true)
    | _ => false
  | _, _, _, _ => false
def ckL (Γ : Gm) : List E → Scope → List Expr → Bool
  | [], _, [] => true
  | a :: as, sc, x :: xs => ckE Γ a .val sc x && ckL Γ as sc xs
  | _, _, _ => false
def ckA (Γ : Gm) : List E → Scope → List Expr → Bool
  | [], _, [] => true
  | a :: as, sc, x :: xs => ckE Γ a .ref sc x && ckA Γ as sc xs
  | _, _, _ => false
def ckD (Γ : Gm) : List E → Scope → List (Option Expr) → List Expr → Bool
  | [], _, [], [] => true
  | a :: b :: as, sc, some x :: xs, y :: ys => ckE Γ a .val sc x && ckE Γ b .val sc y && ckD Γ as sc xs ys
  | _, _, _, _ => false
def ckI (Γ : Gm) : It → Scope → Expr → Bool
  | .seq a, sc, x => ckE Γ a .val sc x || (match a with
    | .bnm i => kN Γ i sc x
    | _ => false)
  | .rng a, sc, x => match x with
    | .Call (.Name n _) [y] [] _ => decide (n = "range") && kB Γ sc n && ckE Γ a .val sc y && nStar y
    | _ => false
  | .dk a, sc, x => dkB Γ a sc x
  | .rev a, sc, x => match x with
    | .Call (.Name n _) [y] [] _ => decide (n = "reversed") && kB Γ sc n && ckE Γ a .val sc y && nStar y
    | _ => false
  | _, _, _ => false
end
end VL
/-! VL: walks over the keys of a dict -/
namespace VL
open PySem PySem.Spec PyProof.Rows L2
def Ct.re (CA : Ct) (lk : List (Addr × Obj × HO)) : Ct := { CA with lk := lk }
def keyV (k : E) (σ : L2.St) (n : Int) : Prop := match k with
  | .nm k => σ[k]? = some (some (.int n))
  | .ci m => n = m
  | _ => False
/-- where the walked dict stands -/
def dkV (a : E) (σ : L2.St) (H : Hp) (v : V) : Prop := match a with
  | .nm i => σ[i]? = some (some v)
  | .sub (.lnm i) k => ∃ p vs n, σ[i]? = some (some (.ref p)) ∧ H p = some (.lst vs) ∧ keyV k σ n ∧ atI vs n = some v
  | _ => False
def tDk (a : E) : TE := fun σ H Q => ∃ v, dkV a σ H v ∧ Q v H
section
variable {X : Cx} {CA : Ct} {G : Ctx} {a : E} {σ : L2.St} {H : Hp} {ρ ρ1 : Env} {L : List VD} {ds : List D}
theorem dk_open (e : dkF a ρ = .ok (ds, ρ1)) (dm : Dom σ ρ) (m : M CA H (envL σ ρ ++ L)) : ∃ p ks l, ds = ks.map kdD ∧ ks.all (·.isLeft) = true ∧ dkV a σ H (.ref p) ∧ Dom σ ρ1 ∧ M CA H ((.ref p, .dct false ks l) :: (envL σ ρ1 ++ L)) := by
  unfold dkF at e
  split at e
  · rename_i i
    obtain ⟨d, e1, e⟩ := Out.bind_eq e
    replace e1 := Out.of_eq e1
    cases d <;> first
      | (cases e; done)
      | skip
    rename_i o ks l
    obtain ⟨hk, e⟩ := Out.guard_eq e
    cases e
    obtain ⟨v, hv⟩ := dm.2 i _ e1
    have m1 := (MR.front m hv e1).freeze
    simp only [frz] at m1
    obtain ⟨p, vs, u, rfl, _⟩ := m1.readD
    have m2 := m1.copy (show fzd (.dct false ks (frzL l)) = true by simp only [fzd, fzdL_frzL]; rfl)
    have m3 : M CA H ((V.ref p, .dct false ks (frzL l)) :: (envL σ (ρ.set i none) ++ ((V.ref p, D.dct false ks (frzL l)) :: L))) := m2.perm (List.Perm.cons _ List.perm_middle.symm)
    exact ⟨p, ks, frzL l, rfl, hk, hv, dm.put hv, MR.unrot (MR.back m3 hv (getv_lt e1))⟩
  · rename_i i k
    obtain ⟨n, en, e⟩ := Out.bind_eq e
    obtain ⟨d, e1, e⟩ := Out.bind_eq e
    replace e1 := Out.of_eq e1
    cases d <;> first
      | (cases e; done)
      | skip
    rename_i o l0
    obtain ⟨j, ej, e⟩ := Out.bind_eq e
    obtain ⟨d2, e2, e⟩ := Out.bind_eq e
    replace ej := Out.of_eq ej
    replace e2 := Out.of_eq e2
    cases d2 <;> first
      | (cases e; done)
      | skip
    rename_i o2 ks l
    obtain ⟨hk, e⟩ := Out.guard_eq e
    cases e
    obtain ⟨v, hv⟩ := dm.2 i _ e1
    have key : keyV k σ n := by
      unfold keyV
      cases k <;> simp only at en ⊢ <;> first
        | (cases en; done)
        | (cases en; rfl)
        | skip
      rename_i kk
      obtain ⟨dk, e3, e4⟩ := Out.bind_eq en
      replace e3 := Out.of_eq e3
      obtain ⟨vk, hvk⟩ := dm.2 kk _ e3
      cases dk <;> simp only [num] at e4 <;> first
        | (cases e4; done)
        | skip
      cases e4
      have := (MR.front m hvk e3).int
      rw [this] at hvk
      exact hvk
    have m1 := MR.front m hv e1
    obtain ⟨vs, vj, hvj, kv, m2⟩ := MR.kid m1 (j := j) (show (kids (.lst o l0))[j]? = some (.dct o2 ks l) from e2)
    simp only [frz, setKid] at m2
    obtain ⟨hl, p, rfl, hp⟩ := kv
    obtain ⟨q, ws, u, e5, _⟩ := m2.readD
    subst e5
    have m3 : M CA H ((V.ref p, .lst o (l0.set j (.dct false ks (frzL l)))) :: (envL σ (ρ.set i none) ++ ((V.ref q, D.dct false ks (frzL l)) :: L))) := m2.perm ((List.Perm.swap _ _ _).trans (List.Perm.cons _ List.perm_middle.symm))
    refine ⟨q, ks, frzL l, rfl, hk, ⟨p, vs, n, hv, hp, key, ?_⟩, dm.put hv, MR.unrot (MR.back m3 hv (getv_lt e1))⟩
    unfold atI
    have hl' : vs.length = l0.length := hl
    rw [hl', ej]
    exact hvj
  · cases e
/-- the walk over a locked dict -/
theorem walks_dk {p : Addr} {o : Obj} {kvs : List (Key × V)} {ks : List KD} (hlk : (p, o, HO.dK kvs) ∈ CA.lk) (hk : kvs.map (fun q => (Sum.inl q.1 : KD)) = ks) : Walks CA σ (Itk p o kvs) (ks.map kdD) none [] where
  go := fun i σ ρ L H m _ hi => ⟨m.lkd hlk, by rw [← hk] at hi; simpa using hi⟩
  stop := fun i σ ρ L H m _ hi => ⟨m.lkd hlk, by rw [← hk] at hi; simpa using hi⟩
  yld := fun i σ ρ L H d x H' m _ hd y => by
    obtain ⟨rfl, k, v, hkv, rfl⟩ := y
    rw [← hk, List.map_map, List.getElem?_map, hkv] at hd
    cases hd
    exact m.pKey k
theorem tw_dk {p : Addr} {o : Obj} {kvs : List (Key × V)} {ks : List KD} {R : L2.It → Hp → Prop} (hlk : (p, o, HO.dK kvs) ∈ CA.lk) (hk : kvs.map (fun q => (Sum.inl q.1 : KD)) = ks) (hv : dkV a σ H (.ref p)) (hp : H p = some (.frz o (.dK kvs)))
    (dm : Dom σ ρ1) (m : M CA H (envL σ ρ1 ++ L)) (h : R (Itk p o kvs) H) : iKeys (tDk a) σ H R := ⟨.ref p, hv, p, o, rfl, .inl ⟨kvs, hp, h⟩⟩
theorem pe_dkV {Γ : Gm} {lv : Nat} {sc : Scope} {x : Expr} (g : ∀ i x, kN Γ i sc x = true → PE X x (tVar i)) (hr : Room lv X.A) (h : dkB Γ a sc x = true) : PE X x (tDk a) := by
  unfold dkB at h
  split at h
  · exact (g _ _ h).imp fun σ H Q ⟨v, hv, q⟩ => ⟨v, hv, q⟩
  · rename_i i k
    split at h
    · simp only [Bool.and_eq_true] at h
      obtain ⟨⟨h1, h2⟩, h3⟩ := h
      rename_i y z pos
      have go : ∀ {tk : TE}, PE X z tk → (∀ σ H n (Q : VK), keyV k σ n → Q (.int n) H → tk σ H Q) → PE X (.Subscript y z pos) (tDk (.sub (.lnm i) k)) := fun hz rd => (pe_ix (ix_sub (hu_of hr)) (g _ _ h1) hz (plain_ix h2)).imp fun σ H Q ⟨v, ⟨p, vs, n, hv, hp, key, ha⟩, q⟩ =>
        ⟨.ref p, hv, rd σ H n _ key (.inl (.inl ⟨p, vs, n, v, rfl, rfl, .of hp, ha, q⟩))⟩
      cases k <;> simp only at h3 <;> first
        | (exact absurd h3 Bool.false_ne_true)
        | skip
      · split at h3
        · rename_i j0 _ _
          have e := of_decide_eq_true h3
          subst e
          exact go pe_int fun σ H n Q e q => by
            have e : n = _ := e
            subst e; exact q
        · exact absurd h3 Bool.false_ne_true
      · exact go (g _ _ h3) fun σ H n Q e q => ⟨_, e, q⟩
    · exact absurd h Bool.false_ne_true
  · exact absurd h Bool.false_ne_true
end
end VL
/-! VL: for and comprehensions over the keys of a dict -/
namespace VL
open PySem PySem.Spec PyProof.Rows L2
def tSx (CA : Ct) (sl : List Nat) (f : Env → Out Fl) : TS := fun D σ H => ∃ lk, tS (CA.re lk) sl f D σ H
def tGx (CA : Ct) (g : Tg) : TG := fun v σ H Q => ∃ lk, tG (CA.re lk) g v σ H Q
def tTx (CA : Ct) (t : Env → Out (Bool × Env)) : TT := fun σ H Q => ∃ lk, tT (CA.re lk) t σ H Q
def tEx (CA : Ct) (f : Ev) : TE := fun σ H Q => ∃ lk, tE (CA.re lk) f σ H Q
section
variable {X : Cx} {CA : Ct} {sts : List Stmt} {sl : List Nat} {fb : Env → Out Fl} {g : Tg} {tg iter elt : Expr} {a : E} {t : Env → Out (Bool × Env)} {el : Ev} {es : List Expr} {own : List Nat}
theorem pss_x (h : ∀ lk, PSs X sts (tS (CA.re lk) sl fb)) : PSs X sts (tSx CA sl fb) := ⟨fun pins s σ H D I ⟨lk, t⟩ => (h lk).run pins s σ H D I t⟩
theorem pg_x (h : ∀ lk, PG X tg (tG (CA.re lk) g)) : PG X tg (tGx CA g) := ⟨fun pins s σ H v u Q I r ⟨lk, t⟩ => (h lk).run pins s σ H v u Q I r t⟩
theorem pts_x (h : ∀ lk, PTs X es (tT (CA.re lk) t)) : PTs X es (tTx CA t) := ⟨fun pins s σ H Q I ⟨lk, q⟩ => (h lk).run pins s σ H Q I q⟩
theorem pe_x (h : ∀ lk, PE X elt (tE (CA.re lk) el)) : PE X elt (tEx CA el) := ⟨fun pins s σ H Q I ⟨lk, q⟩ => (h lk).run pins s σ H Q I q⟩
theorem _root_.L2.PS.or {X : Cx} {st : Stmt} {t t' : TS} (h : PS X st t) (h' : PS X st t') : PS X st (fun D σ H => t D σ H ∨ t' D σ H) := ⟨fun pins s σ H D I q => q.elim (h.run pins s σ H D I) (h'.run pins s σ H D I)⟩
theorem tG_mono {v : V} {σ : L2.St} {H : Hp} {Q Q' : L2.St → Hp → Prop} (i : ∀ σ H, Q σ H → Q' σ H) (h : tG CA g v σ H Q) : tG CA g v σ H Q' := by
  obtain ⟨d, ρ, L, dm, m, ρ1, e, k⟩ := h
  exact ⟨d, ρ, L, dm, m, ρ1, e, fun σ' x y z => i _ _ (k σ' x y z)⟩
theorem tFor_x {lk : List (Addr × Obj × HO)} {wi wi' : TI} {D : Ends} {σ : L2.St} {H : Hp} (hw : ∀ R R' : L2.It → Hp → Prop, (∀ J H, R J H → R' J H) → wi σ H R → wi' σ H R') (h : tFor wi (tG (CA.re lk) g) (tS (CA.re lk) sl fb) D σ H) : tFor wi' (tGx CA g) (tSx CA sl fb) D σ H := by
  refine hw _ _ (fun J H1 ⟨W, w0, st⟩ => ⟨W, w0, fun i m σ2 H2 w => ?_⟩) h
  rcases st i m σ2 H2 w with q | ⟨q1, N, q2, q3⟩
  · exact .inl q
  · exact .inr ⟨q1, N, q2, fun x H' y => ⟨lk, tG_mono (fun σ3 H3 z => ⟨lk, z⟩) (q3 x H' y)⟩⟩
/-- what stands at a walked dict -/
theorem dk_kind {H : Hp} {p : Addr} {ks : List KD} {l : List D} {L : List VD} (m : M CA H ((.ref p, .dct false ks l) :: L)) (left : ks.all (·.isLeft) = true) : ∃ kvs : List (Key × V), Rd H p (.dK kvs) ∧ kvs.map (fun q => (Sum.inl q.1 : KD)) = ks := by
  obtain ⟨p', vs, u, e, hl, hp, hk⟩ := m.readD
  cases e
  obtain ⟨_, hk⟩ := hk
  cases u <;> first
    | (exact hk.elim)
    | skip
  · exact ⟨_, hp, hk.1⟩
  · rename_i kvs
    obtain ⟨h1, h2, h3⟩ := hk
    subst h1
    cases kvs with
    | nil => exact absurd rfl h3
    | cons z r => simp at left
theorem dkV_upd {σ : L2.St} {H : Hp} {p : Addr} {v : V} {kvs : List (Key × V)} {u : HO} (hp : H p = some (.dK kvs)) (h : dkV a σ H v) : dkV a σ (upd H p u) v := by
  unfold dkV at h ⊢
  split at h
  · exact h
  · obtain ⟨p0, vs, n, h1, h2, h3, h4⟩ := h
    exact ⟨p0, vs, n, h1, by rw [upd_ne (fun z => by subst z; rw [hp] at h2; cases h2)]; exact h2, h3, h4⟩
  · exact h.elim
noncomputable def forKF (a : E) (g : Tg) (fb : Env → Out Fl) : Env → Out Fl := fun ρ => ((dkF a ρ).bind fun w => .ok ((w.1, (none : Option (Nat × D))), w.2)).bind fun w => forF w.1.2 (asgT g) fb w.1.1 w.2
theorem ps_forK {pos : Pos} (hp : PassesOwn (model X.prog X.w) X.A X.env X.xe) (hc : X.calm = true) (hi : PE X iter (tDk a)) (hg : ∀ lk, PG X tg (tG (CA.re lk) g)) (hb : ∀ lk, PSs X sts (tS (CA.re lk) sl fb)) (hs : ∀ x, foldedSetIterable iter X.env x = pure x) :
    PS X (.For tg iter sts [] pos) (tS CA (g.slots ++ sl) (forKF a g fb)) := by
  have base := ps_for (pos := pos) hp hc (pi_keys (tg := tg) hi) (pg_x hg) (pss_x hb) hs
  refine ((ps_lock base).or base).imp fun D σ H ⟨ρ, L, dm, m, fl, ev, q⟩ => ?_
  obtain ⟨w, e0, ev⟩ := Out.bind_eq ev
  obtain ⟨⟨ds, ρ1⟩, e1, e0⟩ := Out.bind_eq e0
  cases e0
  obtain ⟨p, ks, l, rfl, left, hv, dm1, m1⟩ := dk_open e1 dm m
  obtain ⟨kvs, hp, hk⟩ := dk_kind m1 left
  rcases hp with hp | ⟨o, hp⟩
  · left
    refine ⟨p, .dK kvs, hp, trivial, fun od => ?_⟩
    have m2 := MR.drop (MR.lock (o := od) m1 hp trivial)
    have once : ∀ x ∈ CA.lk, x.1 ≠ p := fun x hx z => by
      have := m1.lkd hx
      rw [z, hp] at this
      cases this
    have hv' : dkV a σ (upd H p (.frz od (.dK kvs))) (.ref p) := dkV_upd hp hv
    refine tFor_x (lk := (p, od, HO.dK kvs) :: CA.lk) (wi := tW (CA.lock p od (.dK kvs)) fun ρ => .ok ((ks.map kdD, none), ρ)) (fun R R' i ⟨ρ2, L2, dm2, mm, w2, ρ3, ev2, ch2, k⟩ => ?_) (for_read (CA := CA.lock p od (.dK kvs)) (g := g) (sl := sl) (fb := fb) (fw := fun ρ => .ok ((ks.map kdD, none), ρ)) (fun ρ w j d h1 h2 => by cases h1; cases h2) ⟨ρ1, L, dm1, m2, fl, ev, ?_⟩)
    · cases ev2
      exact tw_dk (CA := CA.lock p od (.dK kvs)) List.mem_cons_self hk hv' upd_same dm2 mm (i _ _ (k _ [] _ dm2 (walks_dk List.mem_cons_self hk) mm))
    · cases fl with
      | nx ρ' => exact fun σ' H' ag d m => ⟨m.locked, q σ' _ ag d (m.unlock once)⟩
      | rt x ρ' => exact fun v σ' H' ag d m => ⟨m.locked, q v σ' _ ag d (m.unlock once)⟩
  · right
    have hlk := m1.inLk hp
    refine tFor_x (lk := CA.lk) (wi := tW CA fun ρ => .ok ((ks.map kdD, none), ρ)) (fun R R' i ⟨ρ2, L2, dm2, mm, w2, ρ3, ev2, ch2, k⟩ => ?_) (for_read (CA := CA) (g := g) (sl := sl) (fb := fb) (fw := fun ρ => .ok ((ks.map kdD, none), ρ)) (fun ρ w j d h1 h2 => by cases h1; cases h2) ⟨ρ1, L, dm1, m1.drop, fl, ev, q⟩)
    cases ev2
    exact tw_dk (CA := CA) hlk hk hv hp dm2 mm (i _ _ (k _ [] _ dm2 (walks_dk hlk hk) mm))
/-! ### comprehensions -/
theorem tT_mono {σ : L2.St} {H : Hp} {Q Q' : Bool → Hp → Prop} (i : ∀ b H, Q b H → Q' b H) (h : tT CA t σ H Q) : tT CA t σ H Q' := by
  obtain ⟨ρ, L, dm, m, b, ρ', e, k⟩ := h
  exact ⟨ρ, L, dm, m, b, ρ', e, fun H' x y => i _ _ (k H' x y)⟩
theorem tE_mono {σ : L2.St} {H : Hp} {Q Q' : VK} (i : ∀ b H, Q b H → Q' b H) (h : tE CA el σ H Q) : tE CA el σ H Q' := by
  obtain ⟨ρ, L, dm, m, b, ρ', e, k⟩ := h
  exact ⟨ρ, L, dm, m, b, ρ', e, fun v H' x y => i _ _ (k v H' x y)⟩
theorem tLc_x {lk : List (Addr × Obj × HO)} {wi wi' : TI} {σ : L2.St} {H : Hp} {Q Q' : VK} (hw : ∀ R R' : L2.It → Hp → Prop, (∀ J H, R J H → R' J H) → wi σ H R → wi' σ H R') (iq : ∀ v H, Q v H → Q' v H)
    (h : tLc wi (tG (CA.re lk) g) (tT (CA.re lk) t) (tE (CA.re lk) el) own σ H Q) : tLc wi' (tGx CA g) (tTx CA t) (tEx CA el) own σ H Q' := by
  refine hw _ _ (fun J H1 f D hD => ?_) h
  obtain ⟨W, w0, st⟩ := f D hD
  refine ⟨W, w0, fun i m H2 w => ?_⟩
  rcases st i m H2 w with ⟨q1, q2⟩ | ⟨q1, Nx, q2, q3⟩
  · exact .inl ⟨q1, iq _ _ q2⟩
  · refine .inr ⟨q1, Nx, q2, fun x H' y => ⟨lk, tG_mono (fun σ3 H3 z => ⟨z.1, lk, tT_mono (fun b H4 z2 => ?_) z.2⟩) (q3 x H' y)⟩⟩
    cases b with
    | true => rw [if_pos rfl] at z2 ⊢; exact ⟨lk, z2⟩
    | false => exact z2
noncomputable def lcKF (a : E) (own : List Nat) (g : Tg) (t : Env → Out (Bool × Env)) (el : Ev) : Ev := fun ρ => ((dkF a ρ).bind fun w => .ok ((w.1, (none : Option (Nat × D))), w.2)).bind (lcF own g t el)
/-- the two ways of a comprehension over a dict: locked for it, or locked already -/
theorem lcK_read {σ : L2.St} {H : Hp} {Q : VK} (hown : own = g.slots) (nd : own.Nodup) (h : tE CA (lcKF a own g t el) σ H Q) :
    (∃ d u, H d = some u ∧ Mut (some u) ∧ ∀ od, tLc (iKeys (tDk a)) (tGx CA g) (tTx CA t) (tEx CA el) own σ (upd H d (.frz od u)) fun v H' => H' d = some (.frz od u) ∧ Q v (upd H' d u)) ∨ tLc (iKeys (tDk a)) (tGx CA g) (tTx CA t) (tEx CA el) own σ H Q := by
  obtain ⟨ρ, L, dm, m, d, ρ', ev, q⟩ := h
  obtain ⟨w, e0, ev⟩ := Out.bind_eq ev
  obtain ⟨⟨ds, ρ1⟩, e1, e0⟩ := Out.bind_eq e0
  cases e0
  obtain ⟨p, ks, l, rfl, left, hv, dm1, m1⟩ := dk_open e1 dm m
  obtain ⟨kvs, hp, hk⟩ := dk_kind m1 left
  rcases hp with hp | ⟨o, hp⟩
  · left
    refine ⟨p, .dK kvs, hp, trivial, fun od => ?_⟩
    have m2 := MR.drop (MR.lock (o := od) m1 hp trivial)
    have once : ∀ x ∈ CA.lk, x.1 ≠ p := fun x hx z => by
      have := m1.lkd hx
      rw [z, hp] at this
      cases this
    have hv' : dkV a σ (upd H p (.frz od (.dK kvs))) (.ref p) := dkV_upd hp hv
    refine tLc_x (lk := (p, od, HO.dK kvs) :: CA.lk) (wi := tW (CA.lock p od (.dK kvs)) fun ρ => .ok ((ks.map kdD, none), ρ)) (fun R R' i ⟨ρ2, L2, dm2, mm, w2, ρ3, ev2, ch2, k⟩ => ?_) (fun _ _ h => h)
      (lc_read (CA := CA.lock p od (.dK kvs)) (g := g) (t := t) (el := el) (own := own) (fw := fun ρ => .ok ((ks.map kdD, none), ρ)) (Q := fun v H' => H' p = some (.frz od (.dK kvs)) ∧ Q v (upd H' p (.dK kvs))) hown nd (fun ρ w j d h1 h2 => by cases h1; cases h2) ⟨ρ1, L, dm1, m2, d, ρ', ev, fun v H' x y => ⟨y.locked, q v _ x (y.unlock once)⟩⟩)
    cases ev2
    exact tw_dk (CA := CA.lock p od (.dK kvs)) List.mem_cons_self hk hv' upd_same dm2 mm (i _ _ (k _ [] _ dm2 (walks_dk List.mem_cons_self hk) mm))
  · right
    have hlk := m1.inLk hp
    refine tLc_x (lk := CA.lk) (wi := tW CA fun ρ => .ok ((ks.map kdD, none), ρ)) (fun R R' i ⟨ρ2, L2, dm2, mm, w2, ρ3, ev2, ch2, k⟩ => ?_) (fun _ _ h => h)
      (lc_read (CA := CA) (g := g) (t := t) (el := el) (own := own) (fw := fun ρ => .ok ((ks.map kdD, none), ρ)) (Q := Q) hown nd (fun ρ w j d h1 h2 => by cases h1; cases h2) ⟨ρ1, L, dm1, m1.drop, d, ρ', ev, q⟩)
    cases ev2
    exact tw_dk (CA := CA) hlk hk hv hp dm2 mm (i _ _ (k _ [] _ dm2 (walks_dk hlk hk) mm))
variable {ifs : List Expr} {scope : Scope} {pos : Pos}
theorem pe_lcK (hc : X.calm = true) (hN : X.N.Nodup) {ns : List (Str × Nat)} (hi : PE X iter (tDk a)) (ok : BlkOk X.N X.env.scope scope ns) (hns : ns.map (·.2) = own)
    (hg : ∀ lk (s : Shared) (H : Hp) (C : Addr) (cl : List (Str × Addr)) (fp : List Addr), PG (X.blk s H scope (compEnvC scope cl C X.env) fp) tg (tG (CA.re lk) g)) (ht : ∀ lk (s : Shared) (H : Hp) (C : Addr) (cl : List (Str × Addr)) (fp : List Addr), PTs (X.blk s H scope (compEnvC scope cl C X.env) fp) ifs (tT (CA.re lk) t))
    (he : ∀ lk (s : Shared) (H : Hp) (C : Addr) (cl : List (Str × Addr)) (fp : List Addr), PE (X.blk s H scope (compEnvC scope cl C X.env) fp) elt (tE (CA.re lk) el)) (hs : ∀ x, foldedSetIterable iter X.env x = pure x)
    (hown : own = g.slots) (nd : own.Nodup) : PE X (.ListComp elt [⟨tg, iter, ifs, 0⟩] scope pos) (tE CA (lcKF a own g t el)) := by
  have base := pe_lc (pos := pos) hc hN (pi_keys (tg := tg) hi) ok (fun s H C cl fp => pg_x fun lk => hg lk s H C cl fp) (fun s H C cl fp => pts_x fun lk => ht lk s H C cl fp) (fun s H C cl fp => pe_x fun lk => he lk s H C cl fp) hs
  rw [hns] at base
  exact ((pe_lock base).or base).imp fun σ H Q h => lcK_read hown nd h
theorem ps_setLcK {i : Nat} {y : Str} {py spos : Pos} (hc : X.calm = true) (hN : X.N.Nodup) (hy : X.N[i]? = some y) (hyl : X.env.scope.names.lookup y = some .local) (hsw : swapsWith (.ListComp elt [⟨tg, iter, ifs, 0⟩] scope pos) (some (.Name y py)) spos.line X.env = pure true) {ns : List (Str × Nat)} (hi : PE X iter (tDk a)) (ok : BlkOk X.N X.env.scope scope ns) (hns : ns.map (·.2) = own)
    (hg : ∀ lk (s : Shared) (H : Hp) (C : Addr) (cl : List (Str × Addr)) (fp : List Addr), PG (X.blk s H scope (compEnvC scope cl C X.env) fp) tg (tG (CA.re lk) g)) (ht : ∀ lk (s : Shared) (H : Hp) (C : Addr) (cl : List (Str × Addr)) (fp : List Addr), PTs (X.blk s H scope (compEnvC scope cl C X.env) fp) ifs (tT (CA.re lk) t))
    (he : ∀ lk (s : Shared) (H : Hp) (C : Addr) (cl : List (Str × Addr)) (fp : List Addr), PE (X.blk s H scope (compEnvC scope cl C X.env) fp) elt (tE (CA.re lk) el)) (hs : ∀ x, foldedSetIterable iter X.env x = pure x)
    (hown : own = g.slots) (nd : own.Nodup) : PS X (.Assign [.Name y py] (.ListComp elt [⟨tg, iter, ifs, 0⟩] scope pos) spos) (tAsg (tE CA (lcKF a own g t el)) (gName i)) := by
  have base := ps_setLc hc hN hy hyl hsw (pi_keys (tg := tg) hi) ok (fun s H C cl fp => pg_x fun lk => hg lk s H C cl fp) (fun s H C cl fp => pts_x fun lk => ht lk s H C cl fp) (fun s H C cl fp => pe_x fun lk => he lk s H C cl fp) hs
  rw [hns] at base
  refine ((ps_lock base).or base).imp fun D σ H h => ?_
  rcases lcK_read hown nd h with ⟨d, u, h1, h2, h3⟩ | h3
  · exact .inl ⟨d, u, h1, h2, fun od => h3 od⟩
  · exact .inr h3
end
end VL
/-! VL: reversed(list), reversed(range(n)), enumerate(list) -/
namespace VL
open PySem PySem.Spec PyProof.Rows L2
section
variable {X : Cx} {CA : Ct} {tg e : Expr} {p pos p2 pos2 : Pos} {g : Ev} {σ0 : L2.St}
theorem walks_rev {q : Addr} {l : List D} : Walks CA σ0 (Itv X.K q l.length) l.reverse none [(.ref q, .lst false l)] where
  go := fun i σ ρ L H m _ hi => by
    obtain ⟨p', vs, e, hl, hp, _⟩ := (MR.unrot (K := envL σ ρ) m).itemsF
    cases e
    simp only [List.length_reverse] at hi
    exact ⟨hi, vs, vs[l.length - 1 - i]'(by omega), .of hp, List.getElem?_eq_getElem (by omega)⟩
  stop := fun i σ ρ L H m _ hi => by
    show l.length ≤ i
    simpa using hi
  yld := fun i σ ρ L H d x H' m _ hd y => by
    obtain ⟨rfl, y⟩ := y
    obtain ⟨p', vs, e, hl, hp, m1⟩ := (MR.unrot (K := envL σ ρ) m).itemsF
    cases e
    have hx := y vs (.of hp)
    have hi : i < l.length := by have := (List.getElem?_eq_some_iff.mp hd).1; simpa using this
    rw [List.getElem?_reverse hi] at hd
    have m2 := m1.pick hx hd
    exact m2.perm (List.Perm.cons _ List.perm_middle.symm)
def revF (g : Ev) : EvW := fun ρ => (g ρ).bind fun x => itRev x.1 x.2
theorem pi_revD (hg : Gl X "reversed") (hm : X.mg "reversed" = none) (ha : PE X e (tE CA g)) (hs : starEach [e] X.env = [(false, eval e X.env)]) (hs' : starEach [e] X.env = (false, eval e X.env) :: starEach [] X.env) : PI X tg (.Call (.Name "reversed" p) [e] [] pos) (tW CA (revF g)) :=
  (pi_reversed hg hm (pa_cons ha pa_nil hs') hs).imp fun σ H R ⟨ρ, L, dm, m, w, ρ', ev, ch, q⟩ => by
  obtain ⟨x, e1, ev⟩ := Out.bind_eq ev
  obtain ⟨d, ρ1⟩ := x
  unfold itRev at ev
  cases d <;> simp only [frz] at ev <;> first
    | (cases ev; done)
    | skip
  rename_i o l
  cases ev
  refine ⟨ρ, L, dm, m, _, _, e1, fun v H' dm' m' => ?_⟩
  have m2 := m'.freeze
  simp only [frz] at m2
  obtain ⟨q', vs, rfl, hl, hp⟩ := m2.readL
  have hw := walks_rev (X := X) (CA := CA) (σ0 := σ) (q := q') (l := frzL l)
  refine ⟨q', vs, rfl, .of hp, ?_⟩
  rw [hl]
  exact q _ [(.ref q', .lst false (frzL l))] H' dm' hw m2.rot
end
end VL
/-! VL part 20: what a checked expression gives -/
namespace VL
open PySem PySem.Spec L2
structure Gd (Γ : Gm) (CA : Ct) (G : Ctx) (lv : Nat) (X : Cx) (sc : Scope) : Prop where
  K : CA.K = X.K
  N : X.N = Γ.N
  nd : Γ.N.Nodup
  calm : X.calm = true
  room : Room lv X.A
  kind : X.env.scope.kind = .function
  vis : ∀ y, visB sc y = true → Vis X.env.scope y
  gl : ∀ y, glB sc y = true → Gl X y
  loc : ∀ y, locB sc y = true → L2.Loc X.env.scope y ∧ (X.fn y = true ∨ X.env.scope.names.lookup y = some .local)
  cf : ∀ y, cfB sc y = true → X.env.scope.names.lookup y = some .cell ∨ X.env.scope.names.lookup y = some .free
  lcl : ∀ y, sc.names.lookup y = some .local → X.env.scope.names.lookup y = some .local
  blt : ∀ y ∈ Γ.blt, X.mg y = none
  fns : ∀ (k : Nat) (y : Str), Γ.fns[k]? = some y → ∀ lk, HasFn X (CA.re lk) lv y (G.at k)
  gls : ∀ (j : Nat) (y : Str) (d : D), Γ.gls[j]? = some y → G.gl[j]? = some d → ∃ u, X.mg y = some u ∧ isSc d = true ∧ RelV (scV d) u
theorem lookup_rel {c : Str → NameKind → Bool} {y : Str} : ∀ {names : List (Str × NameKind)}, (names.map fun (n, k) => if c n k then (n, NameKind.cell) else (n, k)).lookup y = (names.lookup y).map fun k => if c y k then NameKind.cell else k
  | [] => rfl
  | (n, k) :: r => by
    have ih := lookup_rel (c := c) (y := y) (names := r)
    simp only [List.map_cons]
    by_cases h : (y == n) = true
    · have e : y = n := by simpa using h
      subst e
      by_cases hc : c y k = true
      · rw [if_pos hc]; simp [List.lookup_cons, hc]
      · rw [if_neg hc]; simp [List.lookup_cons, hc]
    · have e : y ≠ n := by simpa using h
      by_cases hc : c n k = true
      · rw [if_pos hc]; simp only [List.lookup_cons]; simp only [Bool.not_eq_true] at h; rw [h]; exact ih
      · rw [if_neg hc]; simp only [List.lookup_cons]; simp only [Bool.not_eq_true] at h; rw [h]; exact ih
section
variable {Γ : Gm} {CA : Ct} {G : Ctx} {lv : Nat} {X : Cx} {sc scope : Scope}
theorem Gd.re (g : Gd Γ CA G lv X sc) (lk : List (Addr × Obj × HO)) : Gd Γ (CA.re lk) G lv X sc :=
  ⟨g.K, g.N, g.nd, g.calm, g.room, g.kind, g.vis, g.gl, g.loc, g.cf, g.lcl, g.blt, fun k y hk lk' => g.fns k y hk lk', g.gls⟩
theorem Gd.var {i : Nat} {x : Expr} (g : Gd Γ CA G lv X sc) (h : kN Γ i sc x = true) : PE X x (tVar i) := by
  cases x <;> simp only [kN] at h <;> first
    | (exact absurd h Bool.false_ne_true)
    | skip
  simp only [Bool.and_eq_true, decide_eq_true_eq, Bool.not_eq_true'] at h
  obtain ⟨⟨⟨h1, h2⟩, h3⟩, h4⟩ := h
  exact pe_var (by rw [g.N]; exact h1) (g.vis _ h2) h3 h4
theorem Gd.name {i : Nat} {x : Expr} (g : Gd Γ CA G lv X sc) (h : kS Γ i sc x = true) : PG X x (gName i) := by
  cases x <;> simp only [kS] at h <;> first
    | (exact absurd h Bool.false_ne_true)
    | skip
  simp only [Bool.and_eq_true, decide_eq_true_eq] at h
  have := g.loc _ h.2
  exact pg_name (by rw [g.N]; exact g.nd) (by rw [g.N]; exact h.1) this.1 this.2
theorem kS_star {i : Nat} {x : Expr} (h : kS Γ i sc x = true) : nStar x = true := by
  cases x <;> simp only [kS] at h <;> first
    | (exact absurd h Bool.false_ne_true)
    | rfl
theorem Gd.names (g : Gd Γ CA G lv X sc) : ∀ {is : List Nat} {xs : List Expr}, kSs Γ is sc xs = true → PGs X xs (tGs CA is) ∧ (assignEach xs X.env).length = is.length ∧ (assignEach xs X.env).findIdx? (·.1) = none
  | [], [], _ => ⟨pgs_nilD, rfl, rfl⟩
  | i :: is, x :: xs, h => by
    simp only [kSs, Bool.and_eq_true] at h
    obtain ⟨h1, h2, h3⟩ := g.names h.2
    have hs := kS_star h.1
    refine ⟨pgs_consD (g.name h.1) h1 (by rw [asgEach_cons hs]; rfl), by rw [asgEach_cons hs]; simp [h2], ?_⟩
    rw [asgEach_cons hs, List.findIdx?_cons]
    simp [h3]
  | [], _ :: _, h => by simp [kSs] at h
  | _ :: _, [], h => by simp [kSs] at h
theorem Gd.tgt {t : Tg} {x : Expr} (g : Gd Γ CA G lv X sc) (h : kG Γ t sc x = true) : PG X x (tG CA t) := by
  cases t with
  | one i => exact pg_oneD (g.name (by simpa only [kG] using h))
  | tup is =>
    cases x <;> simp only [kG] at h <;> first
      | (exact absurd h Bool.false_ne_true)
      | skip
    obtain ⟨h1, h2, h3⟩ := g.names h
    exact pg_tupD g.calm h1 h2 h3
theorem Gd.dbg {y : Str} (h : glB sc y = true) : (y == ("__debug__" : Str)) = false := by
  unfold glB at h
  split at h
  · simpa using h
  · cases h
theorem Gd.bt {y : Str} (g : Gd Γ CA G lv X sc) (h : kB Γ sc y = true) : Gl X y ∧ X.mg y = none ∧ y ≠ "__name__" ∧ (y == ("__debug__" : Str)) = false := by
  simp only [kB, Bool.and_eq_true, decide_eq_true_eq, Bool.not_eq_true'] at h
  exact ⟨g.gl _ h.1.1, g.blt _ h.1.2, by simpa using h.2, Gd.dbg h.1.1⟩
theorem Gd.blk {own : List Nat} (g : Gd Γ CA G lv X sc) (h : blkB Γ sc scope own = true) : BlkOk X.N X.env.scope scope (nsOf Γ own) ∧
    ∀ (s : Shared) (H : Hp) (C : Addr) (cl : List (Str × Addr)) (fp : List Addr), Gd Γ CA G lv (X.blk s H scope (compEnvC scope cl C X.env) fp) scope := by
  unfold blkB at h
  simp only [Bool.and_eq_true, List.all_eq_true, decide_eq_true_eq] at h
  obtain ⟨⟨⟨h1, h2⟩, h3⟩, h4⟩ := h
  have hk : scope.kind = .function := by
    split at h1
    · assumption
    · cases h1
  refine ⟨⟨hk, h2, by rw [g.N]; exact h3, fun y hy e => ?_, fun y hy e => ?_⟩, fun s H C cl fp => ?_⟩
  · have q := h4 y hy
    simp only [e] at q
    exact g.cf _ q
  · have q := h4 y hy
    rw [g.N]
    rcases e with e | e <;> (simp only [e, Bool.or_eq_true, decide_eq_true_eq] at q; exact q)
  · have lk : ∀ y, (X.blk s H scope (compEnvC scope cl C X.env) fp).env.scope.names.lookup y = (scope.names.lookup y).map fun k => if (k == .free && X.env.scope.kind == .function && X.env.kindOf y == some .cell) then NameKind.cell else k :=
      fun y => lookup_rel (c := fun n k => (k == .free && X.env.scope.kind == .function && X.env.kindOf n == some .cell))
    refine ⟨g.K, g.N, g.nd, g.calm, g.room, hk, fun y hy => ?_, fun y hy => ?_, fun y hy => ?_, fun y hy => ?_, fun y hy => ?_, g.blt, fun k y hk lk => ⟨(g.fns k y hk lk).ex⟩, g.gls⟩
    · unfold visB at hy
      unfold Vis
      rw [lk]
      split at hy <;> rename_i e <;> first
        | (exact absurd hy Bool.false_ne_true)
        | (rw [e]; exact .inl rfl)
        | (rw [e]; exact .inr (.inl rfl))
        | skip
      rw [e]
      simp only [Option.map_some]
      split
      · exact .inr (.inl rfl)
      · exact .inr (.inr rfl)
    · unfold glB at hy
      show (X.blk s H scope (compEnvC scope cl C X.env) fp).env.scope.names.lookup y = _
      rw [lk]
      split at hy <;> rename_i e <;> first
        | (exact absurd hy Bool.false_ne_true)
        | (rw [e]; rfl)
    · unfold locB at hy
      unfold L2.Loc
      rw [lk]
      show _ ∧ ((scope.names.lookup y == some .cell) = true ∨ _)
      split at hy <;> rename_i e <;> first
        | (exact absurd hy Bool.false_ne_true)
        | (rw [e]; exact ⟨.inl rfl, .inr rfl⟩)
        | (rw [e]; exact ⟨.inr rfl, .inl rfl⟩)
    · unfold cfB at hy
      rw [lk]
      split at hy <;> rename_i e <;> first
        | (exact absurd hy Bool.false_ne_true)
        | (rw [e]; exact .inl rfl)
        | skip
      rw [e]
      simp only [Option.map_some]
      split
      · exact .inl rfl
      · exact .inr rfl
    · rw [lk, hy]; rfl
end
end VL
/-! VL part 21: checked expressions are sound -/
namespace VL
open PySem PySem.Spec L2
def Snd (CA : Ct) (G : Ctx) (X : Cx) : Md → E → Expr → Prop
  | .val, e, x => PE X x (tE CA (evE G e))
  | .tst, e, x => PT X x (tT CA (tstF (evE G e)))
  | .wh, e, x => PW X x (tT CA (tstF (evE G e)))
  | .bor, e, x => PE X x (tV CA (evE G e))
  | .late, e, x => PE X x (tN CA (argN e (evE G e)))
  | .ref, e, x => PE X x (tN CA (argR e (evE G e)))
section
variable {Γ : Gm} {CA : Ct} {G : Ctx} {lv : Nat} {X : Cx} {sc scope : Scope} {x : Expr} {m : Md} {e : E}
theorem ordT (nw : m.nw = true) (hp : PE X x (tE CA (evE G e))) (ht : m = .tst → PT X x (tT CA (tstF (evE G e)))) (hn : ∀ f ρ, argN e f ρ = (f ρ).bind fun x => .ok (.inl x.1, x.2)) (hr : ∀ f ρ, argR e f ρ = (f ρ).bind fun x => .ok (.inl x.1, x.2)) : Snd CA G X m e x := by
  cases m with
  | val => exact hp
  | tst => exact ht rfl
  | wh => exact absurd nw (by decide)
  | bor => exact hp.view
  | late =>
    have := hp.first
    have e0 : argN e (evE G e) = fun ρ => (evE G e ρ).bind fun x => .ok (.inl x.1, x.2) := funext fun ρ => hn _ ρ
    show PE X x (tN CA (argN e (evE G e)))
    rw [e0]; exact this
  | ref =>
    have := hp.first
    have e0 : argR e (evE G e) = fun ρ => (evE G e ρ).bind fun x => .ok (.inl x.1, x.2) := funext fun ρ => hr _ ρ
    show PE X x (tN CA (argR e (evE G e)))
    rw [e0]; exact this
theorem ord (nw : m.nw = true) (hp : PE X x (tE CA (evE G e))) (ht : tstE x = true) (hn : ∀ f ρ, argN e f ρ = (f ρ).bind fun x => .ok (.inl x.1, x.2)) (hr : ∀ f ρ, argR e f ρ = (f ρ).bind fun x => .ok (.inl x.1, x.2)) : Snd CA G X m e x :=
  ordT nw hp (fun _ => hp.test (tst_of ht)) hn hr
theorem nsOf_snd {own : List Nat} : (nsOf Γ own).map (·.2) = own := by
  induction own with
  | nil => rfl
  | cons i is ih => simp [nsOf, ih]
theorem it_slot {it : It} {ρ : Env} {w : Wk × Env} {j : Nat} {d : D} (h : evalIt G it ρ = .ok w) (e : w.1.2 = some (j, d)) : itSlot it = some j := by
  cases it with
  | seq a =>
    simp only [evalIt] at h
    unfold itSeq at h
    split at h
    · rename_i i
      unfold slotW at h
      obtain ⟨d0, _, h⟩ := Out.bind_eq h
      have : j = i := by
        split at h <;> first
          | (cases h; done)
          | (cases h; simp at e; exact e.1.symm)
          | (cases h; simp at e; done)
          | (obtain ⟨_, h⟩ := Out.guard_eq h; cases h; simp at e; done)
      subst this; rfl
    · obtain ⟨x, _, h⟩ := Out.bind_eq h
      obtain ⟨y, _, h⟩ := Out.bind_eq h
      cases h; simp at e
  | rng a =>
    simp only [evalIt] at h
    obtain ⟨x, _, h⟩ := Out.bind_eq h
    obtain ⟨y, _, h⟩ := Out.bind_eq h
    obtain ⟨_, h⟩ := Out.guard_eq h
    cases h; simp at e
  | rrng a =>
    simp only [evalIt] at h
    obtain ⟨x, _, h⟩ := Out.bind_eq h
    obtain ⟨y, _, h⟩ := Out.bind_eq h
    cases h; simp at e
  | rev a =>
    simp only [evalIt] at h
    obtain ⟨x, _, h⟩ := Out.bind_eq h
    unfold itRev at h
    split at h <;> cases h
    simp at e
  | enm a =>
    simp only [evalIt] at h
    obtain ⟨x, _, h⟩ := Out.bind_eq h
    unfold itEnm at h
    split at h <;> cases h
    simp at e
  | zip a b =>
    simp only [evalIt] at h
    obtain ⟨x, _, h⟩ := Out.bind_eq h
    obtain ⟨y, _, h⟩ := Out.bind_eq h
    unfold itZip at h
    split at h <;> first
      | (cases h; simp at e; done)
      | cases h
  | dk a =>
    simp only [evalIt] at h
    obtain ⟨x, _, h⟩ := Out.bind_eq h
    cases h; simp at e
theorem boot_b1 (f : B1) (h : f ≠ .lset) : bootBuiltins (b1N f) = some (b1V f) := by
  cases f with
  | len => exact PySem.boot_len
  | all => exact (by decide +kernel : bootBuiltins "all" = some (.builtin "all"))
  | lset => exact absurd rfl h
  | int => exact (by decide +kernel : bootBuiltins "int" = some (.type "int"))
  | max => exact (by decide +kernel : bootBuiltins "max" = some (.builtin "max"))
theorem boot_ty (t : Ty) : bootBuiltins (tyS t) = some (.type (tyN t)) := by
  cases t with
  | int => exact (by decide +kernel : bootBuiltins "int" = some (.type "int"))
  | bool => exact (by decide +kernel : bootBuiltins "bool" = some (.type "bool"))
  | str => exact (by decide +kernel : bootBuiltins "str" = some (.type "str"))
  | tuple => exact (by decide +kernel : bootBuiltins "tuple" = some (.type "tuple"))
  | list => exact (by decide +kernel : bootBuiltins "list" = some (.type "list"))
theorem boot_isi : bootBuiltins "isinstance" = some (.builtin "isinstance") := by decide +kernel
theorem boot_lst : bootBuiltins "list" = some (.type "list") := by decide +kernel
theorem boot_tpl : bootBuiltins "tuple" = some (.type "tuple") := by decide +kernel
theorem boot_dct : bootBuiltins "dict" = some (.type "dict") := by decide +kernel
theorem snd_call1 {f : E} {y : Expr} {n : Str} {p pos : Pos} {id : Value} {r : List V → Hp → VK → Prop} {t : TE} (g : Gd Γ CA G lv X sc) (hc : CallR X id r) (hid : (∃ s, id = .builtin s) ∨ ∃ s, id = .type s) (hb : kB Γ sc n = true) (hv : bootBuiltins n = some id) (ha : PE X y t) (hs : nStar y = true) :
    PE X (.Call (.Name n p) [y] [] pos) (tCB r (tCons t tNil)) := by
  obtain ⟨h1, h2, h3, h4⟩ := g.bt hb
  have s1 : starEach [y] X.env = (false, eval y X.env) :: starEach [] X.env := star_cons hs
  rcases hid with ⟨s, rfl⟩ | ⟨s, rfl⟩
  · exact pe_callB hc h1 h2 hv (pa_cons ha pa_nil s1) h3 h4 s1 rfl
  · exact pe_callTy hc h1 h2 hv (pa_cons ha pa_nil s1) h3 h4 s1 rfl
theorem boot_srt : bootBuiltins "sorted" = some (.builtin "sorted") := by decide +kernel
theorem boot_set : bootBuiltins "set" = some (.type "set") := by decide +kernel
theorem boot_b2 (f : B2) : bootBuiltins (b2N f) = some (b2V f) := by
  cases f with
  | min => exact (by decide +kernel : bootBuiltins "min" = some (.builtin "min"))
  | max => exact (by decide +kernel : bootBuiltins "max" = some (.builtin "max"))
theorem snd_c1 {f : C1} {y : Expr} {n : Str} {p pos : Pos} {fa : EvN} (g : Gd Γ CA G lv X sc) (hf : f ≠ .sset) (hn : n = c1N f) (hb : kB Γ sc n = true) (ha : PE X y (tN CA fa)) (hs : nStar y = true) : PE X (.Call (.Name n p) [y] [] pos) (tE CA (c1F f fa)) := by
  subst hn
  cases f with
  | sorted => exact (snd_call1 (f := .cn) g (ok_sorted (CA := CA) g.calm).call (.inl ⟨_, rfl⟩) hb boot_srt ha hs).imp fun σ H Q t => c1_rd (ok_sorted g.calm) t
  | sset => exact absurd rfl hf
  | list => exact (snd_call1 (f := .cn) g (ok_list (CA := CA) g.calm).call (.inr ⟨_, rfl⟩) hb boot_lst ha hs).imp fun σ H Q t => c1_rd (ok_list g.calm) t
  | tuple => exact (snd_call1 (f := .cn) g (ok_tuple (CA := CA)).call (.inr ⟨_, rfl⟩) hb boot_tpl ha hs).imp fun σ H Q t => c1_rd ok_tuple t
  | dict => exact (snd_call1 (f := .cn) g (ok_dict (CA := CA) g.calm).call (.inr ⟨_, rfl⟩) hb boot_dct ha hs).imp fun σ H Q t => c1_rd (ok_dict g.calm) t
theorem snd_sset {z : Expr} {n n2 : Str} {p p2 pos pos2 : Pos} {fa : EvN} (g : Gd Γ CA G lv X sc) (hn : n = "sorted") (hb : kB Γ sc n = true) (hn2 : n2 = "set") (hb2 : kB Γ sc n2 = true) (ha : PE X z (tN CA fa)) (hs : nStar z = true) :
    PE X (.Call (.Name n p) [.Call (.Name n2 p2) [z] [] pos2] [] pos) (tE CA (c1F .sset fa)) := by
  subst hn hn2
  have inner := snd_call1 (f := .cn) (p := p2) (pos := pos2) g (cr_setOf g.calm) (.inr ⟨_, rfl⟩) hb2 boot_set ha hs
  exact (snd_call1 (f := .cn) g (cr_srtSt g.calm) (.inl ⟨_, rfl⟩) hb boot_srt inner rfl).imp fun σ H Q t => sset_read t
theorem snd_b2 {f : B2} {y z : Expr} {n : Str} {p pos : Pos} {h k : Ev} (g : Gd Γ CA G lv X sc) (hn : n = b2N f) (hb : kB Γ sc n = true) (ha : PE X y (tE CA h)) (hz : PE X z (tE CA k)) (hs : nStar y = true) (hs2 : nStar z = true) : PE X (.Call (.Name n p) [y, z] [] pos) (tE CA (b2F f h k)) := by
  subst hn
  obtain ⟨h1, h2, h3, h4⟩ := g.bt hb
  have s1 : starEach [y, z] X.env = (false, eval y X.env) :: starEach [z] X.env := star_cons hs
  have s2 : starEach [z] X.env = (false, eval z X.env) :: starEach [] X.env := star_cons hs2
  cases f with
  | min => exact (pe_callB (call_b2 .min g.calm) h1 h2 (boot_b2 .min) (pa_cons ha (pa_cons hz pa_nil s2) s1) h3 h4 s1 (by rw [s2]; rfl)).imp fun σ H Q t => b2_read t
  | max => exact (pe_callB (call_b2 .max g.calm) h1 h2 (boot_b2 .max) (pa_cons ha (pa_cons hz pa_nil s2) s1) h3 h4 s1 (by rw [s2]; rfl)).imp fun σ H Q t => b2_read t
theorem snd_b1 {f : B1} {y : Expr} {n : Str} {p pos : Pos} {h : Ev} (g : Gd Γ CA G lv X sc) (hf : f ≠ .lset) (hn : n = b1N f) (hb : kB Γ sc n = true) (ha : PE X y (tV CA h)) (hs : nStar y = true) : PE X (.Call (.Name n p) [y] [] pos) (tE CA (b1F f h)) := by
  subst hn
  refine (snd_call1 (f := .cn) g (call_b1 (CA := CA) f hf g.calm g.K) ?_ hb (boot_b1 f hf) ha hs).imp fun σ H Q t => b1_read t
  cases f <;> first
    | exact .inl ⟨_, rfl⟩
    | exact .inr ⟨_, rfl⟩
    | exact absurd rfl hf
theorem snd_isi {t : Ty} {y : Expr} {n z : Str} {p p2 pos : Pos} {h : Ev} (g : Gd Γ CA G lv X sc) (hn : n = "isinstance") (hb : kB Γ sc n = true) (hz : z = tyS t) (hb2 : kB Γ sc z = true) (ha : PE X y (tV CA h)) (hs : nStar y = true) : PE X (.Call (.Name n p) [y, .Name z p2] [] pos) (tE CA (isiF t h)) := by
  subst hn hz
  obtain ⟨h1, h2, h3, h4⟩ := g.bt hb
  obtain ⟨k1, k2, k3, k4⟩ := g.bt hb2
  have s1 : starEach [y, .Name (tyS t) p2] X.env = (false, eval y X.env) :: starEach [.Name (tyS t) p2] X.env := star_cons hs
  have hty : PE X (.Name (tyS t) p2) (tC (.ty (tyN t))) := pe_bltn k1 k2 (boot_ty t) rfl k3 k4
  exact (pe_callB call_isi h1 h2 boot_isi (pa_cons ha (pa_cons hty pa_nil rfl) s1) h3 h4 s1 rfl).imp fun σ H Q t => isi_read g.K t
theorem wrap {f g : Ev} (h : PE X x (tE CA f)) (e : f = g) : PE X x (tE CA g) := e ▸ h
end
end VL
/-! VL part 22: the expressions -/
namespace VL
open PySem PySem.Spec L2
theorem ff {p : Prop} (h : false = true) : p := absurd h Bool.false_ne_true
variable {Γ : Gm} {CA : Ct} {G : Ctx} {lv : Nat}
theorem in2_nw {m : Md} : m.in2.nw = true := by cases m <;> rfl
theorem snd_and1 {m : Md} {X : Cx} {a : E} {y : Expr} {p : Pos} (h : Snd CA G X m.in2 a y) : Snd CA G X m (.and1 a) (.BoolOp .And [y] p) := by
  cases m with
  | tst => exact (pw_and1 h).pt
  | wh => exact pw_and1 h
  | val => exact pe_one h
  | bor => exact (pe_one h).view
  | late => exact (pe_one h).first
  | ref => exact (pe_one h).first
theorem snd_or1 {m : Md} {X : Cx} {a : E} {y : Expr} {p : Pos} (h : Snd CA G X m.in2 a y) : Snd CA G X m (.or1 a) (.BoolOp .Or [y] p) := by
  cases m with
  | tst => exact (pw_or1 h).pt
  | wh => exact pw_or1 h
  | val => exact pe_one h
  | bor => exact (pe_one h).view
  | late => exact (pe_one h).first
  | ref => exact (pe_one h).first
theorem snd_and2 {m : Md} {X : Cx} {a b : E} {y z : Expr} {r : List Expr} {p : Pos} (h : Snd CA G X m.in2 a y) (h' : Snd CA G X m.in3 b (.BoolOp .And (z :: r) p)) : Snd CA G X m (.and2 a b) (.BoolOp .And (y :: z :: r) p) := by
  cases m with
  | tst => exact (pw_andD h h').pt
  | wh => exact pw_andD h h'
  | val => exact pe_andD h h'
  | bor => exact (pe_andD h h').view
  | late => exact (pe_andD h h').first
  | ref => exact (pe_andD h h').first
theorem snd_or2 {m : Md} {X : Cx} {a b : E} {y z : Expr} {r : List Expr} {p : Pos} (h : Snd CA G X m.in2 a y) (h' : Snd CA G X m.in3 b (.BoolOp .Or (z :: r) p)) : Snd CA G X m (.or2 a b) (.BoolOp .Or (y :: z :: r) p) := by
  cases m with
  | tst => exact (pw_orD h h').pt
  | wh => exact pw_orD h h'
  | val => exact pe_orD h h'
  | bor => exact (pe_orD h h').view
  | late => exact (pe_orD h h').first
  | ref => exact (pe_orD h h').first
theorem snd_not {m : Md} {X : Cx} {a : E} {y : Expr} {p : Pos} (nw : m.nw = true) (h : Snd CA G X m.in2 a y) : Snd CA G X m (.not_ a) (.UnaryOp .Not y p) := by
  cases m with
  | tst => exact pt_notD h
  | wh => exact ff nw
  | val => exact pe_notD h
  | bor => exact (pe_notD h).view
  | late => exact (pe_notD h).first
  | ref => exact (pe_notD h).first
theorem pm1_of {X : Cx} {y z : Expr} {n : Str} {ap p : Pos} (hz : nStar z = true) (hy : nCall y = true) (hl : (ap.endLine == p.line) = true) : L2.M1 X y n ap z p :=
  ⟨base_of hy, by rw [star_cons hz]; rfl, hl, by rw [star_cons hz]; rfl⟩
theorem pm2_of {X : Cx} {y z w : Expr} {n : Str} {ap p : Pos} (hz : nStar z = true) (hw : nStar w = true) (hy : nCall y = true) (hl : (ap.endLine == p.line) = true) : M2 X y n ap z w p :=
  ⟨base_of hy, by rw [star_cons hz, star_cons hw]; rfl, hl, by rw [star_cons hz, star_cons hw]; rfl⟩
theorem po_sndN {X : Cx} {e : E} (h : isNp e = true) : PO X none (tP CA (argP e (evE G e))) := by
  cases e <;> first
    | exact po_noneD
    | (exact ff h)
theorem po_sndS {X : Cx} {e : E} {x : Expr} (h : isNp e = false) (hp : PE X x (tE CA (evE G e))) : PO X (some x) (tP CA (argP e (evE G e))) := by
  cases e <;> first
    | exact po_someD hp
    | (exact absurd h (by decide))
def isBnm : E → Bool
  | .bnm _ => true
  | _ => false
theorem itSeq_of {a : E} {f : Ev} (h : isBnm a = false) : itSeq a f = seqF' f := by
  cases a <;> first
    | rfl
    | (simp [isBnm] at h; done)
theorem lenL : ∀ {as : List E} {ρ : Env} {y : List D × Env}, evalL G as ρ = .ok y → y.1.length = as.length
  | [], ρ, y, e => by simp only [evalL] at e; cases e; rfl
  | a :: as, ρ, y, e => by
    simp only [evalL] at e
    obtain ⟨x, _, e⟩ := Out.bind_eq e
    obtain ⟨z, e1, e⟩ := Out.bind_eq e
    cases e
    simp [lenL e1]
theorem gl_none {X : Cx} {x : Expr} {j : Nat} (hd : G.gl[j]? = none) : PE X x (tE CA (evE G (.gl j))) := by
  refine PE.none fun σ H Q t => ?_
  obtain ⟨ρ, L, dm, mm, d, ρ', ev, q⟩ := t
  simp only [evE] at ev
  obtain ⟨d0, e1, ev⟩ := Out.bind_eq ev
  rw [hd] at e1; cases e1
mutual
theorem sE : ∀ (e : E) (m : Md) {CA : Ct} {X : Cx} {sc : Scope} {x : Expr}, Gd Γ CA G lv X sc → ckE Γ e m sc x = true → Snd CA G X m e x
  | .cn, m, CA, X, sc, x, g, h => by
    simp only [ckE, Bool.and_eq_true] at h
    obtain ⟨nw, h⟩ := h
    split at h
    · exact ord nw pe_cnon rfl (fun _ _ => rfl) (fun _ _ => rfl)
    · exact ff h
  | .cb b, m, CA, X, sc, x, g, h => by
    simp only [ckE, Bool.and_eq_true] at h
    obtain ⟨nw, h⟩ := h
    split at h
    · have e := eq_of_beq h
      subst e
      exact ord nw pe_cbl rfl (fun _ _ => rfl) (fun _ _ => rfl)
    · exact ff h
  | .ci i, m, CA, X, sc, x, g, h => by
    simp only [ckE, Bool.and_eq_true] at h
    obtain ⟨nw, h⟩ := h
    split at h
    · have e := of_decide_eq_true h
      subst e
      exact ord nw pe_cint rfl (fun _ _ => rfl) (fun _ _ => rfl)
    · exact ff h
  | .cs i, m, CA, X, sc, x, g, h => by
    simp only [ckE, Bool.and_eq_true] at h
    obtain ⟨nw, h⟩ := h
    split at h
    · have e := of_decide_eq_true h
      subst e
      exact ord nw pe_cstr rfl (fun _ _ => rfl) (fun _ _ => rfl)
    · exact ff h
  | .gl j, m, CA, X, sc, x, g, h => by
    simp only [ckE, Bool.and_eq_true] at h
    obtain ⟨nw, h⟩ := h
    split at h
    · simp only [Bool.and_eq_true, decide_eq_true_eq] at h
      refine ord nw ?_ rfl (fun _ _ => rfl) (fun _ _ => rfl)
      cases hd : G.gl[j]? with
      | none => exact gl_none hd
      | some d =>
        obtain ⟨u, h1, h2, h3⟩ := g.gls j _ d h.2 hd
        refine wrap (pe_glD (g.gl _ h.1) h1 h2 h3 (Gd.dbg h.1)) ?_
        funext ρ
        simp only [evE, hd, Out.of_some, Out.bind_ok]
    · exact ff h
  | .nm i, m, CA, X, sc, x, g, h => by
    simp only [ckE, Bool.and_eq_true] at h
    obtain ⟨nw, h⟩ := h
    have hv := g.var h
    cases x <;> simp only [kN] at h <;> first
      | exact ff h
      | exact ord nw (pe_nm hv) rfl (fun _ _ => rfl) (fun _ _ => rfl)
  | .mv i, m, CA, X, sc, x, g, h => by
    simp only [ckE, Bool.and_eq_true] at h
    obtain ⟨nw, h⟩ := h
    have hv := g.var h
    cases x <;> simp only [kN] at h <;> first
      | exact ff h
      | exact ord nw (pe_mv hv) rfl (fun _ _ => rfl) (fun _ _ => rfl)
  | .bnm i, m, CA, X, sc, x, g, h => by
    cases m <;> simp only [ckE] at h <;> first
      | exact ff h
      | exact pe_bn (g.var h)
  | .lnm i, m, CA, X, sc, x, g, h => by
    cases m <;> simp only [ckE] at h <;> first
      | exact ff h
      | exact pe_ln (g.var h)
  | .rf i, m, CA, X, sc, x, g, h => by
    cases m <;> simp only [ckE] at h <;> first
      | exact ff h
      | exact pe_ln (g.var h)
  | .np, m, CA, X, sc, x, g, h => by
    cases m <;> simp only [ckE] at h <;> exact ff h
  | .bsub i b, m, CA, X, sc, x, g, h => by
    cases m <;> simp only [ckE] at h <;> first
      | exact ff h
      | skip
    split at h
    · simp only [Bool.and_eq_true] at h
      exact pe_bsubD g.K g.room (g.var h.1.1) (sE b .val g h.1.2) (plain_ix h.2)
    · exact ff h
  | .bin o a b, m, CA, X, sc, x, g, h => by
    simp only [ckE, Bool.and_eq_true] at h
    obtain ⟨nw, h⟩ := h
    split at h
    · simp only [Bool.and_eq_true] at h
      have e := opE_of h.1.1
      subst e
      exact ord nw (pe_binD o (sE a .late g h.1.2) (sE b .late g h.2)) rfl (fun _ _ => rfl) (fun _ _ => rfl)
    · exact ff h
  | .neg a, m, CA, X, sc, x, g, h => by
    simp only [ckE, Bool.and_eq_true] at h
    obtain ⟨nw, h⟩ := h
    split at h
    · exact ord nw (pe_negD (sE a .val g h)) rfl (fun _ _ => rfl) (fun _ _ => rfl)
    · exact ff h
  | .cmp o a b, m, CA, X, sc, x, g, h => by
    simp only [ckE, Bool.and_eq_true] at h
    obtain ⟨nw, h⟩ := h
    split at h
    · simp only [Bool.and_eq_true] at h
      have e := coE_of h.1.1
      subst e
      have ha := sE a .late g h.1.2
      have hb := sE b .bor g h.2
      exact ordT nw (pe_cmpD o g.room ha hb) (fun _ => pt_cmpD o g.room ha hb) (fun _ _ => rfl) (fun _ _ => rfl)
    · exact ff h
  | .inn n a b, m, CA, X, sc, x, g, h => by
    simp only [ckE, Bool.and_eq_true] at h
    obtain ⟨nw, h⟩ := h
    split at h
    · simp only [Bool.and_eq_true, Bool.not_eq_true'] at h
      have e := inE_of h.1.1.1
      subst e
      have ha := sE a .late g h.1.1.2
      have hb := sE b .bor g h.1.2
      exact ordT nw (pe_innD n g.room ha hb h.2) (fun _ => pt_innD n g.room ha hb h.2) (fun _ _ => rfl) (fun _ _ => rfl)
    · exact ff h
  | .isn n a, m, CA, X, sc, x, g, h => by
    simp only [ckE, Bool.and_eq_true] at h
    obtain ⟨nw, h⟩ := h
    split at h
    · simp only [Bool.and_eq_true] at h
      have e := isE_of h.1
      subst e
      have ha := sE a .bor g h.2
      exact ordT nw (pe_isnD n ha) (fun _ => pt_isnD n ha) (fun _ _ => rfl) (fun _ _ => rfl)
    · exact ff h
  | .chn o o' a b c, m, CA, X, sc, x, g, h => by
    simp only [ckE, Bool.and_eq_true] at h
    obtain ⟨nw, h⟩ := h
    split at h
    · simp only [Bool.and_eq_true] at h
      have e := coE_of h.1.1.1.1
      have e' := coE_of h.1.1.1.2
      subst e e'
      have ha := sE a .val g h.1.1.2
      have hb := sE b .val g h.1.2
      have hc := sE c .val g h.2
      exact ordT nw (pe_chnD o o' g.room ha hb hc) (fun _ => pt_chnD o o' g.room ha hb hc) (fun _ _ => rfl) (fun _ _ => rfl)
    · exact ff h
  | .and1 a, m, CA, X, sc, x, g, h => by
    simp only [ckE] at h
    split at h
    · exact snd_and1 (sE a _ g h)
    · exact ff h
  | .or1 a, m, CA, X, sc, x, g, h => by
    simp only [ckE] at h
    split at h
    · exact snd_or1 (sE a _ g h)
    · exact ff h
  | .and2 a b, m, CA, X, sc, x, g, h => by
    simp only [ckE] at h
    split at h
    · simp only [Bool.and_eq_true] at h
      exact snd_and2 (sE a _ g h.1) (sE b _ g h.2)
    · exact ff h
  | .or2 a b, m, CA, X, sc, x, g, h => by
    simp only [ckE] at h
    split at h
    · simp only [Bool.and_eq_true] at h
      exact snd_or2 (sE a _ g h.1) (sE b _ g h.2)
    · exact ff h
  | .not_ a, m, CA, X, sc, x, g, h => by
    simp only [ckE, Bool.and_eq_true] at h
    obtain ⟨nw, h⟩ := h
    split at h
    · exact snd_not nw (sE a _ g h)
    · exact ff h
  | .ite c a b, m, CA, X, sc, x, g, h => by
    cases m <;> simp only [ckE] at h <;> first
      | exact ff h
      | skip
    split at h
    · simp only [Bool.and_eq_true] at h
      exact pe_iteD (sE c .tst g h.1.1) (sE a .val g h.1.2) (sE b .val g h.2)
    · exact ff h
  | .call k as, m, CA, X, sc, x, g, h => by
    simp only [ckE, Bool.and_eq_true] at h
    obtain ⟨nw, h⟩ := h
    split at h
    · simp only [Bool.and_eq_true] at h
      rename_i f y ys p
      have ha := sA as g h.1.2 h.2
      have hst := h.2
      simp only [List.all_cons, Bool.and_eq_true] at hst
      have hf := h.1.1
      cases f <;> simp only [kF] at hf <;> first
        | exact ff hf
        | skip
      simp only [Bool.and_eq_true, decide_eq_true_eq] at hf
      exact ord nw (pe_callD (g.fns k _ hf.2 CA.lk) g.room (g.gl _ hf.1) ha (Gd.dbg hf.1) (star_cons hst.1) (star_any hst.2)) rfl (fun _ _ => rfl) (fun _ _ => rfl)
    · exact ff h
  | .b1 f a, m, CA, X, sc, x, g, h => by
    simp only [ckE, Bool.and_eq_true] at h
    obtain ⟨nw, h⟩ := h
    split at h
    · simp only [Bool.and_eq_true, decide_eq_true_eq] at h
      have hf : f ≠ .lset := fun z => by subst z; exact ff h.1.1.1.1
      exact ord nw (snd_b1 g hf h.1.1.1.2 h.1.1.2 (sE a .bor g h.1.2) h.2) rfl (fun _ _ => rfl) (fun _ _ => rfl)
    · exact ff h
  | .c1 f a, m, CA, X, sc, x, g, h => by
    simp only [ckE, Bool.and_eq_true] at h
    obtain ⟨nw, h⟩ := h
    split at h
    · split at h
      · split at h
        · simp only [Bool.and_eq_true, decide_eq_true_eq] at h
          exact ord nw (snd_sset g h.1.1.1.1.1 h.1.1.1.1.2 h.1.1.1.2 h.1.1.2 (sE a .late g h.1.2) h.2) rfl (fun _ _ => rfl) (fun _ _ => rfl)
        · exact ff h
      · rename_i hns
        simp only [Bool.and_eq_true, decide_eq_true_eq] at h
        exact ord nw (snd_c1 g (fun z => hns z) h.1.1.1 h.1.1.2 (sE a .late g h.1.2) h.2) rfl (fun _ _ => rfl) (fun _ _ => rfl)
    · exact ff h
  | .b2 f a b, m, CA, X, sc, x, g, h => by
    simp only [ckE, Bool.and_eq_true] at h
    obtain ⟨nw, h⟩ := h
    split at h
    · simp only [Bool.and_eq_true, decide_eq_true_eq] at h
      exact ord nw (snd_b2 g h.1.1.1.1.1 h.1.1.1.1.2 (sE a .val g h.1.1.1.2) (sE b .val g h.1.1.2) h.1.2 h.2) rfl (fun _ _ => rfl) (fun _ _ => rfl)
    · exact ff h
  | .pop i, m, CA, X, sc, x, g, h => by
    simp only [ckE, Bool.and_eq_true] at h
    obtain ⟨nw, h⟩ := h
    split at h
    · simp only [Bool.and_eq_true, decide_eq_true_eq] at h
      have e := h.1.1.1
      subst e
      refine ord nw (wrap (pe_popD (g.var h.1.1.2) (base_of h.1.2) h.2) ?_) rfl (fun _ _ => rfl) (fun _ _ => rfl)
      funext ρ
      simp only [evE, popF] <;> rfl
    · exact ff h
  | .isi a t, m, CA, X, sc, x, g, h => by
    simp only [ckE, Bool.and_eq_true] at h
    obtain ⟨nw, h⟩ := h
    split at h
    · simp only [Bool.and_eq_true, decide_eq_true_eq] at h
      exact ord nw (snd_isi g h.1.1.1.1.1 h.1.1.1.1.2 h.1.1.1.2 h.1.1.2 (sE a .bor g h.1.2) h.2) rfl (fun _ _ => rfl) (fun _ _ => rfl)
    · exact ff h
  | .m1 f o a, m, CA, X, sc, x, g, h => by
    simp only [ckE, Bool.and_eq_true] at h
    obtain ⟨nw, h⟩ := h
    split at h
    · simp only [Bool.and_eq_true] at h
      have ho := sE o .val g h.1.1.1.1.2
      have ha := sE a .val g h.1.1.1.2
      have hs := h.1.1.2
      have hc := h.1.2
      have hl := h.2
      have hf := h.1.1.1.1.1
      cases f with
      | join =>
        have e := of_decide_eq_true hf
        subst e
        exact ord nw (pe_joinD g.room ho ha (star_cons hs) (base_of hc) hl) rfl (fun _ _ => rfl) (fun _ _ => rfl)
      | index =>
        have e := of_decide_eq_true hf
        subst e
        exact ord nw (pe_indexD ho ha (star_cons hs) (base_of hc) hl) rfl (fun _ _ => rfl) (fun _ _ => rfl)
      | split => exact ff hf
    · exact ff h
  | .get1 o a, m, CA, X, sc, x, g, h => by
    simp only [ckE, Bool.and_eq_true] at h
    obtain ⟨nw, h⟩ := h
    split at h
    · simp only [Bool.and_eq_true, decide_eq_true_eq] at h
      have e := h.1.1.1.1.1
      subst e
      exact ord nw (pe_get1D g.room (sE o .late g h.1.1.1.1.2) (sE a .val g h.1.1.1.2) (pm1_of h.1.1.2 h.1.2 h.2)) rfl (fun _ _ => rfl) (fun _ _ => rfl)
    · exact ff h
  | .get2 o a b, m, CA, X, sc, x, g, h => by
    simp only [ckE, Bool.and_eq_true] at h
    obtain ⟨nw, h⟩ := h
    split at h
    · simp only [Bool.and_eq_true, decide_eq_true_eq] at h
      have e := h.1.1.1.1.1.1.1
      subst e
      exact ord nw (pe_get2D g.room (sE o .late g h.1.1.1.1.1.1.2) (sE a .val g h.1.1.1.1.1.2) (sE b .val g h.1.1.1.1.2) (pm2_of h.1.1.1.2 h.1.1.2 h.1.2 h.2)) rfl (fun _ _ => rfl) (fun _ _ => rfl)
    · exact ff h
  | .sub a b, m, CA, X, sc, x, g, h => by
    simp only [ckE, Bool.and_eq_true] at h
    obtain ⟨nw, h⟩ := h
    split at h
    · simp only [Bool.and_eq_true] at h
      exact ord nw (pe_subD g.K g.room (sE a .late g h.1.1) (sE b .val g h.1.2) (plain_ix h.2)) rfl (fun _ _ => rfl) (fun _ _ => rfl)
    · exact ff h
  | .sl a lo hi, m, CA, X, sc, x, g, h => by
    simp only [ckE, Bool.and_eq_true] at h
    obtain ⟨nw, h⟩ := h
    split at h
    · simp only [Bool.and_eq_true] at h
      rename_i y l k p2 p
      have ha := sE a .late g h.1.1
      have hlo : PO X l (tP CA (argP lo (evE G lo))) := by
        have q := h.1.2
        cases l with
        | none => exact po_sndN q
        | some l =>
          simp only [Bool.and_eq_true, Bool.not_eq_true'] at q
          exact po_sndS q.1 (sE lo .val g q.2)
      have hhi : PO X k (tP CA (argP hi (evE G hi))) := by
        have q := h.2
        cases k with
        | none => exact po_sndN q
        | some l =>
          simp only [Bool.and_eq_true, Bool.not_eq_true'] at q
          exact po_sndS q.1 (sE hi .val g q.2)
      exact ord nw (pe_slD ha hlo hhi) rfl (fun _ _ => rfl) (fun _ _ => rfl)
    · exact ff h
  | .tup as, m, CA, X, sc, x, g, h => by
    simp only [ckE, Bool.and_eq_true] at h
    obtain ⟨nw, h⟩ := h
    split at h
    · simp only [Bool.and_eq_true, decide_eq_true_eq] at h
      exact ord nw (pe_tupD (sL as g h.1.1 h.1.2) (fun ρ y e => by rw [lenL e]; exact h.2)) rfl (fun _ _ => rfl) (fun _ _ => rfl)
    · exact ff h
  | .lst as, m, CA, X, sc, x, g, h => by
    simp only [ckE, Bool.and_eq_true] at h
    obtain ⟨nw, h⟩ := h
    split at h
    · simp only [Bool.and_eq_true, decide_eq_true_eq] at h
      exact ord nw (pe_lstD (sL as g h.1.1 h.1.2) (fun ρ y e => by rw [lenL e]; exact h.2)) rfl (fun _ _ => rfl) (fun _ _ => rfl)
    · exact ff h
  | .dct as, m, CA, X, sc, x, g, h => by
    simp only [ckE, Bool.and_eq_true] at h
    obtain ⟨nw, h⟩ := h
    split at h
    · simp only [Bool.and_eq_true, decide_eq_true_eq] at h
      obtain ⟨fks, h1, h2, h3, h4, h5⟩ := sD as g h.1
      refine ord nw ?_ rfl (fun _ _ => rfl) (fun _ _ => rfl)
      show PE X _ (tE CA (dctF (evalL G as)))
      rw [← h2]
      rename_i ks vs p
      cases ks with
      | nil =>
        rw [h5.mp rfl] at *
        have : vs = [] := by simpa using h4.symm
        subst this
        exact pe_dct0D
      | cons k ks => exact pe_dctD (h1 p) h3 h4 (by simp) h.2
    · exact ff h
  | .lc own t it c el, m, CA, X, sc, x, g, h => by
    simp only [ckE, Bool.and_eq_true] at h
    obtain ⟨nw, h⟩ := h
    split at h
    · simp only [Bool.and_eq_true, decide_eq_true_eq] at h
      obtain ⟨⟨⟨⟨⟨⟨⟨⟨h1, h2⟩, h3⟩, h4⟩, h5⟩, h6⟩, h7⟩, h8⟩, h9⟩ := h
      obtain ⟨bk, gd⟩ := g.blk h2
      cases hdk : itDk it with
      | false =>
        refine ord nw (pe_lcD g.calm (by rw [g.N]; exact g.nd) (sI it g hdk h1) bk nsOf_snd (fun s H C cl fp => (gd s H C cl fp).tgt h3) (fun s H C cl fp => pts_oneD (sE c .tst (gd s H C cl fp) h4)) (fun s H C cl fp => sE el .val (gd s H C cl fp) h5) (folded_of h6) h7 h8 fun ρ w j d hw hj => ?_) rfl (fun _ _ => rfl) (fun _ _ => rfl)
        rw [it_slot hw hj] at h9
        exact of_decide_eq_true h9
      | true =>
        cases it <;> first
          | (cases hdk; done)
          | skip
        simp only [ckI] at h1
        refine ord nw (wrap (pe_lcK g.calm (by rw [g.N]; exact g.nd) (pe_dkV (fun i x hh => g.var hh) g.room h1) bk nsOf_snd (fun lk s H C cl fp => ((gd s H C cl fp).re lk).tgt h3) (fun lk s H C cl fp => pts_oneD (sE c .tst ((gd s H C cl fp).re lk) h4)) (fun lk s H C cl fp => sE el .val ((gd s H C cl fp).re lk) h5) (folded_of h6) h7 h8) ?_) rfl (fun _ _ => rfl) (fun _ _ => rfl)
        funext ρ
        simp only [evE, evalIt, lcKF]
    · exact ff h
  | .lcn own t it el, m, CA, X, sc, x, g, h => by
    simp only [ckE, Bool.and_eq_true] at h
    obtain ⟨nw, h⟩ := h
    split at h
    · simp only [Bool.and_eq_true, decide_eq_true_eq] at h
      obtain ⟨⟨⟨⟨⟨⟨⟨h1, h2⟩, h3⟩, h5⟩, h6⟩, h7⟩, h8⟩, h9⟩ := h
      obtain ⟨bk, gd⟩ := g.blk h2
      cases hdk : itDk it with
      | false =>
        refine ord nw (pe_lcD g.calm (by rw [g.N]; exact g.nd) (sI it g hdk h1) bk nsOf_snd (fun s H C cl fp => (gd s H C cl fp).tgt h3) (fun s H C cl fp => pts_nilD) (fun s H C cl fp => sE el .val (gd s H C cl fp) h5) (folded_of h6) h7 h8 fun ρ w j d hw hj => ?_) rfl (fun _ _ => rfl) (fun _ _ => rfl)
        rw [it_slot hw hj] at h9
        exact of_decide_eq_true h9
      | true =>
        cases it <;> first
          | (cases hdk; done)
          | skip
        simp only [ckI] at h1
        refine ord nw (wrap (pe_lcK g.calm (by rw [g.N]; exact g.nd) (pe_dkV (fun i x hh => g.var hh) g.room h1) bk nsOf_snd (fun lk s H C cl fp => ((gd s H C cl fp).re lk).tgt h3) (fun lk s H C cl fp => pts_nilD) (fun lk s H C cl fp => sE el .val ((gd s H C cl fp).re lk) h5) (folded_of h6) h7 h8) ?_) rfl (fun _ _ => rfl) (fun _ _ => rfl)
        funext ρ
        simp only [evE, evalIt, lcKF]
    · exact ff h
  | .bfld i f, m, CA, X, sc, x, g, h => by cases m <;> simp only [ckE] at h <;> exact ff h
  | .meth _ _ _, m, CA, X, sc, x, g, h => by cases m <;> simp only [ckE] at h <;> exact ff h
  | .mk _ _, m, CA, X, sc, x, g, h => by cases m <;> simp only [ckE] at h <;> exact ff h
  | .m0 _ _, m, CA, X, sc, x, g, h => by cases m <;> simp only [ckE] at h <;> exact ff h
  | .fld _ _, m, CA, X, sc, x, g, h => by cases m <;> simp only [ckE] at h <;> exact ff h
theorem sL : ∀ (as : List E) {CA : Ct} {X : Cx} {sc : Scope} {xs : List Expr}, Gd Γ CA G lv X sc → ckL Γ as sc xs = true → xs.all nStar = true → PA X xs (tL CA (evalL G as))
  | [], CA, X, sc, [], g, h, hs => pa_nilD
  | [], CA, X, sc, _ :: _, g, h, hs => ff h
  | _ :: _, CA, X, sc, [], g, h, hs => ff h
  | a :: as, CA, X, sc, x :: xs, g, h, hs => by
    simp only [ckL, Bool.and_eq_true] at h
    simp only [List.all_cons, Bool.and_eq_true] at hs
    exact pa_consD (sE a .val g h.1) (sL as g h.2 hs.2) (star_cons hs.1)
theorem sA : ∀ (as : List E) {CA : Ct} {X : Cx} {sc : Scope} {xs : List Expr}, Gd Γ CA G lv X sc → ckA Γ as sc xs = true → xs.all nStar = true → PA X xs (tA CA (evalA G as))
  | [], CA, X, sc, [], g, h, hs => pa_nilA
  | [], CA, X, sc, _ :: _, g, h, hs => ff h
  | _ :: _, CA, X, sc, [], g, h, hs => ff h
  | a :: as, CA, X, sc, x :: xs, g, h, hs => by
    simp only [ckA, Bool.and_eq_true] at h
    simp only [List.all_cons, Bool.and_eq_true] at hs
    exact pa_consA (sE a .ref g h.1) (sA as g h.2 hs.2) (star_cons hs.1)
theorem sD : ∀ (as : List E) {CA : Ct} {X : Cx} {sc : Scope} {ks : List (Option Expr)} {vs : List Expr}, Gd Γ CA G lv X sc → ckD Γ as sc ks vs = true → ∃ fks : List (Ev × Ev), (∀ p, PPs X p ks vs (trsOf CA fks)) ∧ pairsF fks = evalL G as ∧ ks.all (·.isSome) = true ∧ ks.length = vs.length ∧ (ks = [] ↔ fks = [])
  | [], CA, X, sc, [], [], g, h => ⟨[], fun p => pps_nil, rfl, rfl, rfl, ⟨fun _ => rfl, fun _ => rfl⟩⟩
  | [], CA, X, sc, _ :: _, _, g, h => by simp [ckD] at h
  | [], CA, X, sc, [], _ :: _, g, h => by simp [ckD] at h
  | [_], CA, X, sc, _, _, g, h => by simp [ckD] at h
  | a :: b :: as, CA, X, sc, some x :: ks, y :: vs, g, h => by
    simp only [ckD, Bool.and_eq_true] at h
    obtain ⟨fks, h1, h2, h3, h4, h5⟩ := sD as g h.2
    refine ⟨(evE G a, evE G b) :: fks, fun p => pps_cons (sE a .val g h.1.1) (sE b .val g h.1.2) (h1 p), ?_, by simp [h3], by simp [h4], by simp⟩
    funext ρ
    simp only [pairsF, evalL, h2]
  | _ :: _ :: _, CA, X, sc, none :: _, _, g, h => by simp [ckD] at h
  | _ :: _ :: _, CA, X, sc, [], _, g, h => by simp [ckD] at h
  | _ :: _ :: _, CA, X, sc, _ :: _, [], g, h => by simp [ckD] at h
theorem sI : ∀ (it : It) {CA : Ct} {X : Cx} {sc : Scope} {x tg : Expr}, Gd Γ CA G lv X sc → itDk it = false → ckI Γ it sc x = true → PI X tg x (tW CA (evalIt G it))
  | .seq a, CA, X, sc, x, tg, g, hd, h => by
    simp only [ckI, Bool.or_eq_true] at h
    rcases h with h | h
    · have h' := sE a .val g h
      have nb : isBnm a = false := by
        cases a <;> first
          | rfl
          | (simp only [ckE] at h; exact ff h)
      show PI X tg x (tW CA (fun ρ => itSeq a (evE G a) ρ))
      rw [itSeq_of nb]
      exact pi_seqD h'
    · split at h
      · exact pi_slotD (g.var h)
      · exact ff h
  | .rng a, CA, X, sc, x, tg, g, hd, h => by
    simp only [ckI] at h
    split at h
    · simp only [Bool.and_eq_true, decide_eq_true_eq] at h
      have e := h.1.1.1
      subst e
      obtain ⟨h1, h2, h3, h4⟩ := g.bt h.1.1.2
      exact pi_rngD h1 h2 (sE a .val g h.1.2) (by rw [star_cons h.2]; rfl) (star_cons h.2)
    · exact ff h
  | .rrng a, CA, X, sc, x, tg, g, hd, h => by simp only [ckI] at h; exact ff h
  | .rev a, CA, X, sc, x, tg, g, hd, h => by
    simp only [ckI] at h
    split at h
    · simp only [Bool.and_eq_true, decide_eq_true_eq] at h
      have e := h.1.1.1
      subst e
      obtain ⟨h1, h2, h3, h4⟩ := g.bt h.1.1.2
      exact pi_revD h1 h2 (sE a .val g h.1.2) (by rw [star_cons h.2]; rfl) (star_cons h.2)
    · exact ff h
  | .dk a, CA, X, sc, x, tg, g, hd, h => by cases hd
  | .enm a, CA, X, sc, x, tg, g, hd, h => by simp only [ckI] at h; exact ff h
  | .zip a b, CA, X, sc, x, tg, g, hd, h => by simp only [ckI] at h; exact ff h
end
end VL
/-! VL part 23: the statements, a def -/
namespace VL
open PySem PySem.Spec L2
def isLc : E → Bool
  | .lc _ _ _ _ _ => true
  | .lcn _ _ _ _ => true
  | _ => false
/-- a comprehension that is stored at once -/
def swB (sc : Scope) (v : Expr) (y : Str) (py : Pos) : Bool := match v with
  | .ListComp _ _ scope pos => (match sc.names.lookup y with
    | some .local => true
    | _ => false) && (py.line == pos.line) && !(scope.names.any fun (n, k) => n == y && (k == .local || k == .cell))
  | _ => false
def moE : MO → Str
  | .app => "append" | .ext => "extend" | .rem => "" | .upd => ""
mutual
def ckS (Γ : Gm) : S → Scope → Stmt → Bool
  | .set i e, sc, st => match st with
    | .Assign [.Name y py] v _ => kS Γ i sc (.Name y py) && ckE Γ e .val sc v && (nComp v || isLc e && swB sc v y py)
    | _ => false
  | .sets is e, sc, st => match st with
    | .Assign [.Tuple ts k p] v _ => kG Γ (.tup is) sc (.Tuple ts k p) && ckE Γ e .val sc v && nTup v && nComp v
    | _ => false
  | .seti (.root i) k e, sc, st => match st with
    | .Assign [.Subscript o s _] v _ => kN Γ i sc o && ckE Γ k .val sc s && ckE Γ e .val sc v && nSlice s && nComp v
    | _ => false
  | .mo o (.root i) e, sc, st => match st with
    | .Expr (.Call (.Attribute w n ap) [y] [] cp) _ => (match o with
      | .app => true
      | .ext => true
      | _ => false) && decide (n = moE o) && kN Γ i sc w && ckE Γ e .val sc y && nStar y && nCall w && (ap.endLine == cp.line)
    | _ => false
  | .moi o i k e, sc, st => match st with
    | .Expr (.Call (.Attribute (.Subscript a b p) n ap) [y] [] cp) _ => (match o with
      | .app => true
      | .ext => true
      | _ => false) && decide (n = moE o) && kN Γ i sc a && ckE Γ k .val sc b && nSlice b && (match e with
      | .nm j => kN Γ j sc y
      | e => stillC e y) && nStar y && (ap.endLine == cp.line)
    | _ => false
  | .ex e, sc, st => match st with
    | .Expr v _ => ckE Γ e .val sc v && nComp v
    | _ => false
  | .ret e, sc, st => match st with
    | .Return (some v) _ => ckE Γ e .val sc v
    | _ => false
  | .retn, sc, st => match st with
    | .Return none _ => true
    | _ => false
  | .pass, sc, st => match st with
    | .Pass _ => true
    | _ => false
  | .ifs c a b, sc, st => match st with
    | .If t x y _ => ckE Γ c .tst sc t && ckB Γ a sc x && ckB Γ b sc y
    | _ => false
  | .whl c a, sc, st => match st with
    | .While t x [] _ => ckE Γ c .tst sc t && ckB Γ a sc x
    | _ => false
  | .for_ g it a, sc, st => match st with
    | .For tg iter x [] _ => ckI Γ it sc iter && kG Γ g sc tg && ckB Γ a sc x && nSet iter && (match itSlot it with
      | some j => decide (j ∉ g.slots ++ asgs a)
      | none => true)
    | _ => false
  | .rais _ _, _, _ => true
  | _, _, _ => false
def ckB (Γ : Gm) : List S → Scope → List Stmt → Bool
  | [], _, [] => true
  | s :: r, sc, st :: sr => ckS Γ s sc st && ckB Γ r sc sr
  | _, _, _ => false
end
variable {Γ : Gm} {CA : Ct} {G : Ctx} {lv : Nat}
theorem asg_name {X : Cx} {y : Str} {py : Pos} : (assignEach [.Name y py] X.env).map (·.2) = [assign (.Name y py) X.env] := rfl
theorem sw_stores {v t : Expr} {env : PySem.Env} (h : nTup v = true) : swappedStores [t] v env = pure none := by
  unfold swappedStores
  split
  · rename_i h0
    split at h0 <;> first
      | (cases h0; done)
      | (exact absurd h (by simp [nTup]))
  · rfl
theorem sw_sole {v t : Expr} {l : Nat} {env : PySem.Env} (h : nComp v = true) : swapsWithSole [t] v l env = pure false := sw_of h
theorem sw_sub {o s v : Expr} {p : Pos} {env : PySem.Env} : swappedStores [.Subscript o s p] v env = pure none := by
  unfold swappedStores
  split
  · rename_i h0
    split at h0 <;> first
      | (rename_i h1; cases h1; done)
      | cases h0
  · rfl
theorem ex_whl {c : E} {a : List S} : exS G (.whl c a) = whlF (tstF (evE G c)) (exB G a) fuel := by
  funext ρ
  simp only [exS]
theorem ps_cast {X : Cx} {CA : Ct} {st : Stmt} {sl : List Nat} {F F' : Env → Out Fl} (e : F = F') (h : PS X st (tS CA sl F)) : PS X st (tS CA sl F') := e ▸ h
structure Gs (X : Cx) : Prop where
  pass : PassesOwn (model X.prog X.w) X.A X.env X.xe
mutual
theorem sS : ∀ (s : S) {CA : Ct} {X : Cx} {sc : Scope} {st : Stmt}, Gd Γ CA G lv X sc → Gs X → ckS Γ s sc st = true → PS X st (tS CA s.asg (exS G s))
  | .set i e, CA, X, sc, st, g, gs, h => by
    simp only [ckS] at h
    split at h
    · rename_i y py v p
      simp only [Bool.and_eq_true, Bool.or_eq_true] at h
      obtain ⟨⟨h1, h2⟩, h3⟩ := h
      have hk := h1
      simp only [kS, Bool.and_eq_true, decide_eq_true_eq] at hk
      have lc := g.loc _ hk.2
      have hi : X.N[i]? = some y := by rw [g.N]; exact hk.1
      rcases h3 with h3 | ⟨h3, h4⟩
      · exact ps_setD (ps_set (by rw [g.N]; exact g.nd) hi lc.1 (sE e .val g h2) (sw_of h3) lc.2)
      · have fin : ∀ {elt tg iter : Expr} {ifs : List Expr} {scope : Scope} {pos : Pos}, swB sc (.ListComp elt [⟨tg, iter, ifs, 0⟩] scope pos) y py = true → X.env.scope.names.lookup y = some .local ∧ swapsWith (.ListComp elt [⟨tg, iter, ifs, 0⟩] scope pos) (some (.Name y py)) p.line X.env = pure true := fun {elt tg iter ifs scope pos} h4 => by
          simp only [swB, Bool.and_eq_true, Bool.not_eq_true'] at h4
          have hl : sc.names.lookup y = some .local := by
            have := h4.1.1
            split at this
            · assumption
            · cases this
          have hl' := g.lcl y hl
          exact ⟨hl', sw_true g.kind hl' h4.1.2 h4.2⟩
        cases e <;> first
          | (exact ff h3)
          | skip
        · rename_i own t it c el
          have h2' := h2
          simp only [ckE, Bool.and_eq_true] at h2
          obtain ⟨nw, h2⟩ := h2
          split at h2
          · simp only [Bool.and_eq_true, decide_eq_true_eq] at h2
            obtain ⟨⟨⟨⟨⟨⟨⟨⟨k1, k2⟩, k3⟩, k4⟩, k5⟩, k6⟩, k7⟩, k8⟩, k9⟩ := h2
            obtain ⟨bk, gd⟩ := g.blk k2
            obtain ⟨f1, f2⟩ := fin h4
            cases hdk : itDk it with
            | true =>
              cases it <;> first
                | (cases hdk; done)
                | skip
              simp only [ckI] at k1
              have ps := ps_setD (ps_setLcK (CA := CA) g.calm (by rw [g.N]; exact g.nd) hi f1 f2 (pe_dkV (fun i x hh => g.var hh) g.room k1) bk nsOf_snd (fun lk s H C cl fp => ((gd s H C cl fp).re lk).tgt k3) (fun lk s H C cl fp => pts_oneD (sE c .tst ((gd s H C cl fp).re lk) k4)) (fun lk s H C cl fp => sE el .val ((gd s H C cl fp).re lk) k5) (folded_of k6) k7 k8)
              refine ps_cast ?_ ps
              funext ρ
              simp only [exS, evE, evalIt, lcKF, setF']
            | false =>
            refine ps_setD (ps_setLcD g.calm (by rw [g.N]; exact g.nd) hi f1 f2 (sI it g hdk k1) bk nsOf_snd (fun s H C cl fp => (gd s H C cl fp).tgt k3) (fun s H C cl fp => pts_oneD (sE c .tst (gd s H C cl fp) k4)) (fun s H C cl fp => sE el .val (gd s H C cl fp) k5) (folded_of k6) k7 k8 fun ρ w j d hw hj => ?_)
            rw [it_slot hw hj] at k9
            exact of_decide_eq_true k9
          · exact ff h2
        · rename_i own t it el
          have h2' := h2
          simp only [ckE, Bool.and_eq_true] at h2
          obtain ⟨nw, h2⟩ := h2
          split at h2
          · simp only [Bool.and_eq_true, decide_eq_true_eq] at h2
            obtain ⟨⟨⟨⟨⟨⟨⟨k1, k2⟩, k3⟩, k5⟩, k6⟩, k7⟩, k8⟩, k9⟩ := h2
            obtain ⟨bk, gd⟩ := g.blk k2
            obtain ⟨f1, f2⟩ := fin h4
            cases hdk : itDk it with
            | true =>
              cases it <;> first
                | (cases hdk; done)
                | skip
              simp only [ckI] at k1
              have ps := ps_setD (ps_setLcK (CA := CA) g.calm (by rw [g.N]; exact g.nd) hi f1 f2 (pe_dkV (fun i x hh => g.var hh) g.room k1) bk nsOf_snd (fun lk s H C cl fp => ((gd s H C cl fp).re lk).tgt k3) (fun lk s H C cl fp => pts_nilD) (fun lk s H C cl fp => sE el .val ((gd s H C cl fp).re lk) k5) (folded_of k6) k7 k8)
              refine ps_cast ?_ ps
              funext ρ
              simp only [exS, evE, evalIt, lcKF, setF']
            | false =>
            refine ps_setD (ps_setLcD g.calm (by rw [g.N]; exact g.nd) hi f1 f2 (sI it g hdk k1) bk nsOf_snd (fun s H C cl fp => (gd s H C cl fp).tgt k3) (fun s H C cl fp => pts_nilD) (fun s H C cl fp => sE el .val (gd s H C cl fp) k5) (folded_of k6) k7 k8 fun ρ w j d hw hj => ?_)
            rw [it_slot hw hj] at k9
            exact of_decide_eq_true k9
          · exact ff h2
    · exact ff h
  | .sets is e, CA, X, sc, st, g, gs, h => by
    simp only [ckS] at h
    split at h
    · simp only [Bool.and_eq_true] at h
      exact ps_setsD (ps_asg (sE e .val g h.1.1.2) (g.tgt h.1.1.1) (sw_sole h.2) (sw_stores h.1.2) rfl)
    · exact ff h
  | .seti (.root i) k e, CA, X, sc, st, g, gs, h => by
    simp only [ckS] at h
    split at h
    · rename_i o s p2 v p
      simp only [Bool.and_eq_true] at h
      have asg : ∀ v, assign (.Subscript o s p2) X.env v = (do
          let ov ← holding [v] (eval o X.env)
          let iv ← holding [v, ov] (eval s X.env)
          standAt p2
          holding [v, ov, iv] (setItem ov iv v)
          release [v, ov, iv] []) := fun v => by
        have := h.1.2
        cases s <;> first
          | rfl
          | (exact ff this)
      exact ps_setiD (s := s) (i' := s) (ps_asg (sE e .val g h.1.1.2) (pg_sub (g.var h.1.1.1.1) (sE k .val g h.1.1.1.2) (put_ok g.room) asg) (sw_sole h.2) sw_sub rfl)
    · exact ff h
  | .mo o (.root i) e, CA, X, sc, st, g, gs, h => by
    simp only [ckS] at h
    split at h
    · rename_i w n ap y cp p
      simp only [Bool.and_eq_true, decide_eq_true_eq] at h
      obtain ⟨⟨⟨⟨⟨⟨h1, h2⟩, h3⟩, h4⟩, h5⟩, h6⟩, h7⟩ := h
      subst h2
      have s1 : starEach [y] X.env = (false, eval y X.env) :: starEach [] X.env := star_cons h5
      cases o with
      | app => exact ps_moD (id := "") PySem.F.plainAttrs_list PySem.F.slot_list_append PySem.F.type_list_append mo_app (g.var h3) (sE e .val g h4) (base_of h6) (by rw [s1]; rfl) h7 s1 rfl rfl
      | ext => exact ps_moD (id := "") PySem.F.plainAttrs_list PySem.F.slot_list_extend PySem.F.type_list_extend mo_ext (g.var h3) (sE e .val g h4) (base_of h6) (by rw [s1]; rfl) h7 s1 rfl rfl
      | rem => exact ff h1
      | upd => exact ff h1
    · exact ff h
  | .moi o i k e, CA, X, sc, st, g, gs, h => by
    simp only [ckS] at h
    split at h
    · rename_i a b p n ap y cp p2
      simp only [Bool.and_eq_true, decide_eq_true_eq] at h
      obtain ⟨⟨⟨⟨⟨⟨⟨h1, h2⟩, h3⟩, h4⟩, h5⟩, h8⟩, h9⟩, h10⟩ := h
      subst h2
      have s1 : starEach [y] X.env = (false, eval y X.env) :: starEach [] X.env := star_cons h9
      have he : PE X y (tStill CA (evE G e)) := by
        split at h8
        · exact pe_stillV (g.var h8)
        · exact pe_stillC h8
      have fin : ∀ {F : Env → Out Fl}, F = exS G (.moi o i k e) → PS X (.Expr (.Call (.Attribute (.Subscript a b p) (moE o) ap) [y] [] cp) p2) (tS CA [] F) → PS X (.Expr (.Call (.Attribute (.Subscript a b p) (moE o) ap) [y] [] cp) p2) (tS CA [] (exS G (.moi o i k e))) := fun e h => e ▸ h
      refine fin (F := moiF o i (evE G k) (evE G e)) ?_ ?_
      · funext ρ
        simp only [exS, moiF] <;> rfl
      cases o with
      | app => exact ps_moiD (mo := .app) g.room PySem.F.plainAttrs_list PySem.F.slot_list_append PySem.F.type_list_append mo_app (g.var h3) (sE k .val g h4) (plain_ix h5) he rfl (by rw [s1]; rfl) h10 s1 rfl rfl
      | ext => exact ps_moiD (mo := .ext) g.room PySem.F.plainAttrs_list PySem.F.slot_list_extend PySem.F.type_list_extend mo_ext (g.var h3) (sE k .val g h4) (plain_ix h5) he rfl (by rw [s1]; rfl) h10 s1 rfl rfl
      | rem => exact ff h1
      | upd => exact ff h1
    · exact ff h
  | .ex e, CA, X, sc, st, g, gs, h => by
    simp only [ckS] at h
    split at h
    · simp only [Bool.and_eq_true] at h
      exact ps_exD (sE e .val g h.1) (sw_of h.2)
    · exact ff h
  | .ret e, CA, X, sc, st, g, gs, h => by
    simp only [ckS] at h
    split at h
    · exact ps_retD (sE e .val g h)
    · exact ff h
  | .retn, CA, X, sc, st, g, gs, h => by
    simp only [ckS] at h
    split at h
    · exact ps_retnD
    · exact ff h
  | .pass, CA, X, sc, st, g, gs, h => by
    simp only [ckS] at h
    split at h
    · exact ps_passD
    · exact ff h
  | .ifs c a b, CA, X, sc, st, g, gs, h => by
    simp only [ckS] at h
    split at h
    · simp only [Bool.and_eq_true] at h
      exact ps_ifD (sE c .tst g h.1.1) (sB a g gs h.1.2) (sB b g gs h.2)
    · exact ff h
  | .whl c a, CA, X, sc, st, g, gs, h => by
    simp only [ckS] at h
    split at h
    · simp only [Bool.and_eq_true] at h
      rw [ex_whl]
      exact ps_whlD gs.pass (sE c .tst g h.1) (sB a g gs h.2)
    · exact ff h
  | .for_ t it a, CA, X, sc, st, g, gs, h => by
    simp only [ckS] at h
    split at h
    · simp only [Bool.and_eq_true] at h
      obtain ⟨⟨⟨⟨h1, h2⟩, h3⟩, h4⟩, h5⟩ := h
      cases hdk : itDk it with
      | false =>
        refine ps_forD gs.pass g.calm (sI it g hdk h1) (g.tgt h2) (sB a g gs h3) (folded_of h4) fun ρ w j d hw hj => ?_
        rw [it_slot hw hj] at h5
        exact of_decide_eq_true h5
      | true =>
        cases it <;> first
          | (cases hdk; done)
          | skip
        simp only [ckI] at h1
        refine ps_cast ?_ (ps_forK (CA := CA) gs.pass g.calm (pe_dkV (fun i x hh => g.var hh) g.room h1) (fun lk => (g.re lk).tgt h2) (fun lk => sB a (g.re lk) gs h3) (folded_of h4))
        funext ρ
        simp only [exS, evalIt, forKF]
    · exact ff h
  | .rais c e, CA, X, sc, st, g, gs, h => ps_noneD fun ρ fl hf => by simp only [exS] at hf; cases hf
  | .seti (.idx _ _) _ _, CA, X, sc, st, g, gs, h => by simp only [ckS] at h; exact ff h
  | .seti (.fld _ _) _ _, CA, X, sc, st, g, gs, h => by simp only [ckS] at h; exact ff h
  | .mo _ (.idx _ _) _, CA, X, sc, st, g, gs, h => by simp only [ckS] at h; exact ff h
  | .mo _ (.fld _ _) _, CA, X, sc, st, g, gs, h => by simp only [ckS] at h; exact ff h
  | .setf _ _ _, CA, X, sc, st, g, gs, h => by simp only [ckS] at h; exact ff h
  | .clr _, CA, X, sc, st, g, gs, h => by simp only [ckS] at h; exact ff h
theorem sB : ∀ (b : List S) {CA : Ct} {X : Cx} {sc : Scope} {sts : List Stmt}, Gd Γ CA G lv X sc → Gs X → ckB Γ b sc sts = true → PSs X sts (tS CA (asgs b) (exB G b))
  | [], CA, X, sc, [], g, gs, h => pss_nilD
  | [], CA, X, sc, _ :: _, g, gs, h => ff h
  | _ :: _, CA, X, sc, [], g, gs, h => ff h
  | s :: r, CA, X, sc, st :: sr, g, gs, h => by
    simp only [ckB, Bool.and_eq_true] at h
    exact pss_consD (sS s g gs h.1) (sB r g gs h.2)
end
end VL
/-! VL part 24: a def, a text of defs, the law's end -/
namespace VL
open PySem PySem.Spec L2
section
variable {CA : Ct} {H : Hp} {R : List Addr} {L : List VD}
theorem fin_of : ∀ {vs : List V} {fin : List (Option D)} {σ : L2.St} {ρ : Env} {L : List VD}, (∀ (j : Nat) (v : V) (d : D), vs[j]? = some v → fin[j]? = some (some d) → σ[j]? = some (some v) ∧ getv ρ j = some d) → MR CA H R (envL σ ρ ++ L) → MR CA H R (zipO vs fin ++ L)
  | [], fin, σ, ρ, L, h, m => by simp only [zipO]; exact m.dropL
  | v :: vs, [], σ, ρ, L, h, m => by simp only [zipO]; exact m.dropL
  | v :: vs, some d :: fin, [], ρ, L, h, m => by have := (h 0 v d rfl rfl).1; simp at this
  | v :: vs, some d :: fin, s :: σ, [], L, h, m => by have := (h 0 v d rfl rfl).2; simp [getv] at this
  | v :: vs, some d :: fin, s :: σ, o :: ρ, L, h, m => by
    obtain ⟨h1, h2⟩ := h 0 v d rfl rfl
    rw [getv_zero] at h2
    have h1' : s = some v := by simpa using h1
    subst h1' h2
    have m1 : MR CA H R ((v, d) :: (envL σ ρ ++ L)) := m
    have m2 := fin_of (vs := vs) (fin := fin) (fun j v' d' hv hd => by
      obtain ⟨a, b⟩ := h (j + 1) v' d' (by simpa using hv) (by simpa using hd)
      rw [getv_succ] at b
      exact ⟨by simpa using a, b⟩) m1.rot
    show MR CA H R ((v, d) :: (zipO vs fin ++ L))
    exact m2.unrot
  | v :: vs, none :: fin, [], ρ, L, h, m => by
    refine fin_of (vs := vs) (fin := fin) (σ := []) (ρ := ρ) (fun j v' d' hv hd => ?_) ?_
    · obtain ⟨a, _⟩ := h (j + 1) v' d' (by simpa using hv) (by simpa using hd)
      simp at a
    · simpa [envL] using m
  | v :: vs, none :: fin, s :: σ, [], L, h, m => by
    refine fin_of (vs := vs) (fin := fin) (σ := σ) (ρ := []) (fun j v' d' hv hd => ?_) ?_
    · obtain ⟨_, b⟩ := h (j + 1) v' d' (by simpa using hv) (by simpa using hd)
      simp [getv] at b
    · cases σ <;> simpa [envL] using m
  | v :: vs, none :: fin, s :: σ, o :: ρ, L, h, m => by
    refine fin_of (vs := vs) (fin := fin) (σ := σ) (ρ := ρ) (fun j v' d' hv hd => ?_) ?_
    · obtain ⟨a, b⟩ := h (j + 1) v' d' (by simpa using hv) (by simpa using hd)
      rw [getv_succ] at b
      exact ⟨by simpa using a, b⟩
    · cases s <;> cases o <;> first
        | exact m
        | exact MR.drop m
theorem envL_start : ∀ {vs : List V} {ds : List D} {a b : Nat}, vs.length = ds.length → envL (vs.map some ++ List.replicate a none) (ds.map some ++ List.replicate b none) = vs.zip ds
  | [], [], a, b, _ => by
    induction a generalizing b with
    | zero => cases b <;> simp [envL, List.replicate]
    | succ a ih => cases b with
      | zero => simp [envL, List.replicate]
      | succ b => simpa [envL, List.replicate] using ih (b := b)
  | v :: vs, d :: ds, a, b, h => by
    show (v, d) :: envL (vs.map some ++ List.replicate a none) (ds.map some ++ List.replicate b none) = (v, d) :: vs.zip ds
    rw [envL_start (by simpa using h)]
  | [], _ :: _, _, _, h => by simp at h
  | _ :: _, [], _, _, h => by simp at h
theorem dom_start {vs : List V} {ds : List D} {a : Nat} (h : vs.length = ds.length) : Dom (vs.map some ++ List.replicate a none) (ds.map some ++ List.replicate a none) := by
  refine ⟨by simp [h], fun i d e => ?_⟩
  unfold getv at e
  by_cases hi : i < ds.length
  · exact ⟨vs[i], by rw [List.getElem?_append_left (by simpa [h] using hi)]; simp [h, hi]⟩
  · rw [List.getElem?_append_right (by simpa using hi)] at e
    rw [List.getElem?_replicate] at e
    split at e <;> simp at e
end
section
variable {Γ : Gm} {CA : Ct} {G : Ctx} {lv : Nat} {P : Program} {w : World} {K : PySem.W.Frag} {mg : Str → Option Value} {base : Heap}
structure HasFn0 (P : Program) (w : World) (K : PySem.W.Frag) (mg : Str → Option Value) (base : Heap) (CA : Ct) (k : Nat) (x : Str) (F : Sem') : Prop where
  ex : ∃ f fd ps, FnOk P w K mg base CX0 k f fd ps (spF CA F) ∧ mg x = some (.ref f) ∧ PySem.W.keepIn K (.ref f) = true ∧ Binds K fd ps []
theorem HasFn0.mono {j k : Nat} {x : Str} {F : Sem'} (h : HasFn0 P w K mg base CA j x F) (l : j ≤ k) : HasFn0 P w K mg base CA k x F := by
  obtain ⟨f, fd, ps, h1, h2⟩ := h.ex
  exact ⟨f, fd, ps, h1.mono l, h2⟩
theorem Df.len {d : Df} {ds : List D} {r : D × List (Option D)} (h : d.run G ds = .ok r) : ds.length = d.ps := by
  obtain ⟨h, _⟩ := Out.guard_eq h
  exact of_decide_eq_true h
theorem fin_at {d : Df} {ρ : Env} {j : Nat} {x : D} (h : ((List.range d.ps).map fun i => if i ∈ asgs d.body then none else getv ρ i)[j]? = some (some x)) : j ∉ asgs d.body ∧ getv ρ j = some x := by
  rw [List.getElem?_map] at h
  cases e : (List.range d.ps)[j]? with
  | none => rw [e] at h; simp at h
  | some i =>
    rw [e] at h
    have hj : j < d.ps := by have := (List.getElem?_eq_some_iff.mp e).1; simpa using this
    rw [List.getElem?_range hj] at e
    cases e
    simp only [Option.map_some, Option.some.injEq] at h
    split at h
    · cases h
    · rename_i hn; exact ⟨hn, h⟩
/-- A DEF, by the check of its body -/
theorem def_ok {x qual : Str} {st : Stmt} {f : Addr} {fd : FuncData} {ps : List Str} (F : Fun K x qual st f fd) (S : FnScope Γ.N ps (defScope st)) {d : Df} (hn : d.n = Γ.N.length) (hp : d.ps = ps.length) (hck : ckB Γ d.body (defScope st) (defBody st) = true)
    (hK : CA.K = K) (hb : ∀ y ∈ Γ.blt, mg y = none) (hf : ∀ (k : Nat) (y : Str), Γ.fns[k]? = some y → ∀ lk, HasFn0 P w K mg base (CA.re lk) lv y (G.at k))
    (hg : ∀ (j : Nat) (y : Str) (d : D), Γ.gls[j]? = some y → G.gl[j]? = some d → ∃ u, mg y = some u ∧ isSc d = true ∧ RelV (scV d) u) : FnOk P w K mg base CX0 (lv + 1) f fd ps (spF CA (d.run G)) := by
  refine F.ok S (fun vs H Q E h => ?_) (fun cdv A outer s H vs Q E hr h => ?_)
  · obtain ⟨ds, L, hl, m, r, fin, ev, q⟩ := h
    rw [hl, Df.len ev, hp]
  · obtain ⟨ds, L, hl, m, r, fin, ev, q⟩ := h
    have hd := Df.len ev
    have gd : Gd Γ CA G lv (cxOf CX0 P w K mg base Γ.N qual (defScope st) f cdv A outer s H E).nox (defScope st) := by
      refine ⟨hK, rfl, S.nd, rfl, hr, S.kind, fun y hy => ?_, fun y hy => ?_, fun y hy => ⟨?_, .inl rfl⟩, fun y hy => ?_, fun y hy => hy, hb, fun k y hk lk => ⟨(hf k y hk lk).ex⟩, hg⟩
      · unfold visB at hy
        show (defScope st).names.lookup y = _ ∨ _ ∨ _
        split at hy <;> rename_i e <;> first
          | exact ff hy
          | exact .inl e
          | exact .inr (.inl e)
          | exact .inr (.inr e)
      · unfold glB at hy
        show (defScope st).names.lookup y = _
        split at hy <;> rename_i e <;> first
          | exact ff hy
          | exact e
      · unfold locB at hy
        show (defScope st).names.lookup y = _ ∨ _
        split at hy <;> rename_i e <;> first
          | exact ff hy
          | exact .inl e
          | exact .inr e
      · unfold cfB at hy
        show (defScope st).names.lookup y = _ ∨ _
        split at hy <;> rename_i e <;> first
          | exact ff hy
          | exact .inl e
          | exact .inr e
    refine ⟨_, sB d.body gd ⟨PassesOwn.never⟩ hck, ?_⟩
    obtain ⟨_, ev⟩ := Out.guard_eq ev
    obtain ⟨fl, e1, ev⟩ := Out.bind_eq ev
    have hlen : d.n - d.ps = Γ.N.length - vs.length := by rw [hn, hl, hd]
    have hstart : start Γ.N vs = vs.map some ++ List.replicate (d.n - d.ps) none := by rw [hlen]; rfl
    rw [hstart]
    have back : ∀ {σ' : L2.St} {ρ' : Env} {H' : Hp} {L' : List VD}, Agr (asgs d.body) (vs.map some ++ List.replicate (d.n - d.ps) none) σ' → MR CA H' [] (envL σ' ρ' ++ L') → MR CA H' [] (zipO vs ((List.range d.ps).map fun i => if i ∈ asgs d.body then none else getv ρ' i) ++ L') := fun {σ' ρ' H' L'} ag mm => by
      refine fin_of (fun j v x hv hx => ?_) mm
      obtain ⟨hj, hx⟩ := fin_at hx
      refine ⟨?_, hx⟩
      rw [ag.2 j hj]
      have hlt := (List.getElem?_eq_some_iff.mp hv).1
      rw [List.getElem?_append_left (by simpa using hlt), List.getElem?_map, hv]; rfl
    refine ⟨_, L, dom_start hl, by rw [envL_start hl]; exact m, fl, e1, ?_⟩
    cases fl with
    | nx ρ' =>
      cases ev
      exact fun σ' H' ag dm' m' => q _ _ (MR.pNon (back ag m'))
    | rt d0 ρ' =>
      cases ev
      intro v σ' H' ag dm' m'
      exact q _ _ (MR.unrot (back ag (MR.rot m')))
/-! ### a text of defs -/
structure DfT where
  name : Str
  st : Stmt
  ps : List Str
  N : List Str
  d : Df
/-- the data functions of defs, one after another -/
noncomputable def runs (gl : List D) : List Sem' → List DfT → List Sem'
  | acc, [] => acc
  | acc, t :: r => runs gl (acc ++ [t.d.run ⟨gl, acc⟩]) r
def scopeB (N ps : List Str) (sc : Scope) : Bool := (match sc.kind with | .function => true | _ => false) && !sc.isCoroutine && !sc.isGenerator && decide N.Nodup && decide (N.take ps.length = ps) &&
  (ps.all fun x => match sc.names.lookup x with
    | some .local => true
    | some .cell => true
    | _ => false) && sc.names.all fun y => match y.2 with
    | .free => false
    | _ => true
theorem scope_of {N ps : List Str} {sc : Scope} (h : scopeB N ps sc = true) : FnScope N ps sc := by
  simp only [scopeB, Bool.and_eq_true, Bool.not_eq_true', decide_eq_true_eq, List.all_eq_true] at h
  obtain ⟨⟨⟨⟨⟨⟨h1, h2⟩, h3⟩, h4⟩, h5⟩, h6⟩, h7⟩ := h
  refine ⟨?_, h2, h3, h4, h5, fun x hx => ?_, fun y hy e => ?_⟩
  · split at h1
    · assumption
    · cases h1
  · have := h6 x hx
    split at this <;> rename_i e <;> first
      | exact .inl e
      | exact .inr e
      | cases this
  · have := h7 y hy
    rw [e] at this
    cases this
def ckT (gls blt : List Str) : List Str → List DfT → Bool
  | _, [] => true
  | pre, t :: r => scopeB t.N t.ps (defScope t.st) && decide (t.d.n = t.N.length) && decide (t.d.ps = t.ps.length) && ckB ⟨t.N, pre, gls, blt⟩ t.d.body (defScope t.st) (defBody t.st) && ckT gls blt (pre ++ [t.name]) r
structure At (K : PySem.W.Frag) (mg : Str → Option Value) (t : DfT) : Prop where
  ex : ∃ f fd, Fun K t.name t.name t.st f fd ∧ mg t.name = some (.ref f) ∧ Binds K fd t.ps []
theorem get_snoc {α : Type} {l : List α} {a b : α} {k : Nat} (h : (l ++ [a])[k]? = some b) : l[k]? = some b ∨ (k = l.length ∧ b = a) := by
  by_cases hk : k < l.length
  · rw [List.getElem?_append_left hk] at h; exact .inl h
  · rw [List.getElem?_append_right (by omega)] at h
    right
    have : k - l.length = 0 := by
      cases e : k - l.length with
      | zero => rfl
      | succ n => rw [e] at h; simp at h
    rw [this] at h
    simp only [List.getElem?_cons_zero, Option.some.injEq] at h
    exact ⟨by omega, h.symm⟩
theorem getD_snoc {l : List Sem'} {a d : Sem'} {k : Nat} (h : k < l.length) : (l ++ [a]).getD k d = l.getD k d := by
  simp only [List.getD_eq_getElem?_getD]
  rw [List.getElem?_append_left h]
theorem getD_last {l : List Sem'} {a d : Sem'} : (l ++ [a]).getD l.length d = a := by
  simp [List.getD_eq_getElem?_getD]
/-- every def of the text -/
theorem defs_ok {gl : List D} {gls blt : List Str} (hK : CA.K = K) (hb : ∀ y ∈ blt, mg y = none) (hg : ∀ (j : Nat) (y : Str) (d : D), gls[j]? = some y → gl[j]? = some d → ∃ u, mg y = some u ∧ isSc d = true ∧ RelV (scV d) u) :
    ∀ (ts : List DfT) (pre : List Str) (acc : List Sem') (lv : Nat), ckT gls blt pre ts = true → (∀ t ∈ ts, At K mg t) → pre.length = acc.length → (∀ (k : Nat) (y : Str), pre[k]? = some y → ∀ lk, HasFn0 P w K mg base (CA.re lk) lv y (acc.getD k fun _ => .no)) →
      ∀ (k : Nat) (y : Str), (pre ++ ts.map (·.name))[k]? = some y → ∀ lk, HasFn0 P w K mg base (CA.re lk) (lv + ts.length) y ((runs gl acc ts).getD k fun _ => .no)
  | [], pre, acc, lv, hck, hat, hl, hf, k, y, hk, lk => by
    simp only [List.map_nil, List.append_nil] at hk
    exact hf k y hk lk
  | t :: r, pre, acc, lv, hck, hat, hl, hf, k, y, hk, lk => by
    simp only [ckT, Bool.and_eq_true, decide_eq_true_eq] at hck
    obtain ⟨⟨⟨⟨h1, h2⟩, h3⟩, h4⟩, h5⟩ := hck
    obtain ⟨f, fd, F, hm, hbi⟩ := (hat t List.mem_cons_self).ex
    have ok : ∀ lk, FnOk P w K mg base CX0 (lv + 1) f fd t.ps (spF (CA.re lk) (t.d.run ⟨gl, acc⟩)) := fun lk => def_ok (CA := CA.re lk) (Γ := ⟨t.N, pre, gls, blt⟩) (G := ⟨gl, acc⟩) F (scope_of h1) h2 h3 h4 hK hb hf hg
    have := defs_ok (gl := gl) hK hb hg r (pre ++ [t.name]) (acc ++ [t.d.run ⟨gl, acc⟩]) (lv + 1) h5 (fun t' ht' => hat t' (List.mem_cons_of_mem _ ht')) (by simp [hl]) (fun k y hk lk => ?_) k y (by simpa using hk) lk
    · rw [show lv + (t :: r).length = lv + 1 + r.length by simp; omega]
      exact this
    · rcases get_snoc hk with hk2 | ⟨hk2, rfl⟩
      · have hlt : k < acc.length := by rw [← hl]; exact (List.getElem?_eq_some_iff.mp hk2).1
        rw [getD_snoc hlt]
        exact (hf k y hk2 lk).mono (Nat.le_succ _)
      · rw [hk2, hl, getD_last]
        exact ⟨f, fd, t.ps, ok lk, hm, F.kp, hbi⟩
end
end VL
/-! VL part 25: the law's end -/
namespace VL
open PySem PySem.Spec L2
section
variable {CA : Ct} {P : Program} {w : World} {K : PySem.W.Frag} {mg : Str → Option Value} {base : Heap}
def lawB (gls blt : List Str) (ts : List DfT) (t : DfT) : Bool := ckT gls blt [] ts && scopeB t.N t.ps (defScope t.st) && decide (t.d.n = t.N.length) && decide (t.d.ps = t.ps.length) && ckB ⟨t.N, ts.map (·.name), gls, blt⟩ t.d.body (defScope t.st) (defBody t.st)
theorem law_ok {gl : List D} {gls blt : List Str} {ts : List DfT} {t : DfT} {f : Addr} {fd : FuncData} (hck : lawB gls blt ts t = true) (hK : CA.K = K) (hb : ∀ y ∈ blt, mg y = none) (hg : ∀ (j : Nat) (y : Str) (d : D), gls[j]? = some y → gl[j]? = some d → ∃ u, mg y = some u ∧ isSc d = true ∧ RelV (scV d) u)
    (hat : ∀ t ∈ ts, At K mg t) (F : Fun K t.name t.name t.st f fd) : FnOk P w K mg base CX0 (ts.length + 1) f fd t.ps (spF CA (t.d.run ⟨gl, runs gl [] ts⟩)) := by
  simp only [lawB, Bool.and_eq_true, decide_eq_true_eq] at hck
  obtain ⟨⟨⟨⟨h0, h1⟩, h2⟩, h3⟩, h4⟩ := hck
  have all := defs_ok (P := P) (w := w) (base := base) (gl := gl) hK hb hg ts [] [] 0 h0 hat rfl (fun k y hk => by simp at hk)
  rw [Nat.zero_add] at all
  exact def_ok (Γ := ⟨t.N, ts.map (·.name), gls, blt⟩) (G := ⟨gl, runs gl [] ts⟩) F (scope_of h1) h2 h3 h4 hK hb (fun k y hk => all k y (by simpa using hk)) hg
/-- the script, handed in -/
theorem sp_script {F : Sem'} {H : Hp} {a : Addr} {ns : List Int} {E : XK} (hO : Only H) (hS : SqL K H a (ns.map V.int)) (h : ∃ fin, F [.scr ns] = .ok (.bl true, fin)) : spF ⟨K, fun _ => none, []⟩ F [.ref a] H (fun v _ => v = .bl true) E := by
  obtain ⟨fin, h⟩ := h
  have sc : ScrAt K H a ns := by
    rcases hS with (hS | ⟨o, hS⟩) | hS
    · rcases hO a with h | ⟨_, _, h⟩ <;> (rw [hS] at h; cases h)
    · exact .inl ⟨o, hS⟩
    · exact .inr hS
  have m : M ⟨K, fun _ => none, []⟩ H [(.ref a, .scr ns)] := ⟨H, [], fun a u e => .inl e, .cons (F := []) (.scr sc) .nil, List.nodup_nil, fun _ h => by simp at h, fun _ h => by simp at h, fun _ h => by simp at h⟩
  exact ⟨[.scr ns], [], rfl, m, _, fin, h, fun v H' m => MR.bl m⟩
/-- the three facts of a def behind the top -/
theorem at_mk {h : Heap} {t : DfT} {f : Addr} {oc : Value} {od an : Option Addr} {osl : Array (Option Value)} {kV doc pm cdv ct : Value} (X : K.In h) (G : h.Ns mainGlobals mg) (a : PySem.W.nsIn K mainGlobals t.name = some (some (.ref f)))
    (l : K.lookup f = some ⟨oc, od, .func (PySem.W.fnOf t.name t.name (defArgs t.st) (defBody t.st) (defScope t.st) .none kV doc pm an cdv ct), osl⟩) (c : PySem.W.codeIn K cdv t.name = true) (k : PySem.W.keepIn K (.ref f) = true)
    (b : ∀ (kV doc pm : Value) (an : Option Addr) (cdv ct : Value) (us : List Value), us.length = t.ps.length → bindArgs (PySem.W.fnOf t.name t.name (defArgs t.st) (defBody t.st) (defScope t.st) .none kV doc pm an cdv ct) ⟨us, []⟩ = pure (t.ps.zip us)) : At K mg t :=
  ⟨f, _, fun_mk l c k, PySem.W.mg_of X G a, (fun_mk l c k).binds b⟩
end
end VL
namespace VL
open PySem PySem.Spec L2
def d__law_size_by : Df := ⟨1, 1, [
    .ifs (.cmp .eq (.bin .mod (.bin .fdiv (.lnm 0) (.ci 9)) (.ci 6)) (.ci 1)) [
      .ret (.bin .add (.ci 10) (.bin .mod (.bin .fdiv (.lnm 0) (.ci 54)) (.ci 4)))] [],
    .ret (.bin .mod (.lnm 0) (.ci 10))]⟩
def d__law_mixed : Df := ⟨3, 2, [
    .set 2 (.bin .mod (.bin .add (.bin .add (.bin .mul (.lnm 0) (.ci 48271)) (.bin .mul (.ci 7919) (.lnm 1))) (.ci 12345)) (.ci 2147483647)),
    .ret (.bin .mod (.bin .mul (.bin .mod (.bin .mul (.lnm 2) (.lnm 2)) (.ci 2147483647)) (.lnm 2)) (.ci 2147483647))]⟩
def c1__law_names_by : E := (.lcn [4] (.one 4) (.rng (.nm 2)) (.sub (.lnm 1) (.bin .mod (.call 1 [(.bin .fdiv (.lnm 0) (.ci 7)), (.rf 4)]) (.ci 26))))
def c2__law_names_by : E := (.lcn [4] (.one 4) (.rng (.bin .add (.ci 2) (.bin .mod (.bin .fdiv (.lnm 0) (.ci 49)) (.ci 3)))) (.bin .add (.bin .add (.sl (.lnm 3) .np (.nm 5)) (.sub (.lnm 1) (.bin .mod (.bin .add (.lnm 6) (.lnm 4)) (.ci 26)))) (.sl (.lnm 3) (.bin .add (.lnm 5) (.ci 1)) .np)))
def d__law_names_by : Df := ⟨8, 1, [
    .set 1 (.cs "abcdefghijklmnopqrstuvwxyz"),
    .set 2 (.bin .add (.ci 1) (.bin .mod (.lnm 0) (.ci 7))),
    .set 3 (.m1 .join (.cs "") c1__law_names_by),
    .set 5 (.bin .mod (.bin .fdiv (.lnm 0) (.ci 7)) (.lnm 2)),
    .set 6 (.m1 .index (.nm 1) (.sub (.lnm 3) (.nm 5))),
    .set 7 c2__law_names_by,
    .ret (.bin .add (.lnm 7) (.lst [(.bin .add (.lnm 3) (.sub (.lnm 1) (.bin .mod (.bin .fdiv (.lnm 0) (.ci 147)) (.ci 26))))]))]⟩
def d__law_cell_at : Df := ⟨2, 2, [
    .ifs (.cmp .lt (.lnm 1) (.b1 .len (.bnm 0))) [
      .ret (.sub (.lnm 0) (.nm 1))] [],
    .ret (.ci 0)]⟩
def d__law_operand_by : Df := ⟨2, 2, [
    .ifs (.cmp .lt (.bin .mod (.lnm 0) (.ci 4)) (.ci 3)) [
      .ret (.sub (.lnm 1) (.bin .mod (.bin .fdiv (.lnm 0) (.ci 4)) (.b1 .len (.bnm 1))))] [],
    .ifs (.cmp .eq (.bin .mod (.bin .fdiv (.lnm 0) (.ci 4)) (.ci 5)) (.ci 1)) [
      .ret (.bin .mul (.sub (.lst [(.ci 1), (.neg (.ci 1))]) (.bin .mod (.bin .fdiv (.lnm 0) (.ci 20)) (.ci 2))) (.bin .add (.bin .pow (.ci 10) (.ci 20)) (.bin .mod (.bin .fdiv (.lnm 0) (.ci 40)) (.ci 9))))] [],
    .ret (.bin .sub (.bin .mod (.bin .fdiv (.lnm 0) (.ci 20)) (.ci 7)) (.ci 3))]⟩
def d__law_row_by : Df := ⟨8, 3, [
    .set 3 (.sub (.lnm 1) (.bin .mod (.bin .fdiv (.lnm 0) (.ci 9)) (.b1 .len (.bnm 1)))),
    .set 4 (.call 4 [(.bin .mod (.bin .fdiv (.lnm 0) (.ci 27)) (.ci 4177)), (.rf 1)]),
    .set 5 (.call 4 [(.bin .mod (.bin .fdiv (.lnm 0) (.ci 32)) (.ci 4159)), (.rf 1)]),
    .set 6 (.bin .mod (.bin .mod (.bin .fdiv (.lnm 0) (.ci 64)) (.ci 5003)) (.bin .add (.lnm 2) (.ci 1))),
    .set 7 (.bin .mod (.lnm 0) (.ci 9)),
    .ifs (.cmp .lt (.lnm 7) (.ci 2)) [
      .ret (.tup [(.cs "set"), (.nm 3), (.nm 4)])] [],
    .ifs (.cmp .lt (.lnm 7) (.ci 5)) [
      .ret (.tup [(.sub (.lst [(.cs "add"), (.cs "sub"), (.cs "less")]) (.bin .sub (.lnm 7) (.ci 2))), (.nm 3), (.nm 4), (.nm 5)])] [],
    .ifs (.cmp .eq (.lnm 7) (.ci 5)) [
      .ret (.tup [(.cs "say"), (.nm 4)])] [],
    .ifs (.cmp .eq (.lnm 7) (.ci 6)) [
      .ret (.sub (.lst [(.tup [(.cs "jump"), (.nm 6)]), (.tup [(.cs "stop")]), (.tup [(.cs "jump"), (.nm 6)]), (.tup [(.cs "say"), (.nm 4)])]) (.bin .mod (.bin .fdiv (.lnm 0) (.ci 27)) (.ci 4)))] [],
    .ret (.tup [(.cs "nought"), (.nm 4), (.nm 6)])]⟩
def c1__law_rows_by : E := (.lcn [4] (.one 4) (.rng (.nm 1)) (.call 5 [(.call 1 [(.call 3 [(.rf 0), (.bin .add (.ci 4) (.lnm 4))]), (.rf 4)]), (.rf 2), (.rf 1)]))
def c2__law_rows_by : E := (.lcn [10] (.one 10) (.seq (.bnm 2)) (.tup [(.cs "say"), (.nm 10)]))
def d__law_rows_by : Df := ⟨11, 1, [
    .set 1 (.call 0 [(.call 3 [(.rf 0), (.ci 0)])]),
    .set 2 (.call 2 [(.call 3 [(.rf 0), (.ci 1)])]),
    .set 3 c1__law_rows_by,
    .set 5 (.call 1 [(.bin .add (.call 3 [(.rf 0), (.ci 0)]) (.bin .mul (.ci 3) (.call 3 [(.rf 0), (.ci 1)]))), (.ci 50)]),
    .ifs (.cmp .lt (.bin .mod (.lnm 5) (.ci 3)) (.ci 2)) [
      .set 6 (.bin .mod (.bin .fdiv (.lnm 5) (.ci 3)) (.b1 .len (.bnm 2))),
      .sets [7, 8, 9] (.sl (.bin .add (.sl (.lnm 2) (.nm 6) .np) (.sl (.lnm 2) .np (.nm 6))) .np (.ci 3)),
      .set 3 (.bin .add (.lnm 3) (.lst [(.tup [(.cs "set"), (.nm 9), (.nm 7)]), (.tup [(.cs "set"), (.nm 7), (.nm 8)]), (.tup [(.cs "set"), (.nm 8), (.nm 9)])])),
      .mo .app (.root 3) (.tup [(.cs "nought"), (.sub (.lst [(.nm 7), (.nm 8), (.ci 0), (.nm 9)]) (.bin .mod (.bin .fdiv (.lnm 5) (.ci 9)) (.ci 4))), (.bin .mod (.bin .fdiv (.lnm 5) (.ci 36)) (.b1 .len (.bnm 3)))])] [],
    .ifs (.cmp .lt (.bin .mod (.bin .fdiv (.lnm 5) (.ci 1009)) (.ci 3)) (.ci 2)) [
      .set 3 (.bin .add (.lnm 3) c2__law_rows_by)] [],
    .ret (.mv 3)]⟩
def b1__law_values_by : List S := [
    .ifs (.cmp .gt (.bin .mod (.bin .fdiv (.lnm 2) (.bin .add (.lnm 4) (.ci 1))) (.ci 3)) (.ci 0)) [
      .seti (.root 3) (.sub (.lnm 1) (.nm 4)) (.bin .sub (.bin .mod (.bin .fdiv (.lnm 2) (.ci 7)) (.bin .add (.bin .mul (.bin .pow (.ci 10) (.ci 15)) (.bin .mod (.lnm 4) (.ci 2))) (.ci 9))) (.bin .mul (.ci 2) (.lnm 4)))] []]
def l1__law_values_by : S := .for_ (.one 4) (.rng (.b1 .len (.bnm 1))) b1__law_values_by
def d__law_values_by : Df := ⟨5, 1, [
    .set 1 (.call 2 [(.call 3 [(.rf 0), (.ci 1)])]),
    .set 2 (.call 3 [(.rf 0), (.ci 2)]),
    .set 3 (.dct []),
    l1__law_values_by,
    .ret (.mv 3)]⟩
def c1_is_name : E := (.lcn [1] (.one 1) (.seq (.bnm 0)) (.inn false (.lnm 1) (.gl 0)))
def d_is_name : Df := ⟨2, 1, [
    .ret (.and2 (.isi (.bnm 0) .str) (.and2 (.chn .le .le (.ci 1) (.b1 .len (.bnm 0)) (.gl 1)) (.and1 (.b1 .all c1_is_name))))]⟩
def d_is_whole : Df := ⟨1, 1, [
    .ret (.and2 (.isi (.bnm 0) .int) (.and1 (.not_ (.isi (.bnm 0) .bool))))]⟩
def d_asked : Df := ⟨1, 1, [
    .ifs (.inn false (.sub (.lnm 0) (.ci 0)) (.tup [(.cs "set"), (.cs "add"), (.cs "sub"), (.cs "less")])) [
      .ret (.c1 .list (.sl (.lnm 0) (.ci 2) .np))] [],
    .ifs (.inn false (.sub (.lnm 0) (.ci 0)) (.tup [(.cs "say"), (.cs "nought")])) [
      .ret (.lst [(.sub (.lnm 0) (.ci 1))])] [],
    .ret (.lst [])]⟩
def c1_is_row : E := (.lcn [1] (.one 1) (.seq (.call 10 [(.rf 0)])) (.or2 (.call 9 [(.rf 1)]) (.or1 (.call 8 [(.rf 1)]))))
def d_is_row : Df := ⟨2, 1, [
    .ifs (.or2 (.not_ (.isi (.bnm 0) .tuple)) (.or2 (.cmp .eq (.b1 .len (.bnm 0)) (.ci 0)) (.or1 (.not_ (.isi (.bsub 0 (.ci 0)) .str))))) [
      .ret (.cb false)] [],
    .ifs (.inn true (.sub (.lnm 0) (.ci 0)) (.tup [(.cs "set"), (.cs "add"), (.cs "sub"), (.cs "less"), (.cs "say"), (.cs "jump"), (.cs "nought"), (.cs "stop")])) [
      .ret (.cb false)] [],
    .ifs (.cmp .ne (.b1 .len (.bnm 0)) (.sub (.dct [(.cs "set"), (.ci 3), (.cs "add"), (.ci 4), (.cs "sub"), (.ci 4), (.cs "less"), (.ci 4), (.cs "say"), (.ci 2), (.cs "jump"), (.ci 2), (.cs "nought"), (.ci 3), (.cs "stop"), (.ci 1)]) (.sub (.lnm 0) (.ci 0)))) [
      .ret (.cb false)] [],
    .ifs (.and2 (.inn false (.sub (.lnm 0) (.ci 0)) (.tup [(.cs "set"), (.cs "add"), (.cs "sub"), (.cs "less")])) (.and1 (.not_ (.call 8 [(.sub (.lnm 0) (.ci 1))])))) [
      .ret (.cb false)] [],
    .ret (.b1 .all c1_is_row)]⟩
def b1_need_rows : List S := [
    .ifs (.not_ (.call 11 [(.rf 1)])) [
      .rais 0 .cn] [],
    .ifs (.and2 (.inn false (.sub (.lnm 1) (.ci 0)) (.tup [(.cs "jump"), (.cs "nought")])) (.and1 (.not_ (.and2 (.call 9 [(.sub (.lnm 1) (.neg (.ci 1)))]) (.and1 (.chn .le .le (.ci 0) (.sub (.lnm 1) (.neg (.ci 1))) (.b1 .len (.bnm 0)))))))) [
      .rais 0 .cn] []]
def l1_need_rows : S := .for_ (.one 1) (.seq (.bnm 0)) b1_need_rows
def d_need_rows : Df := ⟨2, 1, [
    .ifs (.not_ (.isi (.bnm 0) .list)) [
      .rais 0 .cn] [],
    l1_need_rows]⟩
def c1_worth : E := (.lcn [3] (.one 3) (.seq (.call 10 [(.rf 0)])) (.ite (.call 9 [(.rf 3)]) (.nm 3) (.get2 (.lnm 1) (.nm 3) (.ci 0))))
def d_worth : Df := ⟨4, 2, [
    .set 2 c1_worth,
    .ifs (.cmp .eq (.sub (.lnm 0) (.ci 0)) (.cs "add")) [
      .ret (.bin .add (.sub (.lnm 2) (.ci 0)) (.sub (.lnm 2) (.ci 1)))] [],
    .ifs (.cmp .eq (.sub (.lnm 0) (.ci 0)) (.cs "sub")) [
      .ret (.bin .sub (.sub (.lnm 2) (.ci 0)) (.sub (.lnm 2) (.ci 1)))] [],
    .ifs (.cmp .eq (.sub (.lnm 0) (.ci 0)) (.cs "less")) [
      .ret (.b1 .int (.cmp .lt (.sub (.lnm 2) (.ci 0)) (.bsub 2 (.ci 1))))] [],
    .ifs (.cmp .gt (.b1 .len (.bnm 2)) (.ci 0)) [
      .ret (.sub (.lnm 2) (.ci 0))] [],
    .ret (.ci 0)]⟩
def d_written : Df := ⟨1, 1, [
    .ifs (.inn false (.sub (.lnm 0) (.ci 0)) (.tup [(.cs "set"), (.cs "add"), (.cs "sub"), (.cs "less")])) [
      .ret (.sub (.lnm 0) (.ci 1))] [],
    .ret .cn]⟩
def d_done : Df := ⟨6, 5, [
    .set 5 (.call 13 [(.rf 0), (.rf 3)]),
    .ifs (.cmp .eq (.sub (.lnm 0) (.ci 0)) (.cs "jump")) [
      .ret (.sub (.lnm 0) (.ci 1))] [],
    .ifs (.cmp .eq (.sub (.lnm 0) (.ci 0)) (.cs "stop")) [
      .ret (.nm 2)] [],
    .ifs (.and2 (.cmp .eq (.sub (.lnm 0) (.ci 0)) (.cs "nought")) (.and1 (.cmp .eq (.lnm 5) (.ci 0)))) [
      .ret (.sub (.lnm 0) (.ci 2))] [],
    .ifs (.cmp .eq (.sub (.lnm 0) (.ci 0)) (.cs "say")) [
      .mo .app (.root 4) (.nm 5)] [],
    .ifs (.isn true (.call 14 [(.rf 0)])) [
      .seti (.root 3) (.sub (.lnm 0) (.ci 1)) (.nm 5)] [],
    .ret (.bin .add (.lnm 1) (.ci 1))]⟩
def t1_run : E := (.cmp .lt (.lnm 5) (.b1 .len (.bnm 0)))
def b1_run : List S := [
    .ifs (.cmp .eq (.lnm 6) (.bnm 2)) [
      .ret (.tup [(.nm 4), (.cs "tired"), (.nm 6)])] [],
    .set 6 (.bin .add (.lnm 6) (.ci 1)),
    .set 5 (.call 15 [(.sub (.lnm 0) (.nm 5)), (.rf 5), (.b1 .len (.bnm 0)), (.rf 3), (.rf 4)])]
def l1_run : S := .whl t1_run b1_run
def d_run : Df := ⟨7, 3, [
    .ex (.call 12 [(.rf 0)]),
    .set 3 (.c1 .dict (.lnm 1)),
    .set 4 (.lst []),
    .set 5 (.ci 0),
    .set 6 (.ci 0),
    l1_run,
    .ret (.tup [(.nm 4), (.cs "end"), (.nm 6)])]⟩
def d__law_whole : Df := ⟨1, 1, [
    .ret (.and2 (.isi (.bnm 0) .int) (.and1 (.not_ (.isi (.bnm 0) .bool))))]⟩
def c1__law_told : E := (.lc [2] (.one 2) (.seq (.sub (.lnm 0) (.ci 0))) (.not_ (.call 17 [(.rf 2)])) (.nm 2))
def d__law_told : Df := ⟨3, 2, [
    .ifs (.or2 (.not_ (.isi (.bnm 0) .tuple)) (.or2 (.cmp .ne (.b1 .len (.bnm 0)) (.ci 3)) (.or1 (.not_ (.isi (.bsub 0 (.ci 0)) .list))))) [
      .ret (.cb false)] [],
    .ifs (.or2 (.not_ (.isi (.bsub 0 (.ci 1)) .str)) (.or1 (.not_ (.call 17 [(.sub (.lnm 0) (.ci 2))])))) [
      .ret (.cb false)] [],
    .ifs (.cmp .ne c1__law_told (.lst [])) [
      .ret (.cb false)] [],
    .ret (.cmp .eq (.lnm 0) (.bnm 1))]⟩
def d__law_asks : Df := ⟨1, 1, [
    .ifs (.inn false (.sub (.lnm 0) (.ci 0)) (.tup [(.cs "set"), (.cs "add"), (.cs "sub"), (.cs "less")])) [
      .ret (.c1 .list (.sl (.lnm 0) (.ci 2) .np))] [],
    .ifs (.or2 (.cmp .eq (.sub (.lnm 0) (.ci 0)) (.cs "say")) (.or1 (.cmp .eq (.sub (.lnm 0) (.ci 0)) (.cs "nought")))) [
      .ret (.lst [(.sub (.lnm 0) (.ci 1))])] [],
    .ret (.lst [])]⟩
def t1__law_run : E := (.and2 (.cmp .lt (.lnm 5) (.b1 .len (.bnm 0))) (.and1 (.cmp .lt (.lnm 6) (.bnm 2))))
def c1__law_run : E := (.lcn [9] (.one 9) (.seq (.call 19 [(.rf 7)])) (.ite (.isi (.bnm 9) .int) (.nm 9) (.get2 (.lnm 3) (.nm 9) (.ci 0))))
def b1__law_run : List S := [
    .set 7 (.sub (.lnm 0) (.nm 5)),
    .set 6 (.bin .add (.lnm 6) (.ci 1)),
    .set 8 c1__law_run,
    .set 5 (.bin .add (.lnm 5) (.ci 1)),
    .ifs (.cmp .eq (.sub (.lnm 7) (.ci 0)) (.cs "set")) [
      .seti (.root 3) (.sub (.lnm 7) (.ci 1)) (.sub (.lnm 8) (.ci 0))] [
      .ifs (.cmp .eq (.sub (.lnm 7) (.ci 0)) (.cs "add")) [
        .seti (.root 3) (.sub (.lnm 7) (.ci 1)) (.bin .add (.sub (.lnm 8) (.ci 0)) (.sub (.lnm 8) (.ci 1)))] [
        .ifs (.cmp .eq (.sub (.lnm 7) (.ci 0)) (.cs "sub")) [
          .seti (.root 3) (.sub (.lnm 7) (.ci 1)) (.bin .sub (.sub (.lnm 8) (.ci 0)) (.sub (.lnm 8) (.ci 1)))] [
          .ifs (.cmp .eq (.sub (.lnm 7) (.ci 0)) (.cs "less")) [
            .seti (.root 3) (.sub (.lnm 7) (.ci 1)) (.b1 .int (.cmp .lt (.sub (.lnm 8) (.ci 0)) (.bsub 8 (.ci 1))))] [
            .ifs (.cmp .eq (.sub (.lnm 7) (.ci 0)) (.cs "say")) [
              .mo .app (.root 4) (.sub (.lnm 8) (.ci 0))] [
              .ifs (.cmp .eq (.sub (.lnm 7) (.ci 0)) (.cs "jump")) [
                .set 5 (.sub (.lnm 7) (.ci 1))] [
                .ifs (.cmp .eq (.sub (.lnm 7) (.ci 0)) (.cs "stop")) [
                  .set 5 (.b1 .len (.bnm 0))] [
                  .ifs (.cmp .eq (.sub (.lnm 8) (.ci 0)) (.ci 0)) [
                    .set 5 (.sub (.lnm 7) (.ci 2))] []]]]]]]]]
def l1__law_run : S := .whl t1__law_run b1__law_run
def d__law_run : Df := ⟨10, 3, [
    .set 3 (.c1 .dict (.lnm 1)),
    .set 4 (.lst []),
    .set 5 (.ci 0),
    .set 6 (.ci 0),
    l1__law_run,
    .ret (.tup [(.nm 4), (.ite (.cmp .eq (.lnm 5) (.b1 .len (.bnm 0))) (.cs "end") (.cs "tired")), (.nm 6)])]⟩
end VL
/-! simp rules for the evaluator -/
namespace VL
open PySem PySem.Spec L2
@[simp] theorem getv_cons0 (o : Option D) (ρ : Env) : getv (o :: ρ) 0 = o := getv_zero o ρ
@[simp] theorem getv_consS (o : Option D) (ρ : Env) (i : Nat) : getv (o :: ρ) (i + 1) = getv ρ i := getv_succ o ρ i
@[simp] theorem guard_dec {α : Type} {p : Prop} [Decidable p] {x : Out α} (h : p) : Out.guard (decide p) x = x := by rw [decide_eq_true h]; rfl
@[simp] theorem eqv_int {a b : Int} : eqv (.int a) (.int b) = decide (a = b) := by
  unfold eqv; by_cases h : a = b <;> simp [frz, h]
@[simp] theorem eqv_str {a b : Str} : eqv (.str a) (.str b) = decide (a = b) := by
  unfold eqv; by_cases h : a = b <;> simp [frz, h]
@[simp] theorem eqv_int_str {a : Int} {b : Str} : eqv (.int a) (.str b) = false := by unfold eqv; simp [frz]
@[simp] theorem eqv_str_int {a : Int} {b : Str} : eqv (.str b) (.int a) = false := by unfold eqv; simp [frz]
@[simp] theorem eqv_non_int {a : Int} : eqv .non (.int a) = false := by unfold eqv; simp [frz]
@[simp] theorem eqv_non_str {a : Str} : eqv .non (.str a) = false := by unfold eqv; simp [frz]
@[simp] theorem eqD_int {a b : Int} : eqD (.int a) (.int b) = .ok (decide (a = b)) := by unfold eqD; simp [flat, Out.guard]
@[simp] theorem eqD_str {a b : Str} : eqD (.str a) (.str b) = .ok (decide (a = b)) := by unfold eqD; simp [flat, Out.guard]
@[simp] theorem eqD_int_str {a : Int} {b : Str} : eqD (.int a) (.str b) = .ok false := by unfold eqD; simp [flat, Out.guard]
@[simp] theorem eqD_str_int {a : Int} {b : Str} : eqD (.str b) (.int a) = .ok false := by unfold eqD; simp [flat, Out.guard]
@[simp] theorem guard_false {α : Type} {x : Out α} : Out.guard false x = .no := rfl
@[simp] theorem of_none {α : Type} : Out.of (none : Option α) = .no := rfl
@[simp] theorem b_add {a b : Int} : binD .add (.int a) (.int b) = .ok (.int (a + b)) := rfl
@[simp] theorem b_addS {x y : Str} : binD .add (.str x) (.str y) = Out.guard (decide (x.length + y.length ≤ lim)) (.ok (.str (x ++ y))) := rfl
@[simp] theorem b_addL {l m : List D} {o p : Bool} : binD .add (.lst o l) (.lst p m) = Out.guard (fzdL l && fzdL m && decide (l.length + m.length ≤ lim)) (.ok (.lst true (l ++ m))) := rfl
@[simp] theorem b_addT {l m : List D} : binD .add (.tup l) (.tup m) = Out.guard (fzdL l && fzdL m && !l.isEmpty && decide (l.length + m.length ≤ lim)) (.ok (.tup (l ++ m))) := rfl
@[simp] theorem b_sub {a b : Int} : binD .sub (.int a) (.int b) = .ok (.int (a - b)) := rfl
@[simp] theorem b_mul {i j : Int} : binD .mul (.int i) (.int j) = Out.guard (decide (-(2 ^ 64) < i ∧ i < 2 ^ 64) || decide (-(2 ^ 64) < j ∧ j < 2 ^ 64)) (.ok (.int (i * j))) := rfl
@[simp] theorem b_fdiv {i j : Int} : binD .fdiv (.int i) (.int j) = Out.guard (decide (0 < j ∧ j < 1073741824)) (.ok (.int (i / j))) := rfl
@[simp] theorem b_mod {i j : Int} : binD .mod (.int i) (.int j) = Out.guard (decide (0 < j)) (.ok (.int (i % j))) := rfl
@[simp] theorem b_pow {i j : Int} : binD .pow (.int i) (.int j) = Out.guard (decide (0 ≤ j ∧ j ≤ 1000 ∧ i.natAbs < 2 ^ 64)) (.ok (.int (i ^ j.toNat))) := rfl
@[simp] theorem c_lt {i j : Int} : cmpD .lt (.int i) (.int j) = .ok (decide (i < j)) := rfl
@[simp] theorem c_le {i j : Int} : cmpD .le (.int i) (.int j) = .ok (decide (i ≤ j)) := rfl
@[simp] theorem c_gt {i j : Int} : cmpD .gt (.int i) (.int j) = .ok (decide (j < i)) := rfl
@[simp] theorem c_ge {i j : Int} : cmpD .ge (.int i) (.int j) = .ok (decide (j ≤ i)) := rfl
@[simp] theorem c_eq {a b : D} : cmpD .eq a b = eqD a b := rfl
@[simp] theorem c_ne {a b : D} : cmpD .ne a b = (eqD a b).bind fun c => .ok (!c) := rfl
@[simp] theorem look_inl {d : D} {ρ : Env} : look (.inl d) ρ = some d := rfl
@[simp] theorem look_inr {i : Nat} {ρ : Env} : look (.inr i) ρ = getv ρ i := rfl
@[simp] theorem fl_bl {b : Bool} : fl (.bl b) = .ok b := rfl
@[simp] theorem num_int {i : Int} : num (.int i) = .ok i := rfl
@[simp] theorem lenD_lst {o : Bool} {l : List D} : lenD (.lst o l) = .ok l.length := rfl
@[simp] theorem lenD_tup {l : List D} : lenD (.tup l) = .ok l.length := rfl
@[simp] theorem lenD_dct {o : Bool} {ks : List KD} {l : List D} : lenD (.dct o ks l) = .ok ks.length := rfl
@[simp] theorem lenD_str {x : Str} : lenD (.str x) = Out.guard (decide (x.length ≤ lim)) (.ok (x.length : Int)) := rfl
@[simp] theorem lenD_scr {ns : List Int} : lenD (.scr ns) = .ok ns.length := rfl
@[simp] theorem b1_len {d : D} : b1D .len d = (lenD d).bind fun n => .ok (.int n) := rfl
@[simp] theorem b1_intI {i : Int} : b1D .int (.int i) = .ok (.int i) := rfl
@[simp] theorem b1_intB {b : Bool} : b1D .int (.bl b) = .ok (.int (if b then 1 else 0)) := rfl
@[simp] theorem b1_all {o : Bool} {l : List D} : b1D .all (.lst o l) = (Out.of (bools l)).bind fun bs => .ok (.bl (bs.all id)) := rfl
@[simp] theorem bnd1 {x : Int} : -18446744073709551616 < x % 2147483647 := by omega
@[simp] theorem bnd2 {x : Int} : x % 2147483647 < 18446744073709551616 := by omega
@[simp] theorem fzd_int {i : Int} : fzd (.int i) = true := rfl
@[simp] theorem fzd_str {x : Str} : fzd (.str x) = true := rfl
@[simp] theorem fzd_bl {x : Bool} : fzd (.bl x) = true := rfl
@[simp] theorem fzd_non : fzd .non = true := rfl
@[simp] theorem fzd_scr {ns : List Int} : fzd (.scr ns) = true := rfl
@[simp] theorem fzd_tup {l : List D} : fzd (.tup l) = fzdL l := by simp [fzd]
@[simp] theorem fzd_lstF {l : List D} : fzd (.lst false l) = fzdL l := by simp [fzd]
@[simp] theorem fzd_lstT {l : List D} : fzd (.lst true l) = false := by simp [fzd]
@[simp] theorem fzd_dctT {ks : List KD} {l : List D} : fzd (.dct true ks l) = false := by simp [fzd]
@[simp] theorem fzd_dctF {ks : List KD} {l : List D} : fzd (.dct false ks l) = fzdL l := by simp [fzd]
@[simp] theorem fzdL_nil : fzdL [] = true := by simp [fzdL]
@[simp] theorem fzdL_cons {d : D} {l : List D} : fzdL (d :: l) = (fzd d && fzdL l) := by simp [fzdL]
@[simp] theorem frz_int {i : Int} : frz (.int i) = .int i := rfl
@[simp] theorem frz_str {x : Str} : frz (.str x) = .str x := rfl
@[simp] theorem frz_bl {x : Bool} : frz (.bl x) = .bl x := rfl
@[simp] theorem frz_non : frz .non = .non := rfl
@[simp] theorem frz_scr {ns : List Int} : frz (.scr ns) = .scr ns := rfl
@[simp] theorem frz_tup {l : List D} : frz (.tup l) = .tup (frzL l) := by simp [frz]
@[simp] theorem frz_lst {o : Bool} {l : List D} : frz (.lst o l) = .lst false (frzL l) := by simp [frz]
@[simp] theorem frz_dct {o : Bool} {ks : List KD} {l : List D} : frz (.dct o ks l) = .dct false ks (frzL l) := by simp [frz]
@[simp] theorem frzL_nil : frzL [] = [] := by simp [frzL]
@[simp] theorem frzL_cons {d : D} {l : List D} : frzL (d :: l) = frz d :: frzL l := by simp [frzL]
@[simp] theorem seqF_nx {ρ : Env} {f : Env → Out Fl} : seqF (.ok (.nx ρ)) f = f ρ := rfl
@[simp] theorem seqF_rt {d : D} {ρ : Env} {f : Env → Out Fl} : seqF (.ok (.rt d ρ)) f = .ok (.rt d ρ) := rfl
@[simp] theorem seqF_no {f : Env → Out Fl} : seqF .no f = .no := rfl
@[simp] theorem seqF_err {c : Nat} {f : Env → Out Fl} : seqF (.err c) f = .err c := rfl
@[simp] theorem isiOk_sc {d : D} (h : isSc d = true) : isiOk d = true := by cases d <;> first | rfl | (simp [isSc] at h)
@[simp] theorem range_map {α : Type} {f : Nat → α} {n : Nat} : (List.range (n + 1)).map f = f 0 :: (List.range n).map (fun i => f (i + 1)) := by rw [List.range_succ_eq_map, List.map_cons, List.map_map]; rfl
@[simp] theorem partD_int {i : Int} : partD (.int i) = .ok (some i) := rfl
@[simp] theorem sl_tup {l : List D} {a b : Option Int} : slD (.tup l) a b = Out.guard (fzdL l && !(decide (HT.sIx l.length 0 a = 0 ∧ HT.sIx l.length l.length b = l.length))) (.ok (.tup (cutD l a b))) := rfl
@[simp] theorem sl_lst {o : Bool} {l : List D} {a b : Option Int} : slD (.lst o l) a b = Out.guard (fzdL l) (.ok (.lst true (cutD l a b))) := rfl
@[simp] theorem sl_str {x : Str} {a b : Option Int} : slD (.str x) a b = Out.guard (decide (x.length ≤ lim)) (.ok (.str (cutS x a b))) := rfl
@[simp] theorem c1_listT {l : List D} : c1D .list (.tup l) = Out.guard (fzdL l) (.ok (.lst true l)) := rfl
@[simp] theorem c1_listL {o : Bool} {l : List D} : c1D .list (.lst o l) = Out.guard (fzdL l) (.ok (.lst true l)) := rfl
@[simp] theorem c1_dictD {o : Bool} {ks : List KD} {l : List D} : c1D .dict (.dct o ks l) = Out.guard (fzdL l && ks.all (·.isLeft)) (.ok (.dct true ks l)) := rfl
@[simp] theorem in_tup {a : D} {l : List D} : inD a (.tup l) = Out.guard (flat a && l.all flat) (.ok (l.any fun d => eqv d a)) := rfl
@[simp] theorem flat_int {i : Int} : flat (.int i) = true := rfl
@[simp] theorem flat_str {x : Str} : flat (.str x) = true := rfl
@[simp] theorem flat_non : flat .non = true := rfl
@[simp] theorem w_tup {l : List D} {i : Int} : whichD (.tup l) (.int i) = ixN l.length i := rfl
@[simp] theorem w_lst {o : Bool} {l : List D} {i : Int} : whichD (.lst o l) (.int i) = ixN l.length i := rfl
@[simp] theorem kids_tup {l : List D} : kids (.tup l) = l := rfl
@[simp] theorem kids_lst {o : Bool} {l : List D} : kids (.lst o l) = l := rfl
@[simp] theorem kids_dct {o : Bool} {ks : List KD} {l : List D} : kids (.dct o ks l) = l := rfl
@[simp] theorem setKid_tup {l : List D} {j : Nat} {d : D} : setKid (.tup l) j d = .tup (l.set j d) := rfl
@[simp] theorem setKid_lst {o : Bool} {l : List D} {j : Nat} {d : D} : setKid (.lst o l) j d = .lst o (l.set j d) := rfl
@[simp] theorem sub_scr {ns : List Int} {i : Int} : subD (.scr ns) (.int i) = (Out.of (ixD ns i)).bind fun n => .ok (.int n) := rfl
@[simp] theorem sub_str {x : Str} {i : Int} : subD (.str x) (.int i) = Out.guard (decide (x.length ≤ lim)) ((Out.of (ixD x.cps.toList i)).bind fun c => .ok (.str ⟨#[c]⟩)) := rfl
@[simp] theorem sub_tup {l : List D} {i : Int} : subD (.tup l) (.int i) = (Out.of (ixN l.length i)).bind fun j => Out.of (l[j]?) := rfl
@[simp] theorem sub_lst {o : Bool} {l : List D} {i : Int} : subD (.lst o l) (.int i) = (Out.of (ixN l.length i)).bind fun j => Out.of (l[j]?) := rfl
@[simp] theorem sub_dct {o : Bool} {ks : List KD} {l : List D} {k : D} : subD (.dct o ks l) k = (Out.of (whichD (.dct o ks l) k)).bind fun j => Out.of (l[j]?) := rfl
@[simp] theorem argN_lnm {i : Nat} {f : Env → Out (D × Env)} {ρ : Env} : argN (.lnm i) f ρ = (Out.of (getv ρ i)).bind fun _ => .ok (.inr i, ρ) := rfl
@[simp] theorem ev_bin {G : Ctx} {o : Bop} {a b : E} {ρ : Env} : evE G (.bin o a b) ρ = (argN a (evE G a) ρ).bind fun x => (argN b (evE G b) x.2).bind fun y => (Out.of (look x.1 y.2)).bind fun u => (Out.of (look y.1 y.2)).bind fun v => (binD o u v).bind fun r => .ok (r, y.2) := by simp only [evE]
def mixed (c k : Int) : Int :=
  let n := (c * 48271 + 7919 * k + 12345) % 2147483647
  n * n % 2147483647 * n % 2147483647
theorem m_mixed (G : Ctx) (c k : Int) : d__law_mixed.run G [.int c, .int k] = .ok (.int (mixed c k), [some (.int c), some (.int k)]) := by
  simp [Df.run, d__law_mixed, exB, exS, evE, argN, setv, endF, asgs, S.asg, mixed]
end VL
/-! loops and comprehensions of the evaluator -/
namespace VL
open PySem PySem.Spec L2
theorem stay_none {ρ : Env} : stayE none ρ = true := rfl
theorem wipe_same {ρ : Env} {own : List Nat} (h : ∀ i ∈ own, getv ρ i = none) : wipeE ρ own = ρ := by
  induction own generalizing ρ with
  | nil => rfl
  | cons i own ih =>
    rw [wipeE_cons]
    have e : ρ.set i none = ρ := by
      apply List.ext_getElem?
      intro j
      by_cases q : i = j
      · subst q
        by_cases hl : i < ρ.length
        · rw [List.getElem?_set_self hl]
          have := h i List.mem_cons_self
          unfold getv at this
          rw [List.getElem?_eq_getElem hl] at this ⊢
          simp at this
          rw [this]
        · rw [List.getElem?_eq_none (by simpa using hl), List.getElem?_eq_none (by simpa using hl)]
      · rw [List.getElem?_set_ne q]
    rw [e]
    exact ih fun j hj => h j (List.mem_cons_of_mem _ hj)
theorem env_ext {ρ ρ' : Env} (hl : ρ.length = ρ'.length) (h : ∀ j, j < ρ.length → getv ρ j = getv ρ' j) : ρ = ρ' := by
  apply List.ext_getElem?
  intro j
  by_cases hj : j < ρ.length
  · have := h j hj
    unfold getv at this
    rw [List.getElem?_eq_getElem hj, List.getElem?_eq_getElem (by omega)] at this ⊢
    simp at this
    rw [this]
  · rw [List.getElem?_eq_none (by omega), List.getElem?_eq_none (by omega)]
theorem keep_back {old ρ : Env} {own : List Nat} (h : wipeE ρ own = wipeE old own) : keepE old ρ own = old := by
  have hl : ρ.length = old.length := by have := congrArg List.length h; rwa [wipeE_length, wipeE_length] at this
  refine env_ext (by rw [keepE_length, hl]) fun j hj => ?_
  rw [keepE_length, hl] at hj
  rw [getv_keepE hj hl]
  split
  · rfl
  · rename_i hn
    have := congrArg (fun ρ => getv ρ j) h
    simp only [getv_wipeE, if_neg hn] at this
    exact this
/-- a comprehension, item by item -/
theorem comp_all {own : List Nat} {g : Tg} {t : Env → Out (Bool × Env)} {el : Env → Out (D × Env)} {ch : Option (Nat × D)} {base : Env} {b : D → Bool} {v : D → D}
    (hst : ∀ ρ, wipeE ρ own = base → stayE ch ρ = true) :
    ∀ {l acc : List D} {ρ : Env}, (∀ d ∈ l, ∃ ρ1 ρ2, asgT g d base = .ok ρ1 ∧ t ρ1 = .ok (b d, ρ2) ∧ (if b d = true then ∃ ρ3, el ρ2 = .ok (v d, ρ3) ∧ wipeE ρ3 own = base else wipeE ρ2 own = base)) → wipeE ρ own = base →
      ∃ ρ', compF ch (fun d ρ => asgT g d (wipeE ρ own)) t el l acc ρ = .ok (acc ++ (l.filter b).map v, ρ') ∧ wipeE ρ' own = base
  | [], acc, ρ, _, hw => ⟨ρ, by simp [compF, hst ρ hw], hw⟩
  | d :: l, acc, ρ, h, hw => by
    obtain ⟨ρ1, ρ2, h1, h2, h3⟩ := h d List.mem_cons_self
    have hr : ∀ d ∈ l, _ := fun d hd => h d (List.mem_cons_of_mem _ hd)
    simp only [compF, hst ρ hw, Out.guard_true, hw, h1, Out.bind_ok, h2]
    cases hb : b d with
    | true =>
      rw [hb, if_pos rfl] at h3
      obtain ⟨ρ3, h4, h5⟩ := h3
      simp only [h4, Out.bind_ok]
      obtain ⟨ρ', h6, h7⟩ := comp_all hst (l := l) (acc := acc ++ [v d]) hr h5
      exact ⟨ρ', by rw [h6]; simp [hb], h7⟩
    | false =>
      rw [hb, if_neg Bool.false_ne_true] at h3
      obtain ⟨ρ', h6, h7⟩ := comp_all hst (l := l) (acc := acc) hr h3
      exact ⟨ρ', by rw [h6]; simp [hb], h7⟩
theorem lc_all {own : List Nat} {g : Tg} {t : Env → Out (Bool × Env)} {el : Env → Out (D × Env)} {w : Wk × Env} (b : D → Bool) (v : D → D) (hlen : w.1.1.length < lim) (hst : ∀ ρ, wipeE ρ own = wipeE w.2 own → stayE w.1.2 ρ = true)
    (h : ∀ d ∈ w.1.1, ∃ ρ1 ρ2, asgT g d (wipeE w.2 own) = .ok ρ1 ∧ t ρ1 = .ok (b d, ρ2) ∧ (if b d = true then ∃ ρ3, el ρ2 = .ok (v d, ρ3) ∧ wipeE ρ3 own = wipeE w.2 own else wipeE ρ2 own = wipeE w.2 own)) :
    lcF own g t el w = .ok (.lst true ((w.1.1.filter b).map v), w.2) := by
  obtain ⟨ρ', h1, h2⟩ := comp_all (ch := w.1.2) (acc := []) (ρ := w.2) hst h rfl
  unfold lcF
  rw [decide_eq_true hlen, Out.guard_true, h1]
  simp only [Out.bind_ok, List.nil_append]
  rw [keep_back h2]
/-- .. with no test -/
theorem lcn_all {own : List Nat} {g : Tg} {el : Env → Out (D × Env)} {w : Wk × Env} (v : D → D) (hlen : w.1.1.length < lim) (hst : ∀ ρ, wipeE ρ own = wipeE w.2 own → stayE w.1.2 ρ = true)
    (h : ∀ d ∈ w.1.1, ∃ ρ1, asgT g d (wipeE w.2 own) = .ok ρ1 ∧ ∃ ρ3, el ρ1 = .ok (v d, ρ3) ∧ wipeE ρ3 own = wipeE w.2 own) :
    lcF own g (fun ρ => .ok (true, ρ)) el w = .ok (.lst true (w.1.1.map v), w.2) := by
  have := lc_all (own := own) (g := g) (t := fun ρ => .ok (true, ρ)) (el := el) (w := w) (fun _ => true) v hlen hst fun d hd => by
    obtain ⟨ρ1, h1, h2⟩ := h d hd
    exact ⟨ρ1, ρ1, h1, rfl, by simpa using h2⟩
  rw [this, List.filter_eq_self.mpr (by simp)]
theorem ev_lcn {G : Ctx} {own : List Nat} {g : Tg} {it : It} {el : E} {ρ : Env} : evE G (.lcn own g it el) ρ = (evalIt G it ρ).bind fun w => lcF own g (fun ρ => .ok (true, ρ)) (evE G el) w := by simp only [evE]
theorem ev_lc {G : Ctx} {own : List Nat} {g : Tg} {it : It} {t el : E} {ρ : Env} : evE G (.lc own g it t el) ρ = (evalIt G it ρ).bind fun w => lcF own g (tstF (evE G t)) (evE G el) w := by simp only [evE]
/-- a for loop, by a state -/
theorem for_all {σ : Type} (env : σ → Env) (f : σ → D → σ) {ch : Option (Nat × D)} {asg : D → Env → Out Env} {body : Env → Out Fl} (hst : ∀ s, stayE ch (env s) = true) :
    ∀ {l : List D} {s : σ}, (∀ s, ∀ d ∈ l, ∃ ρ1, asg d (env s) = .ok ρ1 ∧ body ρ1 = .ok (.nx (env (f s d)))) → forF ch asg body l (env s) = .ok (.nx (env (l.foldl f s)))
  | [], s, _ => by simp [forF, hst]
  | d :: l, s, h => by
    obtain ⟨ρ1, h1, h2⟩ := h s d List.mem_cons_self
    simp only [forF, hst, Out.guard_true, h1, Out.bind_ok, h2, List.foldl_cons]
    exact for_all env f hst fun s d hd => h s d (List.mem_cons_of_mem _ hd)
/-- .. that a state may leave out of account: an invariant -/
theorem for_inv {σ : Type} (env : σ → Env) (I : List D → σ → Prop) {ch : Option (Nat × D)} {asg : D → Env → Out Env} {body : Env → Out Fl} (hst : ∀ s, stayE ch (env s) = true)
    (h : ∀ d r s, I (d :: r) s → ∃ ρ1 s', asg d (env s) = .ok ρ1 ∧ body ρ1 = .ok (.nx (env s')) ∧ I r s') :
    ∀ {l : List D} {s : σ}, I l s → ∃ s', forF ch asg body l (env s) = .ok (.nx (env s')) ∧ I [] s'
  | [], s, hi => ⟨s, by simp [forF, hst], hi⟩
  | d :: l, s, hi => by
    obtain ⟨ρ1, s', h1, h2, h3⟩ := h d l s hi
    simp only [forF, hst, Out.guard_true, h1, Out.bind_ok, h2]
    exact for_inv env I hst h h3
/-- a while loop, by a state and a measure -/
theorem whl_run {σ : Type} (env : σ → Env) (R : σ → Fl → Prop) (mu : σ → Nat) {c : Env → Out (Bool × Env)} {body : Env → Out Fl} (I : σ → Prop)
    (h : ∀ s, I s → (∃ ρ', c (env s) = .ok (false, ρ') ∧ R s (.nx ρ')) ∨ (∃ ρ1, c (env s) = .ok (true, ρ1) ∧ ((∃ s', body ρ1 = .ok (.nx (env s')) ∧ I s' ∧ mu s' < mu s ∧ ∀ f, R s' f → R s f) ∨ ∃ d ρ', body ρ1 = .ok (.rt d ρ') ∧ R s (.rt d ρ')))) :
    ∀ (n : Nat) (s : σ), I s → mu s < n → ∃ f, whlF c body n (env s) = .ok f ∧ R s f
  | 0, s, _, hn => absurd hn (Nat.not_lt_zero _)
  | n + 1, s, hi, hn => by
    rcases h s hi with ⟨ρ', h1, h2⟩ | ⟨ρ1, h1, ⟨s', h2, h3, h4, h5⟩ | ⟨d, ρ', h2, h3⟩⟩
    · exact ⟨_, by simp only [whlF, h1, Out.bind_ok], h2⟩
    · obtain ⟨f, h6, h7⟩ := whl_run env R mu I h n s' h3 (by omega)
      exact ⟨f, by simp only [whlF, h1, Out.bind_ok, h2]; exact h6, h5 f h7⟩
    · exact ⟨_, by simp only [whlF, h1, Out.bind_ok, h2], h3⟩
end VL
/-! mirrors of the defs that k01 reaches, part 1 -/
namespace VL
open PySem PySem.Spec L2
/-! ### kinds -/
inductive Kd | set | add | sub | less | say | jump | nought | stop
def kd : Kd → Str
  | .set => "set" | .add => "add" | .sub => "sub" | .less => "less" | .say => "say" | .jump => "jump" | .nought => "nought" | .stop => "stop"
theorem kd_inj : ∀ {a b : Kd}, kd a = kd b → a = b := by
  intro a b h
  cases a <;> cases b <;> first
    | rfl
    | (exact absurd h (by decide +kernel))
instance : DecidableEq Kd := fun a b => by
  cases a <;> cases b <;> first
    | exact isTrue rfl
    | exact isFalse (fun h => by cases h)
@[simp] theorem kd_eq {a b : Kd} : (kd a = kd b) = (a = b) := propext ⟨kd_inj, fun h => h ▸ rfl⟩
theorem k_set : (Str.ofString "set") = kd .set := rfl
theorem k_add : (Str.ofString "add") = kd .add := rfl
theorem k_sub : (Str.ofString "sub") = kd .sub := rfl
theorem k_less : (Str.ofString "less") = kd .less := rfl
theorem k_say : (Str.ofString "say") = kd .say := rfl
theorem k_jump : (Str.ofString "jump") = kd .jump := rfl
theorem k_nought : (Str.ofString "nought") = kd .nought := rfl
theorem k_stop : (Str.ofString "stop") = kd .stop := rfl
/-! ### rows -/
inductive Ar | add | sub | less
def Ar.kd : Ar → Kd
  | .add => .add | .sub => .sub | .less => .less
inductive Rw
  | st (x : Str) (a : Key)
  | ar (k : Ar) (x : Str) (a b : Key)
  | say (a : Key)
  | jump (n : Nat)
  | stop
  | nought (a : Key) (n : Nat)
def opD : Key → D
  | .inl i => .int i
  | .inr x => .str x
def rowD : Rw → D
  | .st x a => .tup [.str (kd .set), .str x, opD a]
  | .ar k x a b => .tup [.str (kd k.kd), .str x, opD a, opD b]
  | .say a => .tup [.str (kd .say), opD a]
  | .jump n => .tup [.str (kd .jump), .int n]
  | .stop => .tup [.str (kd .stop)]
  | .nought a n => .tup [.str (kd .nought), opD a, .int n]
@[simp] theorem opD_inl {i : Int} : opD (.inl i) = .int i := rfl
@[simp] theorem opD_inr {x : Str} : opD (.inr x) = .str x := rfl
@[simp] theorem fzd_opD {a : Key} : fzd (opD a) = true := by cases a <;> rfl
@[simp] theorem frz_opD {a : Key} : frz (opD a) = opD a := by cases a <;> rfl
@[simp] theorem fzd_rowD {r : Rw} : fzd (rowD r) = true := by cases r <;> simp [rowD]
@[simp] theorem frz_rowD {r : Rw} : frz (rowD r) = rowD r := by cases r <;> simp [rowD]
def Rw.ops : Rw → List Key
  | .st _ a => [a]
  | .ar _ _ a b => [a, b]
  | .say a => [a]
  | .jump _ => []
  | .stop => []
  | .nought a _ => [a]
def Rw.own : Rw → Option Str
  | .st x _ => some x
  | .ar _ x _ _ => some x
  | _ => none
def opt (o : Option D) : D := o.getD .non
theorem m_asked (G : Ctx) (r : Rw) : d_asked.run G [rowD r] = .ok (.lst true (r.ops.map opD), [some (rowD r)]) := by
  cases r with
  | ar k x a b => cases k <;> simp [rowD, Df.run, d_asked, exB, exS, evE, evalL, argN, argP, endF, asgs, S.asg, k_set, k_add, k_sub, k_less, k_say, k_nought, tstF, subE, takeKid, ixN, Ar.kd, Rw.ops, cutD, HT.sIx]
  | _ => simp [rowD, Df.run, d_asked, exB, exS, evE, evalL, argN, argP, endF, asgs, S.asg, k_set, k_add, k_sub, k_less, k_say, k_nought, tstF, subE, takeKid, ixN, Rw.ops, cutD, HT.sIx]
theorem m_law_asks (G : Ctx) (r : Rw) : d__law_asks.run G [rowD r] = .ok (.lst true (r.ops.map opD), [some (rowD r)]) := by
  cases r with
  | ar k x a b => cases k <;> simp [rowD, Df.run, d__law_asks, exB, exS, evE, evalL, argN, argP, endF, asgs, S.asg, k_set, k_add, k_sub, k_less, k_say, k_nought, tstF, subE, takeKid, ixN, Ar.kd, Rw.ops, cutD, HT.sIx]
  | _ => simp [rowD, Df.run, d__law_asks, exB, exS, evE, evalL, argN, argP, endF, asgs, S.asg, k_set, k_add, k_sub, k_less, k_say, k_nought, tstF, subE, takeKid, ixN, Rw.ops, cutD, HT.sIx]
theorem m_written (G : Ctx) (r : Rw) : d_written.run G [rowD r] = .ok (opt (r.own.map .str), [some (rowD r)]) := by
  cases r with
  | ar k x a b => cases k <;> simp [rowD, Df.run, d_written, exB, exS, evE, evalL, argN, argP, endF, asgs, S.asg, k_set, k_add, k_sub, k_less, k_say, k_nought, tstF, subE, takeKid, ixN, Ar.kd, Rw.own, opt]
  | _ => simp [rowD, Df.run, d_written, exB, exS, evE, evalL, argN, argP, endF, asgs, S.asg, k_set, k_add, k_sub, k_less, k_say, k_nought, tstF, subE, takeKid, ixN, Rw.own, opt]
theorem m_is_whole (G : Ctx) (a : Key) : d_is_whole.run G [opD a] = .ok (.bl a.isLeft, [some (opD a)]) := by
  cases a <;> simp [Df.run, d_is_whole, exB, exS, evE, endF, asgs, S.asg, isiD, isiOk]
theorem m_law_whole (G : Ctx) (a : Key) : d__law_whole.run G [opD a] = .ok (.bl a.isLeft, [some (opD a)]) := by
  cases a <;> simp [Df.run, d__law_whole, exB, exS, evE, endF, asgs, S.asg, isiD, isiOk]
/-! ### names -/
structure OkN (x : Str) : Prop where
  lo : 1 ≤ x.cps.toList.length
  hi : x.cps.toList.length ≤ 8
  let_ : ∀ c ∈ x.cps.toList, 97 ≤ c ∧ c ≤ 122
theorem letters_eq : (Str.ofString "abcdefghijklmnopqrstuvwxyz").cps.toList = (List.range 26).map (· + 97) := by decide +kernel
theorem letters_mem {c : Nat} (h : 97 ≤ c ∧ c ≤ 122) : c ∈ (Str.ofString "abcdefghijklmnopqrstuvwxyz").cps.toList := by
  rw [letters_eq, List.mem_map]
  exact ⟨c - 97, by simp; omega, by omega⟩
theorem str_len {x : Str} : x.length = x.cps.toList.length := by simp [Str.length]
theorem bools_map {l : List D} {f : D → Bool} : bools (l.map fun d => D.bl (f d)) = some (l.map f) := by
  induction l with
  | nil => rfl
  | cons d l ih => simp [bools, ih]
theorem in_letter {c : Nat} : inD (.str ⟨#[c]⟩) (.str (Str.ofString "abcdefghijklmnopqrstuvwxyz")) = .ok (decide (c ∈ (Str.ofString "abcdefghijklmnopqrstuvwxyz").cps.toList)) := rfl
theorem m_is_name (G : Ctx) (h0 : G.gl[0]? = some (.str "abcdefghijklmnopqrstuvwxyz")) (h1 : G.gl[1]? = some (.int 8)) {x : Str} (hx : OkN x) : d_is_name.run G [.str x] = .ok (.bl true, [some (.str x)]) := by
  have e1 : evalIt G (.seq (.bnm 0)) [some (.str x), none] = .ok ((x.cps.toList.map fun c => D.str ⟨#[c]⟩, none), [some (.str x), none]) := by
    simp [evalIt, itSeq, slotW]
  have e2 := lcn_all (own := [1]) (g := .one 1) (el := evE G (.inn false (.lnm 1) (.gl 0))) (w := ((x.cps.toList.map fun c => D.str ⟨#[c]⟩, none), [some (.str x), none])) (fun _ => D.bl true)
    (by show (List.map _ _).length < lim; rw [List.length_map]; exact Nat.lt_of_le_of_lt hx.hi (by decide)) (fun ρ _ => rfl) (fun d hd => by
      obtain ⟨c, hc, rfl⟩ := List.mem_map.mp hd
      refine ⟨[some (.str x), some (.str ⟨#[c]⟩)], by simp [asgT, setv, wipeE], [some (.str x), some (.str ⟨#[c]⟩)], ?_, by simp [wipeE]⟩
      simp only [evE, argN_lnm, getv_consS, getv_cons0, Out.of_some, Out.bind_ok, h0, look_inr, in_letter, decide_eq_true (letters_mem (hx.let_ c hc)), if_neg Bool.false_ne_true])
  have hl : x.length ≤ lim := by rw [str_len]; exact Nat.le_trans hx.hi (by decide)
  have h1' : (1 : Int) ≤ (x.length : Int) := by rw [str_len]; have := hx.lo; omega
  have h8 : (x.length : Int) ≤ 8 := by rw [str_len]; have := hx.hi; omega
  have e3 : evE G c1_is_name [some (.str x), none] = .ok (.lst true (x.cps.toList.map fun _ => D.bl true), [some (.str x), none]) := by
    have e5 : (x.cps.toList.map fun _ => D.bl true) = (x.cps.toList.map fun c => D.str ⟨#[c]⟩).map fun _ => D.bl true := by rw [List.map_map]; rfl
    rw [e5, ← e2]
    simp only [c1_is_name, evE, e1, Out.bind_ok]
  have e4 : bools (x.cps.toList.map fun _ => D.bl true) = some (x.cps.toList.map fun _ => true) := by
    generalize x.cps.toList = l
    induction l with
    | nil => rfl
    | cons c l ih => simp [bools, ih]
  simp [Df.run, d_is_name, exB, exS, evE, endF, asgs, S.asg, e3, e4, isiD, isiOk, hl, h1, h1', h8]
/-! ### is_row, need_rows -/
def OkA : Key → Prop
  | .inl _ => True
  | .inr x => OkN x
structure OkR (r : Rw) : Prop where
  own : ∀ x, r.own = some x → OkN x
  ops : ∀ a ∈ r.ops, OkA a
def SpName (F : Sem') : Prop := ∀ x, OkN x → F [.str x] = .ok (.bl true, [some (.str x)])
def SpWhole (F : Sem') : Prop := ∀ a : Key, F [opD a] = .ok (.bl a.isLeft, [some (opD a)])
def SpAsked (F : Sem') : Prop := ∀ r : Rw, F [rowD r] = .ok (.lst true (r.ops.map opD), [some (rowD r)])
theorem applyRf {F : Sem'} {ρ : Env} {i : Nat} {d r : D} (hd : getv ρ i = some d) (hf : fzd d = true) (h : F [d] = .ok (r, [some d])) : applyF F [.inr i] ρ = .ok (r, ρ) := by
  simp [applyF, pull, hd, hf, h, push]
theorem frzL_ops {l : List Key} : frzL (l.map opD) = l.map opD := by
  induction l with
  | nil => rfl
  | cons a l ih => simp [ih]
theorem fzdL_ops {l : List Key} : fzdL (l.map opD) = true := by
  induction l with
  | nil => rfl
  | cons a l ih => simp [ih]
theorem ops_len {r : Rw} : r.ops.length ≤ 2 := by cases r <;> simp [Rw.ops]
theorem c_is_row {G : Ctx} (hN : SpName (G.at 8)) (hW : SpWhole (G.at 9)) (hA : SpAsked (G.at 10)) {r : Rw} (hr : OkR r) : evE G c1_is_row [some (rowD r), none] = .ok (.lst true (r.ops.map fun _ => D.bl true), [some (rowD r), none]) := by
  have e1 : evalIt G (.seq (.call 10 [.rf 0])) [some (rowD r), none] = .ok ((r.ops.map opD, none), [some (rowD r), none]) := by
    have : applyF (G.at 10) [.inr 0] [some (rowD r), none] = .ok (.lst true (r.ops.map opD), [some (rowD r), none]) := applyRf rfl (by simp) (hA r)
    simp [evalIt, itSeq, evE, evalA, argR, this, seqsD, frzL_ops]
  have e2 := lcn_all (own := [1]) (g := .one 1) (el := evE G (.or2 (.call 9 [(.rf 1)]) (.or1 (.call 8 [(.rf 1)])))) (w := ((r.ops.map opD, none), [some (rowD r), none])) (fun _ => D.bl true)
    (by show (List.map _ _).length < lim; rw [List.length_map]; exact Nat.lt_of_le_of_lt ops_len (by decide)) (fun ρ _ => rfl) (fun d hd => by
      obtain ⟨a, ha, rfl⟩ := List.mem_map.mp hd
      refine ⟨[some (rowD r), some (opD a)], by simp [asgT, setv, wipeE], [some (rowD r), some (opD a)], ?_, by simp [wipeE]⟩
      have e9 : applyF (G.at 9) [.inr 1] [some (rowD r), some (opD a)] = .ok (.bl a.isLeft, [some (rowD r), some (opD a)]) := applyRf rfl (by simp) (hW a)
      cases a with
      | inl i => simp [evE, evalA, argR] at e9 ⊢; simp [e9]
      | inr x =>
        have e8 : applyF (G.at 8) [.inr 1] [some (rowD r), some (opD (.inr x))] = .ok (.bl true, [some (rowD r), some (opD (.inr x))]) := applyRf rfl (by simp) (hN x (hr.ops _ ha))
        simp [evE, evalA, argR] at e8 e9 ⊢; simp [e8, e9])
  rw [c1_is_row, ev_lcn, e1]
  simp only [Out.bind_ok]
  rw [e2]
  simp
def SpRow (F : Sem') : Prop := ∀ r : Rw, OkR r → F [rowD r] = .ok (.bl true, [some (rowD r)])
theorem all_true {l : List Key} : (l.map fun _ => true).all id = true := by simp
theorem m_is_row (G : Ctx) (hN : SpName (G.at 8)) (hW : SpWhole (G.at 9)) (hA : SpAsked (G.at 10)) : SpRow (d_is_row.run G) := fun r hr => by
  have e3 := c_is_row hN hW hA hr
  have e4 : bools (r.ops.map fun _ => D.bl true) = some (r.ops.map fun _ => true) := by
    generalize r.ops = l
    induction l with
    | nil => rfl
    | cons a l ih => simp [bools, ih]
  have e5 : ∀ x, r.own = some x → applyF (G.at 8) [.inl (.str x)] [some (rowD r), none] = .ok (.bl true, [some (rowD r), none]) := fun x hx => by
    simp [applyF, pull, hN x (hr.own x hx), push]
  cases r with
  | ar k x a b =>
    have e5 := e5 x rfl
    cases k <;> simp [rowD, Rw.ops, Ar.kd] at e3 e4 e5 <;> simp [Df.run, d_is_row, exB, exS, evE, evalL, evalA, argN, argR, endF, asgs, S.asg, k_set, k_add, k_sub, k_less, k_say, k_nought, k_jump, k_stop, tstF, subE, takeKid, ixN, Ar.kd, rowD, isiD, isiOk, e3, e4, e5, bools, dctD, pairUp, pairsD, toKD, dputs, dput, didx, lenD, whichD, sameKind]
  | st x a =>
    have e5 := e5 x rfl
    simp [rowD, Rw.ops] at e3 e4 e5; simp [Df.run, d_is_row, exB, exS, evE, evalL, evalA, argN, argR, endF, asgs, S.asg, k_set, k_add, k_sub, k_less, k_say, k_nought, k_jump, k_stop, tstF, subE, takeKid, ixN, rowD, isiD, isiOk, e3, e4, e5, bools, dctD, pairUp, pairsD, toKD, dputs, dput, didx, lenD, whichD, sameKind]
  | _ =>
    simp [rowD, Rw.ops] at e3 e4; simp [Df.run, d_is_row, exB, exS, evE, evalL, evalA, argN, argR, endF, asgs, S.asg, k_set, k_add, k_sub, k_less, k_say, k_nought, k_jump, k_stop, tstF, subE, takeKid, ixN, rowD, isiD, isiOk, e3, e4, bools, dctD, pairUp, pairsD, toKD, dputs, dput, didx, lenD, whichD, sameKind]
end VL
/-! mirrors, part 2: need_rows, worth, done, run -/
namespace VL
open PySem PySem.Spec L2
def OkG (n : Nat) : Rw → Prop
  | .jump g => g ≤ n
  | .nought _ g => g ≤ n
  | _ => True
def OkRows (rows : List Rw) : Prop := ∀ r ∈ rows, OkR r ∧ OkG rows.length r
theorem frzL_rows {l : List Rw} : frzL (l.map rowD) = l.map rowD := by
  induction l with
  | nil => rfl
  | cons a l ih => simp [ih]
theorem fzdL_rows {l : List Rw} : fzdL (l.map rowD) = true := by
  induction l with
  | nil => rfl
  | cons a l ih => simp [ih]
theorem need_body {G : Ctx} (hR : SpRow (G.at 11)) (hW : SpWhole (G.at 9)) {o : Bool} {rows : List Rw} {r : Rw} (hr : OkR r) (hg : OkG rows.length r) :
    exB G b1_need_rows [some (.lst o (rows.map rowD)), some (rowD r)] = .ok (.nx [some (.lst o (rows.map rowD)), some (rowD r)]) := by
  have e1 : applyF (G.at 11) [.inr 1] [some (.lst o (rows.map rowD)), some (rowD r)] = .ok (.bl true, [some (.lst o (rows.map rowD)), some (rowD r)]) := applyRf rfl (by simp) (hR r hr)
  have e2 : ∀ i : Int, applyF (G.at 9) [.inl (.int i)] [some (.lst o (rows.map rowD)), some (rowD r)] = .ok (.bl true, [some (.lst o (rows.map rowD)), some (rowD r)]) := fun i => by
    have := hW (.inl i)
    simp at this
    simp [applyF, pull, this, push]
  cases r with
  | ar k x a b => cases k <;> simp [rowD, Ar.kd] at e1 e2 <;> simp [b1_need_rows, exB, exS, evE, evalL, evalA, argN, argR, k_set, k_add, k_sub, k_less, k_say, k_nought, k_jump, k_stop, tstF, subE, takeKid, ixN, Ar.kd, rowD, e1, e2]
  | jump g =>
    have hg : (g : Int) ≤ (rows.length : Int) := by have : g ≤ rows.length := hg; omega
    simp [rowD] at e1 e2
    simp [b1_need_rows, exB, exS, evE, evalL, evalA, argN, argR, k_set, k_add, k_sub, k_less, k_say, k_nought, k_jump, k_stop, tstF, subE, takeKid, ixN, rowD, e1, e2, hg]
  | nought a g =>
    have hg : (g : Int) ≤ (rows.length : Int) := by have : g ≤ rows.length := hg; omega
    simp [rowD] at e1 e2
    simp [b1_need_rows, exB, exS, evE, evalL, evalA, argN, argR, k_set, k_add, k_sub, k_less, k_say, k_nought, k_jump, k_stop, tstF, subE, takeKid, ixN, rowD, e1, e2, hg]
  | _ =>
    simp [rowD] at e1 e2
    simp [b1_need_rows, exB, exS, evE, evalL, evalA, argN, argR, k_set, k_add, k_sub, k_less, k_say, k_nought, k_jump, k_stop, tstF, subE, takeKid, ixN, rowD, e1, e2]
def SpNeed (F : Sem') : Prop := ∀ (o : Bool) (rows : List Rw), OkRows rows → F [.lst o (rows.map rowD)] = .ok (.non, [some (.lst o (rows.map rowD))])
theorem m_need_rows (G : Ctx) (hR : SpRow (G.at 11)) (hW : SpWhole (G.at 9)) : SpNeed (d_need_rows.run G) := fun o rows ok => by
  have e1 : ∀ ch, (∀ s : Option D, stayE ch [some (.lst o (rows.map rowD)), s] = true) → ∃ s : Option D, forF ch (asgT (.one 1)) (exB G b1_need_rows) (rows.map rowD) [some (.lst o (rows.map rowD)), none] = .ok (.nx [some (.lst o (rows.map rowD)), s]) := fun ch hst =>
    ⟨_, for_all (fun s : Option D => [some (.lst o (rows.map rowD)), s]) (fun _ d => some d) hst (s := none) fun s d hd => by
      obtain ⟨r, hr, rfl⟩ := List.mem_map.mp hd
      exact ⟨[some (.lst o (rows.map rowD)), some (rowD r)], by simp [asgT, setv], need_body hR hW (ok r hr).1 (ok r hr).2⟩⟩
  have e2 : ∃ s : Option D, exS G l1_need_rows [some (.lst o (rows.map rowD)), none] = .ok (.nx [some (.lst o (rows.map rowD)), s]) := by
    cases o with
    | true =>
      obtain ⟨s, h⟩ := e1 (some (0, .lst true (rows.map rowD))) (fun s => stayE_iff.mpr rfl)
      exact ⟨s, by simp [l1_need_rows, exS, evalIt, itSeq, slotW, frzL_rows, h]⟩
    | false =>
      obtain ⟨s, h⟩ := e1 none (fun s => rfl)
      exact ⟨s, by simp [l1_need_rows, exS, evalIt, itSeq, slotW, h]⟩
  obtain ⟨s, e2⟩ := e2
  simp [Df.run, d_need_rows, exB, e2]
  simp [exS, evE, tstF, isiD, isiOk, endF, asgs, S.asg, l1_need_rows, b1_need_rows, Tg.slots, exB] at e2 ⊢
  simp [e2]
/-! ### worth -/
def knD (o : Bool) (ks : List KD) (vs : List Int) : D := .dct o ks (vs.map .int)
def KL (ks : List KD) : Prop := ∀ k ∈ ks, k.isLeft = true
def nk (x : Str) : KD := .inl (.inr x)
def kget (ks : List KD) (vs : List Int) (x : Str) : Int := (dget ks vs (nk x)).getD 0
def kval (ks : List KD) (vs : List Int) : Key → Int
  | .inl i => i
  | .inr x => kget ks vs x
theorem KL.same {ks : List KD} (h : KL ks) (x : Str) : sameKind (nk x) ks = true := by
  simp only [sameKind, List.all_eq_true]
  intro k hk
  simp [nk, h k hk]
theorem dget_map {α β : Type} {f : α → β} {ks : List KD} {l : List α} {k : KD} : dget ks (l.map f) k = (dget ks l k).map f := by
  unfold dget
  cases didx ks k with
  | none => rfl
  | some j => simp
theorem dput_map {α β : Type} {f : α → β} {ks : List KD} {l : List α} {k : KD} {v : α} : dput ks (l.map f) k (f v) = ((dput ks l k v).1, (dput ks l k v).2.map f) := by
  unfold dput
  split
  · simp only [Prod.mk.injEq, true_and]
    rw [List.zip_map_right, List.map_map, List.map_map]
    apply List.map_congr_left
    intro p _
    by_cases e : p.1 = k <;> simp [e]
  · simp
theorem KL.put {ks : List KD} {l : List Int} (h : KL ks) (x : Str) (v : Int) : KL (dput ks l (nk x) v).1 := by
  unfold dput
  split
  · exact h
  · intro k hk
    rcases List.mem_append.mp hk with hk | hk
    · exact h k hk
    · simp only [List.mem_singleton] at hk; subst hk; rfl
theorem put_len {ks : List KD} {l : List Int} (k : KD) (v : Int) : (dput ks l k v).1.length ≤ ks.length + 1 := by
  unfold dput
  split <;> simp
theorem getD_kn {o : Bool} {ks : List KD} {vs : List Int} (h : KL ks) (x : Str) : getD (knD o ks vs) (.str x) (.int 0) = .ok (.int (kget ks vs x)) := by
  unfold getD knD
  simp only [toKD, Out.of_some, Out.bind_ok]
  have : sameKind (Sum.inl (Sum.inr x)) ks = true := h.same x
  rw [this, Out.guard_true, dget_map]
  unfold kget nk
  cases dget ks vs (Sum.inl (Sum.inr x)) <;> simp
theorem c_worth {G : Ctx} (hW : SpWhole (G.at 9)) (hA : SpAsked (G.at 10)) {r : Rw} {o : Bool} {ks : List KD} {vs : List Int} (h : KL ks) :
    evE G c1_worth [some (rowD r), some (knD o ks vs), none, none] = .ok (.lst true (r.ops.map fun a => D.int (kval ks vs a)), [some (rowD r), some (knD o ks vs), none, none]) := by
  have e1 : evalIt G (.seq (.call 10 [.rf 0])) [some (rowD r), some (knD o ks vs), none, none] = .ok ((r.ops.map opD, none), [some (rowD r), some (knD o ks vs), none, none]) := by
    have : applyF (G.at 10) [.inr 0] [some (rowD r), some (knD o ks vs), none, none] = .ok (.lst true (r.ops.map opD), [some (rowD r), some (knD o ks vs), none, none]) := applyRf rfl (by simp) (hA r)
    simp [evalIt, itSeq, evE, evalA, argR, this, seqsD, frzL_ops]
  have e2 := lcn_all (own := [3]) (g := .one 3) (el := evE G (.ite (.call 9 [(.rf 3)]) (.nm 3) (.get2 (.lnm 1) (.nm 3) (.ci 0)))) (w := ((r.ops.map opD, none), [some (rowD r), some (knD o ks vs), none, none])) (fun d => match d with
      | .str x => D.int (kget ks vs x)
      | d => d)
    (by show (List.map _ _).length < lim; rw [List.length_map]; exact Nat.lt_of_le_of_lt ops_len (by decide)) (fun ρ _ => rfl) (fun d hd => by
      obtain ⟨a, ha, rfl⟩ := List.mem_map.mp hd
      refine ⟨[some (rowD r), some (knD o ks vs), none, some (opD a)], by simp [asgT, setv, wipeE], [some (rowD r), some (knD o ks vs), none, some (opD a)], ?_, by simp [wipeE]⟩
      have e9 : applyF (G.at 9) [.inr 3] [some (rowD r), some (knD o ks vs), none, some (opD a)] = .ok (.bl a.isLeft, [some (rowD r), some (knD o ks vs), none, some (opD a)]) := applyRf rfl (by simp) (hW a)
      cases a with
      | inl i => simp [evE, evalA, argR] at e9 ⊢; simp [e9]
      | inr x =>
        have e8 := getD_kn (o := o) (vs := vs) h x
        have e7 : isD (knD o ks vs) = true := rfl
        simp [evE, evalA, argR] at e8 e9 ⊢; simp [e8, e9, e7])
  rw [c1_worth, ev_lcn, e1]
  simp only [Out.bind_ok]
  rw [e2]
  simp only [List.map_map]
  refine congrArg (fun l => Out.ok (D.lst true l, _)) (List.map_congr_left fun a _ => ?_)
  cases a <;> rfl
def worthOf (ks : List KD) (vs : List Int) : Rw → Int
  | .st _ a => kval ks vs a
  | .ar .add _ a b => kval ks vs a + kval ks vs b
  | .ar .sub _ a b => kval ks vs a - kval ks vs b
  | .ar .less _ a b => if kval ks vs a < kval ks vs b then 1 else 0
  | .say a => kval ks vs a
  | .nought a _ => kval ks vs a
  | _ => 0
def SpWorth (F : Sem') : Prop := ∀ (r : Rw) (o : Bool) (ks : List KD) (vs : List Int), KL ks → F [rowD r, knD o ks vs] = .ok (.int (worthOf ks vs r), [some (rowD r), some (knD o ks vs)])
theorem m_worth (G : Ctx) (hW : SpWhole (G.at 9)) (hA : SpAsked (G.at 10)) : SpWorth (d_worth.run G) := fun r o ks vs h => by
  have e3 := c_worth hW hA (r := r) (o := o) (vs := vs) h
  cases r with
  | ar k x a b => cases k <;> simp [rowD, Rw.ops, Ar.kd] at e3 <;> simp [Df.run, d_worth, exB, exS, evE, evalL, argN, endF, asgs, S.asg, k_set, k_add, k_sub, k_less, k_say, k_nought, k_jump, k_stop, tstF, subE, takeKid, ixN, Ar.kd, rowD, setv, e3, worthOf]
  | _ => simp [rowD, Rw.ops] at e3; simp [Df.run, d_worth, exB, exS, evE, evalL, argN, endF, asgs, S.asg, k_set, k_add, k_sub, k_less, k_say, k_nought, k_jump, k_stop, tstF, subE, takeKid, ixN, rowD, setv, e3, worthOf]
/-! ### done -/
def SpWritten (F : Sem') : Prop := ∀ r : Rw, F [rowD r] = .ok (opt (r.own.map .str), [some (rowD r)])
structure Stt where
  place : Nat
  ks : List KD
  vs : List Int
  said : List Int
/-- one row carried out -/
def stepR (size : Nat) (r : Rw) (s : Stt) : Stt := match r with
  | .jump g => { s with place := g }
  | .stop => { s with place := size }
  | .nought a g => if kval s.ks s.vs a = 0 then { s with place := g } else { s with place := s.place + 1 }
  | .say a => { s with place := s.place + 1, said := s.said ++ [kval s.ks s.vs a] }
  | .st x a => { s with place := s.place + 1, ks := (dput s.ks s.vs (nk x) (kval s.ks s.vs a)).1, vs := (dput s.ks s.vs (nk x) (kval s.ks s.vs a)).2 }
  | .ar k x a b => { s with place := s.place + 1, ks := (dput s.ks s.vs (nk x) (worthOf s.ks s.vs (.ar k x a b))).1, vs := (dput s.ks s.vs (nk x) (worthOf s.ks s.vs (.ar k x a b))).2 }
def SpDone (F : Sem') : Prop := ∀ (r : Rw) (size : Nat) (s : Stt), KL s.ks → s.ks.length < lim → s.said.length < lim →
  F [rowD r, .int s.place, .int size, knD true s.ks s.vs, .lst true (s.said.map .int)] = .ok (.int (stepR size r s).place, [some (rowD r), some (.int s.place), some (.int size), some (knD true (stepR size r s).ks (stepR size r s).vs), some (.lst true ((stepR size r s).said.map .int))])
theorem put_kn {ks : List KD} {vs : List Int} (h : KL ks) (hl : ks.length < lim) (x : Str) (v : Int) : putD (.str x) (.int v) (knD true ks vs) = .ok (knD true (dput ks vs (nk x) v).1 (dput ks vs (nk x) v).2) := by
  unfold putD knD
  simp only [toKD, Out.of_some, Out.bind_ok]
  have : sameKind (Sum.inl (Sum.inr x)) ks = true := h.same x
  rw [this, decide_eq_true hl]
  simp only [Bool.and_self, Out.guard_true]
  rw [dput_map (f := D.int)]; rfl
theorem m_done (G : Ctx) (hO : SpWorth (G.at 13)) (hW : SpWritten (G.at 14)) : SpDone (d_done.run G) := fun r size s hk hl hs => by
  obtain ⟨place, ks, vs, said⟩ := s
  have hs : (said.map D.int).length < lim := by rw [List.length_map]; exact hs
  have hs' : said.length < lim := by simpa using hs
  have f1 : fzd (knD true ks vs) = false := by simp [knD]
  have e1 : applyF (G.at 13) [.inr 0, .inr 3] [some (rowD r), some (.int place), some (.int size), some (knD true ks vs), some (.lst true (said.map .int)), none] = .ok (.int (worthOf ks vs r), [some (rowD r), some (.int place), some (.int size), some (knD true ks vs), some (.lst true (said.map .int)), none]) := by
    simp [applyF, pull, f1, hO r true ks vs hk, push]
  have e2 : ∀ (y : Option D) (z : Option D) (u : Option D), applyF (G.at 14) [.inr 0] [some (rowD r), some (.int place), some (.int size), y, z, u] = .ok (opt (r.own.map .str), [some (rowD r), some (.int place), some (.int size), y, z, u]) := fun y z u => applyRf rfl (by simp) (hW r)
  have e3 := fun x v => put_kn (vs := vs) hk hl x v
  cases r with
  | ar k x a b => cases k <;> simp [rowD, Ar.kd, Rw.own, opt] at e1 e2 <;> simp [Df.run, d_done, exB, exS, evE, evalL, evalA, argN, argR, endF, asgs, S.asg, k_set, k_add, k_sub, k_less, k_say, k_nought, k_jump, k_stop, tstF, subE, takeKid, ixN, Ar.kd, rowD, setv, e1, e2, isN, pathE, mendE, mend, P.slot, e3, stepR, isiOk]
  | st x a => simp [rowD, Rw.own, opt] at e1 e2; simp [Df.run, d_done, exB, exS, evE, evalL, evalA, argN, argR, endF, asgs, S.asg, k_set, k_add, k_sub, k_less, k_say, k_nought, k_jump, k_stop, tstF, subE, takeKid, ixN, rowD, setv, e1, e2, isN, pathE, mendE, mend, P.slot, e3, stepR, worthOf]
  | say a => simp [rowD, Rw.own, opt] at e1 e2; simp [Df.run, d_done, exB, exS, evE, evalL, evalA, argN, argR, endF, asgs, S.asg, k_set, k_add, k_sub, k_less, k_say, k_nought, k_jump, k_stop, tstF, subE, takeKid, ixN, rowD, setv, e1, e2, isN, pathE, mendE, mend, P.slot, stepR, worthOf, nodeAt, nodeOk, moD, appD, hs']
  | nought a g =>
    simp [rowD, Rw.own, opt] at e1 e2
    by_cases hz : kval ks vs a = 0
    · simp [Df.run, d_done, exB, exS, evE, evalL, evalA, argN, argR, endF, asgs, S.asg, k_set, k_add, k_sub, k_less, k_say, k_nought, k_jump, k_stop, tstF, subE, takeKid, ixN, rowD, setv, e1, e2, isN, stepR, worthOf, hz]
    · simp [Df.run, d_done, exB, exS, evE, evalL, evalA, argN, argR, endF, asgs, S.asg, k_set, k_add, k_sub, k_less, k_say, k_nought, k_jump, k_stop, tstF, subE, takeKid, ixN, rowD, setv, e1, e2, isN, stepR, worthOf, hz]
  | _ => simp [rowD, Rw.own, opt] at e1 e2; simp [Df.run, d_done, exB, exS, evE, evalL, evalA, argN, argR, endF, asgs, S.asg, k_set, k_add, k_sub, k_less, k_say, k_nought, k_jump, k_stop, tstF, subE, takeKid, ixN, rowD, setv, e1, e2, isN, stepR, worthOf]
end VL
/-! mirrors, part 3: run, the law's run -/
namespace VL
open PySem PySem.Spec L2
/-- what at most m steps do: the state, whether the end is come, the steps done -/
def runM (rows : List Rw) : Nat → Stt → Stt × Bool × Nat
  | 0, s => (s, decide (rows.length ≤ s.place), 0)
  | m + 1, s => match rows[s.place]? with
    | none => (s, true, 0)
    | some r => ((runM rows m (stepR rows.length r s)).1, (runM rows m (stepR rows.length r s)).2.1, (runM rows m (stepR rows.length r s)).2.2 + 1)
structure Rm (m : Nat) (s : Stt) : Prop where
  kl : KL s.ks
  k : s.ks.length + m < lim
  s : s.said.length + m < lim
theorem Rm.step {m size : Nat} {s : Stt} {r : Rw} (h : Rm (m + 1) s) : Rm m (stepR size r s) := by
  obtain ⟨h1, h2, h3⟩ := h
  cases r with
  | st x a =>
    have := put_len (ks := s.ks) (l := s.vs) (nk x) (kval s.ks s.vs a)
    exact ⟨h1.put _ _, by simp only [stepR]; omega, by simp only [stepR]; omega⟩
  | ar k x a b =>
    have := put_len (ks := s.ks) (l := s.vs) (nk x) (worthOf s.ks s.vs (.ar k x a b))
    exact ⟨h1.put _ _, by simp only [stepR]; omega, by simp only [stepR]; omega⟩
  | nought a g =>
    by_cases hz : kval s.ks s.vs a = 0
    · exact ⟨by simp only [stepR, if_pos hz]; exact h1, by simp only [stepR, if_pos hz]; omega, by simp only [stepR, if_pos hz]; omega⟩
    · exact ⟨by simp only [stepR, if_neg hz]; exact h1, by simp only [stepR, if_neg hz]; omega, by simp only [stepR, if_neg hz]; omega⟩
  | say a => exact ⟨h1, by simp only [stepR]; omega, by simp [stepR]; omega⟩
  | _ => exact ⟨h1, by simp only [stepR]; omega, by simp only [stepR]; omega⟩
theorem ixN_nat {n j : Nat} (h : j < n) : ixN n (j : Int) = some j := by
  unfold ixN
  rw [if_pos (by omega), if_pos (by omega)]
  simp
def envR (o : Bool) (rows : List Rw) (vd : D) (most : Nat) (s : Stt) (c : Nat) : Env := [some (.lst o (rows.map rowD)), some vd, some (.int most), some (knD true s.ks s.vs), some (.lst true (s.said.map .int)), some (.int s.place), some (.int c)]
theorem run_step {G : Ctx} (hD : SpDone (G.at 15)) {o : Bool} {rows : List Rw} {vd : D} {most m c : Nat} {s : Stt} {r : Rw} (hr : rows[s.place]? = some r) (hc : c ≠ most) (h : Rm (m + 1) s) :
    exB G b1_run (envR o rows vd most s c) = .ok (.nx (envR o rows vd most (stepR rows.length r s) (c + 1))) := by
  have hp : s.place < rows.length := (List.getElem?_eq_some_iff.mp hr).1
  have hd := hD r rows.length s h.kl (by have := h.k; omega) (by have := h.s; omega)
  have hc' : ¬ ((c : Int) = (most : Int)) := by omega
  have f1 : ∀ ks vs, fzd (knD true ks vs) = false := fun ks vs => by simp [knD]
  simp [b1_run, envR, exB, exS, evE, evalA, argN, argR, tstF, hc', setv, subE, ixN_nat hp, takeKid, hr, applyF, pull, push, f1, hd]
theorem t_run {G : Ctx} {o : Bool} {rows : List Rw} {vd : D} {most c : Nat} {s : Stt} : tstF (evE G t1_run) (envR o rows vd most s c) = .ok (decide (s.place < rows.length), envR o rows vd most s c) := by
  simp [tstF, t1_run, evE, envR]
def resR (o : Bool) (rows : List Rw) (vd : D) (most : Nat) (q : Stt × Bool × Nat) (c : Nat) (ff : Fl) : Prop := match q.2.1 with
  | true => ff = .nx (envR o rows vd most q.1 (c + q.2.2))
  | false => ∃ ρ, ff = .rt (.tup [.lst false (q.1.said.map .int), .str "tired", .int ((c + q.2.2 : Nat) : Int)]) ρ ∧ getv ρ 0 = some (.lst o (rows.map rowD)) ∧ getv ρ 1 = some vd ∧ getv ρ 2 = some (.int most)
theorem frzL_int {l : List Int} : frzL (l.map D.int) = l.map D.int := by
  induction l with
  | nil => rfl
  | cons a l ih => simp [ih]
theorem fzdL_int {l : List Int} : fzdL (l.map D.int) = true := by
  induction l with
  | nil => rfl
  | cons a l ih => simp [ih]
theorem run_loop {G : Ctx} (hD : SpDone (G.at 15)) {o : Bool} {rows : List Rw} {vd : D} {most : Nat} : ∀ (m : Nat) (s : Stt) (c n : Nat), c + m = most → m < n → Rm m s →
    ∃ ff, whlF (tstF (evE G t1_run)) (exB G b1_run) n (envR o rows vd most s c) = .ok ff ∧ resR o rows vd most (runM rows m s) c ff := by
  intro m
  induction m with
  | zero =>
    intro s c n hc hn h
    obtain ⟨n, rfl⟩ : ∃ k, n = k + 1 := ⟨n - 1, by omega⟩
    simp only [whlF, t_run, Out.bind_ok, runM]
    by_cases hp : s.place < rows.length
    · have hc' : c = most := by omega
      subst hc'
      refine ⟨.rt (.tup [.lst false (s.said.map .int), .str "tired", .int (c : Int)]) [some (.lst o (rows.map rowD)), some vd, some (.int c), some (knD true s.ks s.vs), some (.lst false (s.said.map .int)), some (.int s.place), some (.int c)], ?_, ?_⟩
      · rw [decide_eq_true hp]
        simp [b1_run, envR, exB, exS, evE, evalL, argN, tstF, frzL_int]
      · have : ¬ rows.length ≤ s.place := by omega
        simp only [resR, decide_eq_false this]
        exact ⟨[some (.lst o (rows.map rowD)), some vd, some (.int c), some (knD true s.ks s.vs), some (.lst false (s.said.map .int)), some (.int s.place), some (.int c)], by simp, rfl, rfl, rfl⟩
    · rw [decide_eq_false hp]
      have : rows.length ≤ s.place := by omega
      exact ⟨_, rfl, by simp [resR, this]⟩
  | succ m ih =>
    intro s c n hc hn h
    obtain ⟨n, rfl⟩ : ∃ k, n = k + 1 := ⟨n - 1, by omega⟩
    simp only [whlF, t_run, Out.bind_ok, runM]
    cases hr : rows[s.place]? with
    | none =>
      have hp : ¬ s.place < rows.length := by have := List.getElem?_eq_none_iff.mp hr; omega
      rw [decide_eq_false hp]
      exact ⟨_, rfl, by simp [resR]⟩
    | some r =>
      have hp : s.place < rows.length := (List.getElem?_eq_some_iff.mp hr).1
      rw [decide_eq_true hp]
      have hcm : c ≠ most := by omega
      rw [run_step hD hr hcm h]
      simp only [Out.bind_ok]
      obtain ⟨ff, h1, h2⟩ := ih (stepR rows.length r s) (c + 1) n (by omega) (by omega) h.step
      refine ⟨ff, h1, ?_⟩
      have ec : c + 1 + (runM rows m (stepR rows.length r s)).2.2 = c + ((runM rows m (stepR rows.length r s)).2.2 + 1) := by omega
      unfold resR at h2 ⊢
      rw [ec] at h2
      exact h2
/-- the start -/
def stt0 (ks : List KD) (vs : List Int) : Stt := ⟨0, ks, vs, []⟩
/-- what run tells -/
def toldD (q : Stt × Bool × Nat) : D := .tup [.lst false (q.1.said.map .int), .str (if q.2.1 then "end" else "tired"), .int (q.2.2 : Int)]
def SpRun (F : Sem') : Prop := ∀ (o o' : Bool) (rows : List Rw) (ks : List KD) (vs : List Int) (most : Nat), OkRows rows → KL ks → ks.length + most < lim → most < 1000000 →
  F [.lst o (rows.map rowD), knD o' ks vs, .int most] = .ok (toldD (runM rows most (stt0 ks vs)), [some (.lst o (rows.map rowD)), some (knD o' ks vs), some (.int most)])
theorem ex_whlS {G : Ctx} {c : E} {a : List S} {ρ : Env} : exS G (.whl c a) ρ = whlF (tstF (evE G c)) (exB G a) fuel ρ := by rw [ex_whl]
theorem m_run (G : Ctx) (hN : SpNeed (G.at 12)) (hD : SpDone (G.at 15)) : SpRun (d_run.run G) := fun o o' rows ks vs most ok hk hl hm => by
  have e1 : applyF (G.at 12) [.inr 0] [some (.lst o (rows.map rowD)), some (knD o' ks vs), some (.int most), none, none, none, none] = .ok (.non, [some (.lst o (rows.map rowD)), some (knD o' ks vs), some (.int most), none, none, none, none]) := by
    have h0 := hN o rows ok
    cases o with
    | true => simp [applyF, pull, h0, push]
    | false => simp [applyF, pull, h0, push, fzdL_rows]
  have kli : ks.all (·.isLeft) = true := List.all_eq_true.mpr hk
  have e2 : c1D .dict (knD o' ks vs) = .ok (knD true ks vs) := by
    simp only [knD, c1_dictD, fzdL_int, kli, Bool.and_self, Out.guard_true]
  obtain ⟨ff, h1, h2⟩ := run_loop (G := G) hD (o := o) (rows := rows) (vd := knD o' ks vs) (most := most) most (stt0 ks vs) 0 fuel (by omega) (by unfold fuel; omega) ⟨hk, hl, by simp [stt0, lim]; omega⟩
  have h1' : exS G l1_run [some (.lst o (rows.map rowD)), some (knD o' ks vs), some (.int most), some (knD true ks vs), some (.lst true []), some (.int 0), some (.int 0)] = .ok ff := by
    rw [l1_run, ex_whlS]; exact h1
  have ha : asgs d_run.body = [3, 4, 5, 6, 6, 5] := rfl
  unfold resR at h2
  unfold toldD
  split at h2
  · rename_i e
    subst h2
    rw [e]
    simp only [Df.run, ha, endF]
    simp [d_run, exB, exS, evE, evalL, evalA, argN, argR, setv, e1, e2, h1', envR, frzL_int]
  · rename_i e
    obtain ⟨ρ, rfl, g0, g1, g2⟩ := h2
    rw [e]
    simp only [Df.run, ha, endF]
    simp [d_run, exB, exS, evE, evalL, evalA, argN, argR, setv, e1, e2, h1', g0, g1, g2]
end VL
/-! mirrors, part 4: the law's own run, what it tells -/
namespace VL
open PySem PySem.Spec L2
def envL2 (o : Bool) (rows : List Rw) (vd : D) (most : Nat) (s : Stt) (c : Nat) (a b : Option D) : Env := [some (.lst o (rows.map rowD)), some vd, some (.int most), some (knD true s.ks s.vs), some (.lst true (s.said.map .int)), some (.int s.place), some (.int c), a, b, none]
theorem c_law_run {G : Ctx} (hA : SpAsked (G.at 19)) {o : Bool} {rows : List Rw} {vd : D} {most c : Nat} {s : Stt} {r : Rw} {b : Option D} (h : KL s.ks) :
    evE G c1__law_run (envL2 o rows vd most s c (some (rowD r)) b) = .ok (.lst true (r.ops.map fun a => D.int (kval s.ks s.vs a)), envL2 o rows vd most s c (some (rowD r)) b) := by
  have e1 : evalIt G (.seq (.call 19 [.rf 7])) (envL2 o rows vd most s c (some (rowD r)) b) = .ok ((r.ops.map opD, none), envL2 o rows vd most s c (some (rowD r)) b) := by
    have : applyF (G.at 19) [.inr 7] (envL2 o rows vd most s c (some (rowD r)) b) = .ok (.lst true (r.ops.map opD), envL2 o rows vd most s c (some (rowD r)) b) := applyRf rfl (by simp) (hA r)
    have g7 : getv (envL2 o rows vd most s c (some (rowD r)) b) 7 = some (rowD r) := rfl
    simp [evalIt, itSeq, evE, evalA, argR, g7, this, seqsD, frzL_ops]
  have hw : wipeE (envL2 o rows vd most s c (some (rowD r)) b) [9] = envL2 o rows vd most s c (some (rowD r)) b := rfl
  have e2 := lcn_all (own := [9]) (g := .one 9) (el := evE G (.ite (.isi (.bnm 9) .int) (.nm 9) (.get2 (.lnm 3) (.nm 9) (.ci 0)))) (w := ((r.ops.map opD, none), envL2 o rows vd most s c (some (rowD r)) b)) (fun d => match d with
      | .str x => D.int (kget s.ks s.vs x)
      | d => d)
    (by show (List.map _ _).length < lim; rw [List.length_map]; exact Nat.lt_of_le_of_lt ops_len (by decide)) (fun ρ _ => rfl) (fun d hd => by
      obtain ⟨a, ha, rfl⟩ := List.mem_map.mp hd
      refine ⟨(envL2 o rows vd most s c (some (rowD r)) b).set 9 (some (opD a)), rfl, (envL2 o rows vd most s c (some (rowD r)) b).set 9 (some (opD a)), ?_, rfl⟩
      cases a with
      | inl i => simp [evE, envL2, isiD, isiOk]
      | inr x =>
        have e8 := getD_kn (o := true) (vs := s.vs) h x
        have e7 : isD (knD true s.ks s.vs) = true := rfl
        simp [evE, envL2, isiD, isiOk, e8, e7])
  rw [c1__law_run, ev_lcn, e1]
  simp only [Out.bind_ok]
  rw [e2]
  simp only [List.map_map]
  refine congrArg (fun l => Out.ok (D.lst true l, _)) (List.map_congr_left fun a _ => ?_)
  cases a <;> rfl
theorem law_step {G : Ctx} (hA : SpAsked (G.at 19)) {o : Bool} {rows : List Rw} {vd : D} {most m c : Nat} {s : Stt} {r : Rw} {a b : Option D} (hr : rows[s.place]? = some r) (h : Rm (m + 1) s) :
    ∃ a' b', exB G b1__law_run (envL2 o rows vd most s c a b) = .ok (.nx (envL2 o rows vd most (stepR rows.length r s) (c + 1) a' b')) := by
  have hp : s.place < rows.length := (List.getElem?_eq_some_iff.mp hr).1
  obtain ⟨place, ks, vs, said⟩ := s
  simp only at hr hp
  have hl : ks.length < lim := by have := h.k; simp only at this; omega
  have hs : said.length < lim := by have := h.s; simp only at this; omega
  have e3 := fun x v => put_kn (vs := vs) (ks := ks) h.kl hl x v
  have e0 := fun (b : Option D) => c_law_run (o := o) (rows := rows) (vd := vd) (most := most) (c := c + 1) (r := r) (b := b) hA (s := ⟨place, ks, vs, said⟩) h.kl
  simp only [envL2] at e0
  have h1 : exS G (.set 7 (.sub (.lnm 0) (.nm 5))) (envL2 o rows vd most ⟨place, ks, vs, said⟩ c a b) = .ok (.nx (envL2 o rows vd most ⟨place, ks, vs, said⟩ c (some (rowD r)) b)) := by
    simp [exS, evE, envL2, subE, ixN_nat hp, takeKid, hr, setv]
  have h0 : ∀ {ρ : Env} {st : S} {rest : List S}, exB G (st :: rest) ρ = seqF (exS G st ρ) (exB G rest) := fun {ρ st rest} => by simp only [exB]
  rw [b1__law_run, h0, h1]
  simp only [seqF_nx, envL2]
  clear h1
  cases r with
  | ar k x p q => cases k <;> simp [rowD, Ar.kd, Rw.ops] at e0 <;> simp [exB, exS, evE, argN, tstF, setv, subE, takeKid, k_set, k_add, k_sub, k_less, k_say, k_nought, k_jump, k_stop, ixN, Ar.kd, rowD, e0, pathE, mendE, mend, P.slot, e3, stepR, worthOf]
  | st x p => simp [rowD, Rw.ops] at e0; simp [exB, exS, evE, argN, tstF, setv, subE, takeKid, k_set, k_add, k_sub, k_less, k_say, k_nought, k_jump, k_stop, ixN, rowD, e0, pathE, mendE, mend, P.slot, e3, stepR, worthOf]
  | say p => simp [rowD, Rw.ops] at e0; simp [exB, exS, evE, argN, tstF, setv, subE, takeKid, k_set, k_add, k_sub, k_less, k_say, k_nought, k_jump, k_stop, ixN, rowD, e0, pathE, mendE, mend, P.slot, stepR, worthOf, nodeAt, nodeOk, moD, appD, hs]
  | nought p g =>
    simp [rowD, Rw.ops] at e0
    by_cases hz : kval ks vs p = 0
    · simp [exB, exS, evE, argN, tstF, setv, subE, takeKid, k_set, k_add, k_sub, k_less, k_say, k_nought, k_jump, k_stop, ixN, rowD, e0, stepR, worthOf, hz]
    · simp [exB, exS, evE, argN, tstF, setv, subE, takeKid, k_set, k_add, k_sub, k_less, k_say, k_nought, k_jump, k_stop, ixN, rowD, e0, stepR, worthOf, hz]
  | _ =>
    simp [rowD, Rw.ops] at e0; simp [exB, exS, evE, argN, tstF, setv, subE, takeKid, k_set, k_add, k_sub, k_less, k_say, k_nought, k_jump, k_stop, ixN, rowD, e0, stepR, worthOf]
theorem t_law {G : Ctx} {o : Bool} {rows : List Rw} {vd : D} {most c : Nat} {s : Stt} {a b : Option D} : tstF (evE G t1__law_run) (envL2 o rows vd most s c a b) = .ok (decide (s.place < rows.length ∧ c < most), envL2 o rows vd most s c a b) := by
  by_cases h1 : s.place < rows.length
  · by_cases h2 : c < most <;> simp [tstF, t1__law_run, evE, envL2, h1, h2]
  · simp [tstF, t1__law_run, evE, envL2, h1]
theorem law_loop {G : Ctx} (hA : SpAsked (G.at 19)) {o : Bool} {rows : List Rw} {vd : D} {most : Nat} : ∀ (m : Nat) (s : Stt) (c n : Nat) (a b : Option D), c + m = most → m < n → Rm m s →
    ∃ a' b', whlF (tstF (evE G t1__law_run)) (exB G b1__law_run) n (envL2 o rows vd most s c a b) = .ok (.nx (envL2 o rows vd most (runM rows m s).1 (c + (runM rows m s).2.2) a' b')) ∧ ((runM rows m s).2.1 = decide (rows.length ≤ (runM rows m s).1.place)) := by
  intro m
  induction m with
  | zero =>
    intro s c n a b hc hn h
    obtain ⟨n, rfl⟩ : ∃ k, n = k + 1 := ⟨n - 1, by omega⟩
    have : ¬ (s.place < rows.length ∧ c < most) := by omega
    simp only [whlF, t_law, Out.bind_ok, runM]
    rw [decide_eq_false this]
    exact ⟨a, b, rfl, rfl⟩
  | succ m ih =>
    intro s c n a b hc hn h
    obtain ⟨n, rfl⟩ : ∃ k, n = k + 1 := ⟨n - 1, by omega⟩
    simp only [whlF, t_law, Out.bind_ok]
    cases hr : rows[s.place]? with
    | none =>
      have eM : runM rows (m + 1) s = (s, true, 0) := by simp only [runM, hr]
      rw [eM]
      have hp : rows.length ≤ s.place := List.getElem?_eq_none_iff.mp hr
      have : ¬ (s.place < rows.length ∧ c < most) := by omega
      rw [decide_eq_false this]
      exact ⟨a, b, rfl, by simp [hp]⟩
    | some r =>
      have eM : runM rows (m + 1) s = ((runM rows m (stepR rows.length r s)).1, (runM rows m (stepR rows.length r s)).2.1, (runM rows m (stepR rows.length r s)).2.2 + 1) := by simp only [runM, hr]
      rw [eM]
      have hp : s.place < rows.length := (List.getElem?_eq_some_iff.mp hr).1
      have : s.place < rows.length ∧ c < most := by omega
      rw [decide_eq_true this]
      obtain ⟨a1, b1, h1⟩ := law_step hA (o := o) (vd := vd) (most := most) (c := c) (a := a) (b := b) hr h
      rw [h1]
      simp only [Out.bind_ok]
      obtain ⟨a2, b2, h2, h3⟩ := ih (stepR rows.length r s) (c + 1) n a1 b1 (by omega) (by omega) h.step
      have ec : c + 1 + (runM rows m (stepR rows.length r s)).2.2 = c + ((runM rows m (stepR rows.length r s)).2.2 + 1) := by omega
      rw [ec] at h2
      exact ⟨a2, b2, h2, h3⟩
/-- places never pass the end -/
theorem place_le {rows : List Rw} (ok : OkRows rows) : ∀ (m : Nat) (s : Stt), s.place ≤ rows.length → (runM rows m s).1.place ≤ rows.length
  | 0, s, h => h
  | m + 1, s, h => by
    unfold runM
    cases hr : rows[s.place]? with
    | none => exact h
    | some r =>
      have hp : s.place < rows.length := (List.getElem?_eq_some_iff.mp hr).1
      have hg := (ok r (List.mem_of_getElem? hr)).2
      refine place_le ok m _ ?_
      cases r with
      | nought a g =>
        have : g ≤ rows.length := hg
        by_cases hz : kval s.ks s.vs a = 0 <;> simp [stepR, hz] <;> omega
      | jump g => exact hg
      | stop => exact Nat.le_refl _
      | _ => simp only [stepR]; omega
def SpLRun (F : Sem') : Prop := ∀ (o o' : Bool) (rows : List Rw) (ks : List KD) (vs : List Int) (most : Nat), OkRows rows → KL ks → ks.length + most < lim → most < 1000000 →
  F [.lst o (rows.map rowD), knD o' ks vs, .int most] = .ok (toldD (runM rows most (stt0 ks vs)), [some (.lst o (rows.map rowD)), some (knD o' ks vs), some (.int most)])
theorem m_law_run (G : Ctx) (hA : SpAsked (G.at 19)) : SpLRun (d__law_run.run G) := fun o o' rows ks vs most ok hk hl hm => by
  have kli : ks.all (·.isLeft) = true := List.all_eq_true.mpr hk
  have e2 : c1D .dict (knD o' ks vs) = .ok (knD true ks vs) := by
    simp only [knD, c1_dictD, fzdL_int, kli, Bool.and_self, Out.guard_true]
  obtain ⟨a, b, h1, h2⟩ := law_loop (G := G) hA (o := o) (rows := rows) (vd := knD o' ks vs) (most := most) most (stt0 ks vs) 0 fuel none none (by omega) (by unfold fuel; omega) ⟨hk, hl, by simp [stt0, lim]; omega⟩
  have h1' : exS G l1__law_run [some (.lst o (rows.map rowD)), some (knD o' ks vs), some (.int most), some (knD true ks vs), some (.lst true []), some (.int 0), some (.int 0), none, none, none] = .ok (.nx (envL2 o rows (knD o' ks vs) most (runM rows most (stt0 ks vs)).1 (0 + (runM rows most (stt0 ks vs)).2.2) a b)) := by
    rw [l1__law_run, ex_whlS]; exact h1
  have hple := place_le ok most (stt0 ks vs) (Nat.zero_le _)
  have ha : asgs d__law_run.body = [3, 4, 5, 6, 7, 6, 8, 5, 5, 5, 5] := rfl
  have e6 : (((runM rows most (stt0 ks vs)).1.place : Int) = (rows.length : Int)) ↔ (runM rows most (stt0 ks vs)).2.1 = true := by
    rw [h2, decide_eq_true_iff]; omega
  unfold toldD
  cases e : (runM rows most (stt0 ks vs)).2.1 with
  | true =>
    have e7 := e6.mpr e
    simp only [Df.run, ha, endF]
    simp [d__law_run, exB, exS, evE, evalL, argN, setv, e2, h1', envL2, frzL_int, e7]
  | false =>
    have e7 : ¬ (((runM rows most (stt0 ks vs)).1.place : Int) = (rows.length : Int)) := fun z => by have := e6.mp z; rw [e] at this; cases this
    simp only [Df.run, ha, endF]
    simp [d__law_run, exB, exS, evE, evalL, argN, setv, e2, h1', envL2, frzL_int, e7]
end VL
/-! mirrors, part 5: what is told; the makers of rows -/
namespace VL
open PySem PySem.Spec L2
def isLnm : E → Bool
  | .lnm _ => true
  | _ => false
theorem argN_def {a : E} {f : Env → Out (D × Env)} {ρ : Env} (h : isLnm a = false) : argN a f ρ = (f ρ).bind fun x => .ok (.inl x.1, x.2) := by
  cases a <;> first
    | rfl
    | (simp [isLnm] at h; done)
theorem eqv_refl {a : D} : eqv a a = true := eqv_iff.mpr rfl
theorem eqD_tup {l m : List D} : eqD (.tup l) (.tup m) = Out.guard (flat (.tup l) && flat (.tup m) || plain (.tup l) && plain (.tup m)) (.ok (eqv (.tup l) (.tup m))) := by unfold eqD; rfl
theorem eqD_lst {o p : Bool} {l m : List D} : eqD (.lst o l) (.lst p m) = Out.guard (flat (.lst o l) && flat (.lst p m) || plain (.lst o l) && plain (.lst p m)) (.ok (eqv (.lst o l) (.lst p m))) := by unfold eqD; rfl
theorem pl_int {n : Nat} {i : Int} : pl n (.int i) = true := by cases n <;> rfl
theorem pl_ints {n : Nat} {l : List Int} : (l.map D.int).all (pl n) = true := by
  induction l with
  | nil => rfl
  | cons a l ih => simp [pl_int, ih]
theorem ok_end : PyData.strOk "end" = true := by decide +kernel
theorem ok_tired : PyData.strOk "tired" = true := by decide +kernel
theorem plain_told {q : Stt × Bool × Nat} : plain (toldD q) = true := by
  unfold plain toldD
  cases h : q.2.1 <;> simp [pl, pl_ints, ok_end, ok_tired]
theorem eq_told {q : Stt × Bool × Nat} : eqD (toldD q) (toldD q) = .ok true := by
  have h := plain_told (q := q)
  unfold toldD at h ⊢
  rw [eqD_tup, h, eqv_refl]; simp
def SpTold (F : Sem') : Prop := ∀ q : Stt × Bool × Nat, q.1.said.length < lim → F [toldD q, toldD q] = .ok (.bl true, [some (toldD q), some (toldD q)])
theorem fzd_told {q : Stt × Bool × Nat} : fzd (toldD q) = true := by simp [toldD, fzdL_int]
theorem plain_nil {o : Bool} : plain (.lst o []) = true := by simp [plain, pl]
theorem m_told (G : Ctx) (hW : SpWhole (G.at 17)) : SpTold (d__law_told.run G) := fun q hlen => by
  have e0 : evalIt G (.seq (.sub (.lnm 0) (.ci 0))) [some (toldD q), some (toldD q), none] = .ok ((q.1.said.map .int, none), [some (toldD q), some (toldD q), none]) := by
    simp [evalIt, itSeq, evE, argN, toldD, subE, takeKid, ixN, fzdL_int, seqsD, frzL_int]
  have ew : ∀ (i : Int) (x : Option D), applyF (G.at 17) [.inl (.int i)] [some (toldD q), some (toldD q), x] = .ok (.bl true, [some (toldD q), some (toldD q), x]) := fun i x => by
    have := hW (.inl i)
    simp at this
    simp [applyF, pull, this, push]
  have ew2 : ∀ (i : Int), applyF (G.at 17) [.inr 2] [some (toldD q), some (toldD q), some (.int i)] = .ok (.bl true, [some (toldD q), some (toldD q), some (.int i)]) := fun i => applyRf rfl rfl (by have := hW (.inl i); simpa using this)
  have e1 : evE G c1__law_told [some (toldD q), some (toldD q), none] = .ok (.lst true [], [some (toldD q), some (toldD q), none]) := by
    have e2 := lc_all (own := [2]) (g := .one 2) (t := tstF (evE G (.not_ (.call 17 [(.rf 2)])))) (el := evE G (.nm 2)) (w := ((q.1.said.map .int, none), [some (toldD q), some (toldD q), none])) (fun _ => false) (fun d => d)
      (by simpa using hlen) (fun ρ _ => rfl) (fun d hd => by
        obtain ⟨i, hi, rfl⟩ := List.mem_map.mp hd
        refine ⟨[some (toldD q), some (toldD q), some (.int i)], [some (toldD q), some (toldD q), some (.int i)], by simp [asgT, setv, wipeE], ?_, by simp [wipeE]⟩
        simp [tstF, evE, evalA, argR, ew2])
    rw [c1__law_told, ev_lc, e0]
    simp only [Out.bind_ok]
    rw [e2]
    simp
  have ee := eq_told (q := q)
  have e6 : eqD (.lst true []) (.lst true []) = .ok true := by rw [eqD_lst, plain_nil, eqv_refl]; simp
  have e7 : plain (.lst true []) = true := plain_nil
  unfold toldD at ee e1 ew ⊢
  have hl : isLnm c1__law_told = false := rfl
  have hb : ∀ n, isLnm (.b1 .len (.bnm n)) = false := fun _ => rfl
  simp only [Df.run, d__law_told, exB, exS, evE, evalL, evalA, argN_lnm, argN_def hl, argN_def (hb _), argR, endF, asgs, S.asg, tstF]
  simp [subE, takeKid, ixN, isiD, isiOk, fzdL_int, ee, e1, ew, e6]
end VL
/-! mirrors, part 6: the makers of rows -/
namespace VL
open PySem PySem.Spec L2
def cell (ns : List Int) (j : Nat) : Int := (ns[j]?).getD 0
def SpCell (F : Sem') : Prop := ∀ (ns : List Int) (i : Int) (j : Nat), i = (j : Int) → F [.scr ns, .int i] = .ok (.int (cell ns j), [some (.scr ns), some (.int i)])
theorem m_cell (G : Ctx) : SpCell (d__law_cell_at.run G) := fun ns i j h => by
  subst h
  by_cases hj : j < ns.length
  · have e : ixD ns (j : Int) = some ns[j] := by unfold ixD atI; rw [ixN_nat hj]; simp [hj]
    simp [Df.run, d__law_cell_at, exB, exS, evE, argN, tstF, endF, asgs, S.asg, hj, subE, e, cell]
  · have e : ns[j]? = none := List.getElem?_eq_none_iff.mpr (by omega)
    simp [Df.run, d__law_cell_at, exB, exS, evE, argN, tstF, endF, asgs, S.asg, hj, cell, e]
def sizeBy (c : Int) : Nat := if c / 9 % 6 = 1 then (10 + c / 54 % 4).toNat else (c % 10).toNat
def SpSize (F : Sem') : Prop := ∀ c : Int, F [.int c] = .ok (.int (sizeBy c), [some (.int c)])
theorem m_size (G : Ctx) : SpSize (d__law_size_by.run G) := fun c => by
  by_cases h : c / 9 % 6 = 1
  · have e : ((sizeBy c : Nat) : Int) = 10 + c / 54 % 4 := by unfold sizeBy; rw [if_pos h]; omega
    simp [Df.run, d__law_size_by, exB, exS, evE, argN, tstF, endF, asgs, S.asg, h, e]
  · have e : ((sizeBy c : Nat) : Int) = c % 10 := by unfold sizeBy; rw [if_neg h]; omega
    simp [Df.run, d__law_size_by, exB, exS, evE, argN, tstF, endF, asgs, S.asg, h, e]
theorem size_le (c : Int) : sizeBy c ≤ 13 := by unfold sizeBy; split <;> omega
/-! ### operands -/
def operandBy (n : Nat) (names : List Str) : Key :=
  if n % 4 < 3 then .inr (names.getD (n / 4 % names.length) "")
  else if n / 4 % 5 = 1 then .inl ((if n / 20 % 2 = 0 then 1 else -1) * (10 ^ 20 + ((n / 40 % 9 : Nat) : Int)))
  else .inl (((n / 20 % 7 : Nat) : Int) - 3)
def SpOper (F : Sem') : Prop := ∀ (i : Int) (n : Nat) (o : Bool) (names : List Str), i = (n : Int) → 0 < names.length → names.length ≤ 1000 → F [.int i, .lst o (names.map .str)] = .ok (opD (operandBy n names), [some (.int i), some (.lst o (names.map .str))])
theorem fzdL_strs {l : List Str} : fzdL (l.map D.str) = true := by
  induction l with
  | nil => rfl
  | cons a l ih => simp [ih]
theorem frzL_strs {l : List Str} : frzL (l.map D.str) = l.map D.str := by
  induction l with
  | nil => rfl
  | cons a l ih => simp [ih]
theorem sub_strs {ρ : Env} {k : Nat} {o : Bool} {names : List Str} {i : Int} {j : Nat} (hg : getv ρ k = some (.lst o (names.map .str))) (hi : i = (j : Int)) (hj : j < names.length) : subE ρ k (.int i) = .ok (.str (names.getD j ""), ρ) := by
  subst hi
  unfold subE
  rw [hg]
  simp [ixN_nat hj, takeKid, List.getElem?_eq_getElem hj]
theorem m_operand (G : Ctx) : SpOper (d__law_operand_by.run G) := fun i n o names hi h0 h1 => by
  subst hi
  have hlen : (0 : Int) < (names.length : Int) := by omega
  by_cases h : n % 4 < 3
  · have h' : (n : Int) % 4 < 3 := by omega
    have hs := sub_strs (ρ := [some (.int (n : Int)), some (.lst o (names.map .str))]) (k := 1) (o := o) (names := names) (i := (n : Int) / 4 % (names.length : Int)) (j := n / 4 % names.length) rfl (by simp) (Nat.mod_lt _ h0)
    simp [Df.run, d__law_operand_by, exB, exS, evE, argN, tstF, endF, asgs, S.asg, h', h0, hlen, hs, operandBy, h]
  · have h' : ¬ (n : Int) % 4 < 3 := by omega
    by_cases h2 : n / 4 % 5 = 1
    · have h2' : (n : Int) / 4 % 5 = 1 := by omega
      by_cases h3 : n / 20 % 2 = 0
      · have h3' : (n : Int) / 20 % 2 = 0 := by omega
        simp [Df.run, d__law_operand_by, exB, exS, evE, evalL, argN, tstF, endF, asgs, S.asg, h', h2', h3', ixN, operandBy, h, h2, h3]
      · have h3' : (n : Int) / 20 % 2 = 1 := by omega
        simp [Df.run, d__law_operand_by, exB, exS, evE, evalL, argN, tstF, endF, asgs, S.asg, h', h2', h3', ixN, operandBy, h, h2, h3]
    · have h2' : ¬ (n : Int) / 4 % 5 = 1 := by omega
      simp [Df.run, d__law_operand_by, exB, exS, evE, argN, tstF, endF, asgs, S.asg, h', h2', operandBy, h, h2]
end VL
/-! mirrors, part 7: a row by a number -/
namespace VL
open PySem PySem.Spec L2
def rowBy (n : Nat) (names : List Str) (size : Nat) : Rw :=
  let name := names.getD (n / 9 % names.length) ""
  let one := operandBy (n / 27 % 4177) names
  let other := operandBy (n / 32 % 4159) names
  let goal := n / 64 % 5003 % (size + 1)
  if n % 9 < 2 then .st name one
  else if n % 9 < 5 then .ar (if n % 9 = 2 then .add else if n % 9 = 3 then .sub else .less) name one other
  else if n % 9 = 5 then .say one
  else if n % 9 = 6 then (if n / 27 % 4 = 1 then .stop else if n / 27 % 4 = 3 then .say one else .jump goal)
  else .nought one goal
theorem apply2 {F : Sem'} {ρ : Env} {i : Nat} {d e r : D} (hd : getv ρ i = some d) (h : F [e, d] = .ok (r, [some e, some d])) : applyF F [.inl e, .inr i] ρ = .ok (r, ρ) := by
  have hs : (ρ.set i none).set i (some d) = ρ := by rw [List.set_set]; exact set_self hd
  by_cases hf : fzd d = true
  · simp [applyF, pull, hd, hf, h, push]
  · simp [applyF, pull, hd, hf, h, push, hs]
def SpRowBy (F : Sem') : Prop := ∀ (i : Int) (n : Nat) (o : Bool) (names : List Str) (size : Nat), i = (n : Int) → 0 < names.length → names.length ≤ 1000 →
  F [.int i, .lst o (names.map .str), .int size] = .ok (rowD (rowBy n names size), [some (.int i), some (.lst o (names.map .str)), some (.int size)])
theorem m_row_by (G : Ctx) (hO : SpOper (G.at 4)) : SpRowBy (d__law_row_by.run G) := fun i n o names size hi h0 h1 => by
  subst hi
  have hs := sub_strs (ρ := [some (.int (n : Int)), some (.lst o (names.map .str)), some (.int size), none, none, none, none, none]) (k := 1) (o := o) (names := names) (i := (n : Int) / 9 % (names.length : Int)) (j := n / 9 % names.length) rfl (by simp) (Nat.mod_lt _ h0)
  have a1 : ∀ x : Option D, applyF (G.at 4) [.inl (.int ((n : Int) / 27 % 4177)), .inr 1] [some (.int (n : Int)), some (.lst o (names.map .str)), some (.int size), x, none, none, none, none] = .ok (opD (operandBy (n / 27 % 4177) names), [some (.int (n : Int)), some (.lst o (names.map .str)), some (.int size), x, none, none, none, none]) :=
    fun x => apply2 rfl (hO _ (n / 27 % 4177) o names (by simp) h0 h1)
  have a2 : ∀ x y : Option D, applyF (G.at 4) [.inl (.int ((n : Int) / 32 % 4159)), .inr 1] [some (.int (n : Int)), some (.lst o (names.map .str)), some (.int size), x, y, none, none, none] = .ok (opD (operandBy (n / 32 % 4159) names), [some (.int (n : Int)), some (.lst o (names.map .str)), some (.int size), x, y, none, none, none]) :=
    fun x y => apply2 rfl (hO _ (n / 32 % 4159) o names (by simp) h0 h1)
  have hsz : (0 : Int) < (size : Int) + 1 := by omega
  have hg : (n : Int) / 64 % 5003 % ((size : Int) + 1) = ((n / 64 % 5003 % (size + 1) : Nat) : Int) := by simp
  have hA : asgs d__law_row_by.body = [3, 4, 5, 6, 7] := rfl
  have hk : (n : Int) % 9 = ((n % 9 : Nat) : Int) := by simp
  have h9 : n % 9 < 9 := Nat.mod_lt _ (by decide)
  have hq : (n : Int) / 27 % 4 = ((n / 27 % 4 : Nat) : Int) := by simp
  have h4 : n / 27 % 4 < 4 := Nat.mod_lt _ (by decide)
  simp only [Df.run, hA, endF]
  unfold rowBy
  simp only [d__law_row_by, exB, exS, evE, evalL, evalA, argN_lnm, argN, argR]
  generalize operandBy (n / 27 % 4177) names = one at *
  generalize operandBy (n / 32 % 4159) names = other at *
  generalize names.getD (n / 9 % names.length) "" = name at *
  generalize n / 64 % 5003 % (size + 1) = goal at *
  simp [setv, h0, hs, a1, a2, hsz, hg, tstF]
  have cs : n % 9 = 0 ∨ n % 9 = 1 ∨ n % 9 = 2 ∨ n % 9 = 3 ∨ n % 9 = 4 ∨ n % 9 = 5 ∨ n % 9 = 6 ∨ n % 9 = 7 ∨ n % 9 = 8 := by omega
  rcases cs with c | c | c | c | c | c | c | c | c
  · have c' : (n : Int) % 9 = 0 := by omega
    simp [c, c', rowD, k_set]
  · have c' : (n : Int) % 9 = 1 := by omega
    simp [c, c', rowD, k_set]
  · have c' : (n : Int) % 9 = 2 := by omega
    simp [c, c', rowD, k_add, Ar.kd, ixN]
  · have c' : (n : Int) % 9 = 3 := by omega
    simp [c, c', rowD, k_sub, Ar.kd, ixN]
  · have c' : (n : Int) % 9 = 4 := by omega
    simp [c, c', rowD, k_less, Ar.kd, ixN]
  · have c' : (n : Int) % 9 = 5 := by omega
    simp [c, c', rowD, k_say]
  · have c' : (n : Int) % 9 = 6 := by omega
    have cs : n / 27 % 4 = 0 ∨ n / 27 % 4 = 1 ∨ n / 27 % 4 = 2 ∨ n / 27 % 4 = 3 := by omega
    rcases cs with q | q | q | q
    · have q' : (n : Int) / 27 % 4 = 0 := by omega
      simp [c, c', q, q', rowD, k_say, k_jump, k_stop, ixN]
    · have q' : (n : Int) / 27 % 4 = 1 := by omega
      simp [c, c', q, q', rowD, k_say, k_jump, k_stop, ixN]
    · have q' : (n : Int) / 27 % 4 = 2 := by omega
      simp [c, c', q, q', rowD, k_say, k_jump, k_stop, ixN]
    · have q' : (n : Int) / 27 % 4 = 3 := by omega
      simp [c, c', q, q', rowD, k_say, k_jump, k_stop, ixN]
  · have c' : (n : Int) % 9 = 7 := by omega
    simp [c, c', rowD, k_nought]
  · have c' : (n : Int) % 9 = 8 := by omega
    simp [c, c', rowD, k_nought]
end VL
/-! mirrors, part 8: texts; the makers of names -/
namespace VL
open PySem PySem.Spec L2
def sx (l : List Nat) : Str := ⟨l.toArray⟩
@[simp] theorem sx_list {l : List Nat} : (sx l).cps.toList = l := by simp [sx]
@[simp] theorem sx_len {l : List Nat} : (sx l).length = l.length := by simp [sx, Str.length]
theorem sx_app {a b : List Nat} : sx a ++ sx b = sx (a ++ b) := by
  show Str.append _ _ = _
  simp [sx, Str.append]
theorem sx_one {c : Nat} : (⟨#[c]⟩ : Str) = sx [c] := rfl
theorem sx_inj {a b : List Nat} (h : sx a = sx b) : a = b := by
  have := congrArg (fun s => s.cps.toList) h
  simpa using this
theorem sx_cut {l : List Nat} {lo hi : Option Int} : cutS (sx l) lo hi = sx (cutD l lo hi) := by
  unfold cutS cutD
  simp [sx, Str.length]
theorem letters_sx : Str.ofString "abcdefghijklmnopqrstuvwxyz" = sx ((List.range 26).map (· + 97)) := by decide +kernel
theorem occ_letters : ∀ i < 26, Builtin.Str.occurrences (Str.ofString "abcdefghijklmnopqrstuvwxyz") (sx [i + 97]) 0 26 1 = [i] := by decide +kernel
theorem empty_sx : Str.ofString "" = sx [] := by decide +kernel
theorem join_empty : ∀ l : List (List Nat), joinS (Str.ofString "") (l.map sx) = sx l.flatten := by
  intro l
  unfold joinS
  rw [TL.join_eq, empty_sx]
  induction l with
  | nil => rfl
  | cons a l ih =>
    cases l with
    | nil => simp [Str.join]
    | cons b l =>
      have e : Str.join (sx []) ((a :: b :: l).map sx) = sx a ++ sx [] ++ Str.join (sx []) ((b :: l).map sx) := rfl
      rw [e, ih, sx_app, sx_app]
      simp
end VL
/-! mirrors, part 9: the makers of names -/
namespace VL
open PySem PySem.Spec L2
def abc : Str := Str.ofString "abcdefghijklmnopqrstuvwxyz"
theorem sub_letter {i : Int} (h0 : 0 ≤ i) (h1 : i < 26) : subD (.str abc) (.int i) = .ok (.str (sx [i.toNat + 97])) := by
  have hl : abc.length ≤ lim := by unfold abc; rw [letters_sx]; simp [lim]
  have hi : i.toNat < 26 := by omega
  have hx : ixD abc.cps.toList i = some (i.toNat + 97) := by
    have e : ((List.range 26).map (· + 97))[i.toNat]? = some (i.toNat + 97) := by rw [List.getElem?_map, List.getElem?_range hi]; rfl
    have l26 : ((List.range 26).map (· + 97)).length = 26 := by rw [List.length_map, List.length_range]
    unfold ixD atI abc
    rw [letters_sx, sx_list, l26]
    have n : ixN 26 i = some i.toNat := by unfold ixN; rw [if_pos h0, if_pos (by omega)]
    rw [n]
    exact e
  rw [sub_str, decide_eq_true hl, Out.guard_true, hx]
  rfl
def baseOf (c : Int) : List Nat := (List.range (1 + c % 7).toNat).map fun (k : Nat) => (mixed (c / 7) (k : Int) % 26).toNat + 97
def atOf (c : Int) : Nat := (c / 7 % (1 + c % 7)).toNat
def namesC (c : Int) : List (List Nat) :=
  (List.range (2 + c / 49 % 3).toNat).map (fun k => (baseOf c).take (atOf c) ++ [((baseOf c).getD (atOf c) 97 - 97 + k) % 26 + 97] ++ (baseOf c).drop (atOf c + 1)) ++ [baseOf c ++ [(c / 147 % 26).toNat + 97]]
def SpMixed (F : Sem') : Prop := ∀ c k : Int, F [.int c, .int k] = .ok (.int (mixed c k), [some (.int c), some (.int k)])
theorem base_len (c : Int) : (baseOf c).length = (1 + c % 7).toNat := by simp [baseOf]
theorem at_lt (c : Int) : atOf c < (baseOf c).length := by
  rw [base_len]; unfold atOf
  have h : 0 < 1 + c % 7 := by omega
  have := Int.emod_lt_of_pos (c / 7) h
  have := Int.emod_nonneg (c / 7) (show 1 + c % 7 ≠ 0 by omega)
  omega
theorem c1_names {G : Ctx} (hM : SpMixed (G.at 1)) (c : Int) : evE G c1__law_names_by [some (.int c), some (.str abc), some (.int (1 + c % 7)), none, none, none, none, none] =
    .ok (.lst true (((baseOf c).map fun z => [z]).map fun l => D.str (sx l)), [some (.int c), some (.str abc), some (.int (1 + c % 7)), none, none, none, none, none]) := by
  have e1 : evalIt G (.rng (.nm 2)) [some (.int c), some (.str abc), some (.int (1 + c % 7)), none, none, none, none, none] = .ok (((List.range (1 + c % 7).toNat).map fun (i : Nat) => D.int i, none), [some (.int c), some (.str abc), some (.int (1 + c % 7)), none, none, none, none, none]) := by
    have h1 : -(2 ^ 62) ≤ 1 + c % 7 := by omega
    have h2 : 1 + c % 7 < 2 ^ 62 := by omega
    simp only [evalIt, evE, getv_cons0, getv_consS, Out.of_some, Out.bind_ok, fzd_int, if_true, itRng, num_int]
    rw [decide_eq_true ⟨h1, h2⟩]
    rfl
  have e2 := lcn_all (own := [4]) (g := .one 4) (el := evE G (.sub (.lnm 1) (.bin .mod (.call 1 [(.bin .fdiv (.lnm 0) (.ci 7)), (.rf 4)]) (.ci 26)))) (w := (((List.range (1 + c % 7).toNat).map fun (i : Nat) => D.int i, none), [some (.int c), some (.str abc), some (.int (1 + c % 7)), none, none, none, none, none]))
    (fun d => match d with
      | .int k => D.str (sx [(mixed (c / 7) k % 26).toNat + 97])
      | d => d) (by show (List.map _ _).length < lim; rw [List.length_map, List.length_range]; unfold lim; omega) (fun ρ _ => rfl) (fun d hd => by
      obtain ⟨k, hk, rfl⟩ := List.mem_map.mp hd
      refine ⟨[some (.int c), some (.str abc), some (.int (1 + c % 7)), none, some (.int k), none, none, none], by simp [asgT, setv, wipeE], [some (.int c), some (.str abc), some (.int (1 + c % 7)), none, some (.int k), none, none, none], ?_, by simp [wipeE]⟩
      have hm := apply2 (F := G.at 1) (ρ := [some (.int c), some (.str abc), some (.int (1 + c % 7)), none, some (.int k), none, none, none]) (i := 4) rfl (hM (c / 7) k)
      have hs := sub_letter (i := mixed (c / 7) k % 26) (by omega) (by omega)
      simp [evE, evalA, argR, argN, hm, subE, hs])
  rw [c1__law_names_by, ev_lcn, e1]
  simp only [Out.bind_ok]
  rw [e2]
  simp [baseOf, List.map_map, Function.comp_def]
theorem strsD_map {l : List Str} : strsD (l.map D.str) = some l := by
  induction l with
  | nil => rfl
  | cons a l ih => simp [strsD, ih]
theorem m1_join {y : Str} {o : Bool} {l : List D} : m1D .join (.str y) (.lst o l) = (Out.of (strsD l)).bind fun xs => Out.guard (decide ((xs.map (·.length)).sum + xs.length * y.length ≤ 16777216)) (.ok (.str (joinS y xs))) := rfl
theorem m1_index {x y : Str} : m1D .index (.str x) (.str y) = match Builtin.Str.occurrences x y 0 x.length 1 with
    | i :: _ => .ok (.int (i : Nat))
    | [] => .no := rfl
theorem flat_one : ∀ l : List Nat, (l.map fun z => [z]).flatten = l
  | [] => rfl
  | a :: l => by simp [flat_one l]
theorem join_base (l : List Nat) (h : l.length ≤ 1000) : m1D .join (.str (Str.ofString "")) (.lst true ((l.map fun z => [z]).map fun l => D.str (sx l))) = .ok (.str (sx l)) := by
  have e : ((l.map fun z => [z]).map fun l => D.str (sx l)) = ((l.map fun z => [z]).map sx).map D.str := by simp [List.map_map, Function.comp_def]
  have hz : (Str.ofString "").length = 0 := by rw [empty_sx]; rfl
  have hs : ((((l.map fun z => [z]).map sx).map (·.length)).sum) = l.length := by
    clear e h
    induction l with
    | nil => rfl
    | cons a l ih => simp at ih ⊢; omega
  rw [e, m1_join, strsD_map]
  simp only [Out.of_some, Out.bind_ok, hz, hs, Nat.mul_zero, Nat.add_zero]
  rw [decide_eq_true (by omega), Out.guard_true, join_empty]
  rw [flat_one]
theorem base_mem {c : Int} {z : Nat} (h : z ∈ baseOf c) : 97 ≤ z ∧ z < 123 := by
  unfold baseOf at h
  obtain ⟨k, _, rfl⟩ := List.mem_map.mp h
  omega
theorem sub_sx {l : List Nat} {j : Nat} (hj : j < l.length) (hl : l.length ≤ lim) : subD (.str (sx l)) (.int (j : Int)) = .ok (.str (sx [l.getD j 97])) := by
  have hx : ixD (sx l).cps.toList (j : Int) = some (l.getD j 97) := by
    unfold ixD atI
    rw [sx_list, ixN_nat hj]
    simp [hj]
  rw [sub_str, sx_len, decide_eq_true hl, Out.guard_true, hx]
  rfl
theorem index_letter {z : Nat} (h : 97 ≤ z ∧ z < 123) : m1D .index (.str abc) (.str (sx [z])) = .ok (.int ((z - 97 : Nat) : Int)) := by
  have e := occ_letters (z - 97) (by omega)
  have ez : z - 97 + 97 = z := by omega
  rw [ez] at e
  have hl : abc.length = 26 := by unfold abc; rw [letters_sx]; simp
  rw [m1_index, hl]
  unfold abc
  rw [e]
def firstOf (c : Int) : Nat := (baseOf c).getD (atOf c) 97 - 97
theorem base_hi (c : Int) : (baseOf c).length ≤ 7 := by rw [base_len]; omega
theorem getD_mem {l : List Nat} {j : Nat} (h : j < l.length) : l.getD j 97 ∈ l := by
  have : l.getD j 97 = l[j] := by simp [List.getD_eq_getElem?_getD, h]
  rw [this]; exact List.getElem_mem h
theorem cut_take {α : Type} {l : List α} {j : Nat} (h : j ≤ l.length) : cutD l none (some (j : Int)) = l.take j := by
  unfold cutD
  rw [HT.sIx_nat, HT.sIx_none]
  simp [Nat.min_eq_left h]
theorem cut_drop {α : Type} {l : List α} {j : Nat} (h : j ≤ l.length) : cutD l (some (j : Int)) none = l.drop j := by
  unfold cutD
  rw [HT.sIx_nat, HT.sIx_none]
  rw [Nat.min_eq_left h]
  exact List.take_of_length_le (by simp)
theorem c2_names {G : Ctx} (c : Int) : evE G c2__law_names_by [some (.int c), some (.str abc), some (.int (1 + c % 7)), some (.str (sx (baseOf c))), none, some (.int (atOf c)), some (.int (firstOf c)), none] =
    .ok (.lst true (((List.range (2 + c / 49 % 3).toNat).map (fun k => (baseOf c).take (atOf c) ++ [(firstOf c + k) % 26 + 97] ++ (baseOf c).drop (atOf c + 1))).map fun l => D.str (sx l)), [some (.int c), some (.str abc), some (.int (1 + c % 7)), some (.str (sx (baseOf c))), none, some (.int (atOf c)), some (.int (firstOf c)), none]) := by
  have e1 : evalIt G (.rng (.bin .add (.ci 2) (.bin .mod (.bin .fdiv (.lnm 0) (.ci 49)) (.ci 3)))) [some (.int c), some (.str abc), some (.int (1 + c % 7)), some (.str (sx (baseOf c))), none, some (.int (atOf c)), some (.int (firstOf c)), none] = .ok (((List.range (2 + c / 49 % 3).toNat).map fun (i : Nat) => D.int i, none), [some (.int c), some (.str abc), some (.int (1 + c % 7)), some (.str (sx (baseOf c))), none, some (.int (atOf c)), some (.int (firstOf c)), none]) := by
    have h1 : -4611686018427387904 ≤ 2 + c / 49 % 3 := by omega
    have h2 : 2 + c / 49 % 3 < 4611686018427387904 := by omega
    simp [evalIt, evE, argN, itRng, h1, h2]
  have hat := at_lt c
  have hb := base_hi c
  have e2 := lcn_all (own := [4]) (g := .one 4) (el := evE G (.bin .add (.bin .add (.sl (.lnm 3) .np (.nm 5)) (.sub (.lnm 1) (.bin .mod (.bin .add (.lnm 6) (.lnm 4)) (.ci 26)))) (.sl (.lnm 3) (.bin .add (.lnm 5) (.ci 1)) .np)))
    (w := (((List.range (2 + c / 49 % 3).toNat).map fun (i : Nat) => D.int i, none), [some (.int c), some (.str abc), some (.int (1 + c % 7)), some (.str (sx (baseOf c))), none, some (.int (atOf c)), some (.int (firstOf c)), none]))
    (fun d => match d with
      | .int k => D.str (sx ((baseOf c).take (atOf c) ++ [(firstOf c + k.toNat) % 26 + 97] ++ (baseOf c).drop (atOf c + 1)))
      | d => d) (by show (List.map _ _).length < lim; rw [List.length_map, List.length_range]; unfold lim; omega) (fun ρ _ => rfl) (fun d hd => by
      obtain ⟨k, hk, rfl⟩ := List.mem_map.mp hd
      refine ⟨[some (.int c), some (.str abc), some (.int (1 + c % 7)), some (.str (sx (baseOf c))), some (.int k), some (.int (atOf c)), some (.int (firstOf c)), none], by simp [asgT, setv, wipeE], [some (.int c), some (.str abc), some (.int (1 + c % 7)), some (.str (sx (baseOf c))), some (.int k), some (.int (atOf c)), some (.int (firstOf c)), none], ?_, by simp [wipeE]⟩
      have hs := sub_letter (i := ((firstOf c : Int) + (k : Int)) % 26) (by omega) (by omega)
      have ht : (((firstOf c : Int) + (k : Int)) % 26).toNat = (firstOf c + k) % 26 := by omega
      rw [ht] at hs
      have c1 : cutD (baseOf c) none (some (atOf c : Int)) = (baseOf c).take (atOf c) := cut_take (by omega)
      have c2 : cutD (baseOf c) (some ((atOf c : Int) + 1)) none = (baseOf c).drop (atOf c + 1) := cut_drop (j := atOf c + 1) (by omega)
      have l1 : (baseOf c).length ≤ lim := Nat.le_trans hb (by decide)
      have l2 : min (atOf c) (baseOf c).length + 1 ≤ lim := Nat.le_trans (show _ ≤ 8 by omega) (by decide)
      have l3 : min (atOf c) (baseOf c).length + 1 + ((baseOf c).length - (atOf c + 1)) ≤ lim := Nat.le_trans (show _ ≤ 20 by omega) (by decide)
      simp [evE, argN, argP, subE, hs, sx_cut, c1, c2, l1, sx_app, l2, l3])
  rw [c2__law_names_by, ev_lcn, e1]
  simp only [Out.bind_ok]
  rw [e2]
  simp [List.map_map, Function.comp_def]
end VL
/-! mirrors, part 10: names_by -/
namespace VL
open PySem PySem.Spec L2
def namesBy (c : Int) : List Str := (namesC c).map sx
def SpNames (F : Sem') : Prop := ∀ c : Int, F [.int c] = .ok (.lst true ((namesBy c).map .str), [some (.int c)])
theorem m_names (G : Ctx) (hM : SpMixed (G.at 1)) : SpNames (d__law_names_by.run G) := fun c => by
  have h1 := c1_names hM c
  have h2 := c2_names (G := G) c
  have hat := at_lt c
  have hb := base_hi c
  have hpos : 0 < 1 + c % 7 := by omega
  have hj := join_base (baseOf c) (Nat.le_trans hb (by decide))
  have l1 : (baseOf c).length ≤ lim := Nat.le_trans hb (by decide)
  have l2 : (baseOf c).length + 1 ≤ lim := Nat.le_trans (show _ ≤ 8 by omega) (by decide)
  have ea : c / 7 % (1 + c % 7) = (atOf c : Int) := by
    unfold atOf
    have := Int.emod_nonneg (c / 7) (show 1 + c % 7 ≠ 0 by omega)
    omega
  have hs := sub_sx hat l1
  have hi := index_letter (base_mem (getD_mem hat))
  have hl := sub_letter (i := c / 147 % 26) (by omega) (by omega)
  have hA : asgs d__law_names_by.body = [1, 2, 3, 5, 6, 7] := rfl
  have e1 : ∀ {ρ : Env}, evE G (.cs "abcdefghijklmnopqrstuvwxyz") ρ = .ok (.str abc, ρ) := fun {ρ} => by simp only [evE]; rfl
  have len3 : ((List.range (2 + c / 49 % 3).toNat).map (fun k => (baseOf c).take (atOf c) ++ [(firstOf c + k) % 26 + 97] ++ (baseOf c).drop (atOf c + 1))).length ≤ 5 := by
    rw [List.length_map, List.length_range]; omega
  unfold namesBy namesC
  have ef : ((baseOf c).getD (atOf c) 97 - 97) = firstOf c := rfl
  rw [ef] at hi ⊢
  generalize ((List.range (2 + c / 49 % 3).toNat).map (fun k => (baseOf c).take (atOf c) ++ [(firstOf c + k) % 26 + 97] ++ (baseOf c).drop (atOf c + 1))) = nm at *
  have fz : fzdL (nm.map fun l => D.str (sx l)) = true := fzdL_iff.mpr fun d hd => by obtain ⟨l, _, rfl⟩ := List.mem_map.mp hd; rfl
  have k_abc : Str.ofString "abcdefghijklmnopqrstuvwxyz" = abc := rfl
  rw [List.map_map] at h1 hj
  simp only [Function.comp_def] at h1 hj
  have l4 : nm.length + 1 ≤ lim := Nat.le_trans (show _ ≤ 6 by omega) (by decide)
  generalize (baseOf c).getD (atOf c) 97 = z at hs hi
  simp only [Df.run, hA, endF]
  simp [d__law_names_by, exB, exS, evE, evalL, argN, setv, h1, h2, hpos, hj, ea, subE, hs, hi, hl, sx_app, l2, fz, l4, List.map_map, Function.comp_def, k_abc]
end VL
/-! mirrors, part 11: the names' facts; values_by -/
namespace VL
open PySem PySem.Spec L2
theorem names_len (c : Int) : 3 ≤ (namesBy c).length ∧ (namesBy c).length ≤ 5 := by
  unfold namesBy namesC
  simp only [List.length_map, List.length_append, List.length_range, List.length_cons, List.length_nil]
  omega
theorem names_ok {c : Int} {x : Str} (h : x ∈ namesBy c) : OkN x := by
  unfold namesBy at h
  obtain ⟨l, hl, rfl⟩ := List.mem_map.mp h
  have hat := at_lt c
  have hb := base_hi c
  have hpos : 1 ≤ (baseOf c).length := by omega
  have key : (1 ≤ l.length ∧ l.length ≤ 8) ∧ ∀ z ∈ l, 97 ≤ z ∧ z ≤ 122 := by
    unfold namesC at hl
    rcases List.mem_append.mp hl with hl | hl
    · obtain ⟨k, _, rfl⟩ := List.mem_map.mp hl
      refine ⟨by simp; omega, fun z hz => ?_⟩
      simp only [List.mem_append, List.mem_singleton] at hz
      rcases hz with (hz | hz) | hz
      · have := base_mem (List.mem_of_mem_take hz); omega
      · omega
      · have := base_mem (List.mem_of_mem_drop hz); omega
    · simp only [List.mem_singleton] at hl
      subst hl
      refine ⟨by simp; omega, fun z hz => ?_⟩
      simp only [List.mem_append, List.mem_singleton] at hz
      rcases hz with hz | hz
      · have := base_mem hz; omega
      · omega
  exact ⟨by simpa using key.1.1, by simpa using key.1.2, by simpa using key.2⟩
theorem name_at {c : Int} {j : Nat} (h : j < (namesBy c).length) : OkN ((namesBy c).getD j "") := by
  have : (namesBy c).getD j "" = (namesBy c)[j] := by simp [List.getD_eq_getElem?_getD, h]
  rw [this]; exact names_ok (List.getElem_mem h)
theorem oper_ok {n : Nat} {c : Int} : OkA (operandBy n (namesBy c)) := by
  unfold operandBy
  have := (names_len c).1
  split
  · exact name_at (Nat.mod_lt _ (by omega))
  · split <;> trivial
theorem rowBy_ok {n : Nat} {c : Int} {size : Nat} : OkR (rowBy n (namesBy c) size) ∧ OkG size (rowBy n (namesBy c) size) := by
  have h0 := (names_len c).1
  have hn : OkN ((namesBy c).getD (n / 9 % (namesBy c).length) "") := name_at (Nat.mod_lt _ (by omega))
  have hg : n / 64 % 5003 % (size + 1) ≤ size := by have := Nat.mod_lt (n / 64 % 5003) (show 0 < size + 1 by omega); omega
  have o1 := oper_ok (n := n / 27 % 4177) (c := c)
  have o2 := oper_ok (n := n / 32 % 4159) (c := c)
  unfold rowBy
  simp only
  split
  · exact ⟨⟨fun x hx => (by cases hx; exact hn), fun a ha => by simp [Rw.ops] at ha; subst ha; exact o1⟩, trivial⟩
  · split
    · exact ⟨⟨fun x hx => (by cases hx; exact hn), fun a ha => by simp [Rw.ops] at ha; rcases ha with rfl | rfl <;> assumption⟩, trivial⟩
    · split
      · exact ⟨⟨fun x hx => (by cases hx), fun a ha => by simp [Rw.ops] at ha; subst ha; exact o1⟩, trivial⟩
      · split
        · split
          · exact ⟨⟨fun x hx => (by cases hx), fun a ha => by simp [Rw.ops] at ha⟩, trivial⟩
          · split
            · exact ⟨⟨fun x hx => (by cases hx), fun a ha => by simp [Rw.ops] at ha; subst ha; exact o1⟩, trivial⟩
            · exact ⟨⟨fun x hx => (by cases hx), fun a ha => by simp [Rw.ops] at ha⟩, hg⟩
        · exact ⟨⟨fun x hx => (by cases hx), fun a ha => by simp [Rw.ops] at ha; subst ha; exact o1⟩, hg⟩
theorem it_rng {n : Nat} {ρ : Env} (h : n ≤ 1000000) : itRng (.int n) ρ = .ok (((List.range n).map fun (i : Nat) => D.int i, none), ρ) := by
  have g : decide (-(2 ^ 62) ≤ (n : Int) ∧ (n : Int) < 2 ^ 62) = true := decide_eq_true ⟨by omega, by omega⟩
  unfold itRng
  rw [num_int, Out.bind_ok, g, Out.guard_true, Int.toNat_natCast]
theorem ev_rng {G : Ctx} {a : E} {ρ ρ' : Env} {n : Nat} (h : evE G a ρ = .ok (.int n, ρ')) (hn : n ≤ 1000000) : evalIt G (.rng a) ρ = .ok (((List.range n).map fun (i : Nat) => D.int i, none), ρ') := by
  have e : evalIt G (.rng a) ρ = (evE G a ρ).bind fun x => itRng x.1 x.2 := by simp only [evalIt]
  rw [e, h, Out.bind_ok]
  exact it_rng hn
theorem ev_lenL {G : Ctx} {i : Nat} {ρ : Env} {o : Bool} {l : List D} (h : getv ρ i = some (.lst o l)) : evE G (.b1 .len (.bnm i)) ρ = .ok (.int l.length, ρ) := by
  simp only [evE, h, Out.of_some, Out.bind_ok, b1_len, lenD_lst]
/-! ### values_by -/
def valStep (names : List Str) (c : Int) (s : List KD × List Int) (k : Nat) : List KD × List Int :=
  if c / ((k : Int) + 1) % 3 > 0 then dput s.1 s.2 (nk (names.getD k "")) (c / 7 % (1000000000000000 * ((k : Int) % 2) + 9) - 2 * k) else s
def valsBy (names : List Str) (c : Int) : List KD × List Int := (List.range names.length).foldl (valStep names c) ([], [])
theorem ex_forS {G : Ctx} {t : Tg} {it : It} {a : List S} {ρ : Env} : exS G (.for_ t it a) ρ = (evalIt G it ρ).bind fun w => forF w.1.2 (asgT t) (exB G a) w.1.1 w.2 := by simp only [exS]
def SpVals (F : Sem') : Prop := ∀ ns : List Int, F [.scr ns] = .ok (knD true (valsBy (namesBy (cell ns 1)) (cell ns 2)).1 (valsBy (namesBy (cell ns 1)) (cell ns 2)).2, [some (.scr ns)])
theorem KL_nil : KL [] := fun k h => by simp at h
theorem vals_kl {names : List Str} {c : Int} : ∀ (l : List Nat) (s : List KD × List Int), KL s.1 → KL (l.foldl (valStep names c) s).1 ∧ (l.foldl (valStep names c) s).1.length ≤ s.1.length + l.length
  | [], s, h => ⟨h, by simp⟩
  | k :: l, s, h => by
    have h1 : KL (valStep names c s k).1 ∧ (valStep names c s k).1.length ≤ s.1.length + 1 := by
      unfold valStep
      split
      · exact ⟨h.put _ _, put_len _ _⟩
      · exact ⟨h, by omega⟩
    obtain ⟨h2, h3⟩ := vals_kl l (valStep names c s k) h1.1
    exact ⟨h2, by simp only [List.foldl_cons, List.length_cons]; omega⟩
theorem vals_body {G : Ctx} {ns : List Int} {names : List Str} {c : Int} {s : List KD × List Int} {k : Nat} (hk : k < names.length) (h5 : names.length ≤ 5) (h : KL s.1) (hl : s.1.length < lim) :
    exB G b1__law_values_by [some (.scr ns), some (.lst true (names.map .str)), some (.int c), some (knD true s.1 s.2), some (.int k)] = .ok (.nx [some (.scr ns), some (.lst true (names.map .str)), some (.int c), some (knD true (valStep names c s k).1 (valStep names c s k).2), some (.int k)]) := by
  have hs := sub_strs (ρ := [some (.scr ns), some (.lst true (names.map .str)), some (.int c), some (knD true s.1 s.2), some (.int k)]) (k := 1) (o := true) (names := names) (i := (k : Int)) (j := k) rfl rfl hk
  have hp : (0 : Int) < (k : Int) + 1 := by omega
  have hp2 : (k : Int) + 1 < 1073741824 := by omega
  have hm : 0 < 1000000000000000 * ((k : Int) % 2) + 9 := by omega
  have hq := fun v => put_kn (vs := s.2) h hl (names.getD k "") v
  have e1 : ∀ σ : Env, True := fun _ => trivial
  by_cases hc : 0 < c / ((k : Int) + 1) % 3
  · have hv : valStep names c s k = dput s.1 s.2 (nk (names.getD k "")) (c / 7 % (1000000000000000 * ((k : Int) % 2) + 9) - 2 * k) := by unfold valStep; rw [if_pos hc]
    rw [hv]
    generalize names.getD k "" = x at *
    have hb1 : -18446744073709551616 < (k : Int) % 2 := by omega
    have hb2 : (k : Int) % 2 < 18446744073709551616 := by omega
    simp [b1__law_values_by, exB, exS, evE, argN, tstF, hp, hp2, hc, hm, hs, hq, pathE, mendE, mend, P.slot, hb1, hb2]
  · have hv : valStep names c s k = s := by unfold valStep; rw [if_neg hc]
    rw [hv]
    simp [b1__law_values_by, exB, exS, evE, argN, tstF, hp, hp2, hc]
theorem m_vals (G : Ctx) (hN : SpNames (G.at 2)) (hC : SpCell (G.at 3)) : SpVals (d__law_values_by.run G) := fun ns => by
  have hA : asgs d__law_values_by.body = [1, 2, 3, 4] := rfl
  have e1 : applyF (G.at 3) [.inr 0, .inl (.int 1)] [some (.scr ns), none, none, none, none] = .ok (.int (cell ns 1), [some (.scr ns), none, none, none, none]) := by
    simp [applyF, pull, hC ns 1 1 rfl, push]
  have e2 : ∀ x : Option D, applyF (G.at 3) [.inr 0, .inl (.int 2)] [some (.scr ns), x, none, none, none] = .ok (.int (cell ns 2), [some (.scr ns), x, none, none, none]) := fun x => by
    simp [applyF, pull, hC ns 2 2 rfl, push]
  have e3 : applyF (G.at 2) [.inl (.int (cell ns 1))] [some (.scr ns), none, none, none, none] = .ok (.lst true ((namesBy (cell ns 1)).map .str), [some (.scr ns), none, none, none, none]) := by
    simp [applyF, pull, hN (cell ns 1), push]
  have hlen := names_len (cell ns 1)
  unfold valsBy
  generalize namesBy (cell ns 1) = names at *
  generalize cell ns 2 = c at *
  have loop : ∃ z, exS G l1__law_values_by [some (.scr ns), some (.lst true (names.map .str)), some (.int c), some (.dct true [] []), none] = .ok (.nx [some (.scr ns), some (.lst true (names.map .str)), some (.int c), some (knD true ((List.range names.length).foldl (valStep names c) ([], [])).1 ((List.range names.length).foldl (valStep names c) ([], [])).2), z]) := by
    have er : evalIt G (.rng (.b1 .len (.bnm 1))) [some (.scr ns), some (.lst true (names.map .str)), some (.int c), some (.dct true [] []), none] = .ok (((List.range names.length).map fun (i : Nat) => D.int i, none), [some (.scr ns), some (.lst true (names.map .str)), some (.int c), some (.dct true [] []), none]) := by
      exact ev_rng (by rw [ev_lenL rfl, List.length_map]) (by omega)
    have run := for_inv (σ := (List KD × List Int) × Option D) (fun s => [some (.scr ns), some (.lst true (names.map .str)), some (.int c), some (knD true s.1.1 s.1.2), s.2])
      (fun l s => ∃ ks : List Nat, l = (ks.map fun (i : Nat) => D.int i) ∧ (∀ k ∈ ks, k < names.length) ∧ KL s.1.1 ∧ s.1.1.length + ks.length ≤ 5 ∧ ks.foldl (valStep names c) s.1 = (List.range names.length).foldl (valStep names c) ([], []))
      (ch := none) (asg := asgT (.one 4)) (body := exB G b1__law_values_by) (fun s => rfl) (fun d r s hi => by
        obtain ⟨ks, e, hk, kl, hl, hf⟩ := hi
        cases ks with
        | nil => cases e
        | cons k ks =>
          simp only [List.map_cons, List.cons.injEq] at e
          obtain ⟨rfl, rfl⟩ := e
          have h1 := vals_kl (names := names) (c := c) [k] s.1 kl
          simp only [List.foldl_cons, List.foldl_nil, List.length_cons, List.length_nil] at h1
          simp only [List.length_cons] at hl
          exact ⟨[some (.scr ns), some (.lst true (names.map .str)), some (.int c), some (knD true s.1.1 s.1.2), some (.int k)], (valStep names c s.1 k, some (.int k)), by simp [asgT, setv], vals_body (hk k List.mem_cons_self) hlen.2 kl (Nat.lt_of_le_of_lt (show _ ≤ 5 by omega) (by decide)),
            ks, rfl, fun j hj => hk j (List.mem_cons_of_mem _ hj), h1.1, by show (valStep names c s.1 k).1.length + ks.length ≤ 5; omega, hf⟩)
      (l := (List.range names.length).map fun (i : Nat) => D.int i) (s := (([], []), none)) ⟨List.range names.length, rfl, fun k hk => List.mem_range.mp hk, KL_nil, by simp; omega, rfl⟩
    obtain ⟨s', h1, ks, e, _, _, _, hf⟩ := run
    have hk0 : ks = [] := by cases ks with
      | nil => rfl
      | cons _ _ => cases e
    subst hk0
    simp only [List.foldl_nil] at hf
    refine ⟨s'.2, ?_⟩
    rw [← hf]
    rw [l1__law_values_by, ex_forS, er, Out.bind_ok]
    exact h1
  obtain ⟨z, loop⟩ := loop
  have h0 : ∀ {ρ : Env} {st : S} {rest : List S}, exB G (st :: rest) ρ = seqF (exS G st ρ) (exB G rest) := fun {ρ st rest} => by simp only [exB]
  have s1 : exS G (.set 1 (.call 2 [(.call 3 [(.rf 0), (.ci 1)])])) [some (.scr ns), none, none, none, none] = .ok (.nx [some (.scr ns), some (.lst true (names.map .str)), none, none, none]) := by
    simp [exS, evE, evalA, argR, setv, e1, e3]
  have s2 : exS G (.set 2 (.call 3 [(.rf 0), (.ci 2)])) [some (.scr ns), some (.lst true (names.map .str)), none, none, none] = .ok (.nx [some (.scr ns), some (.lst true (names.map .str)), some (.int c), none, none]) := by
    simp [exS, evE, evalA, argR, setv, e2]
  have s3 : exS G (.set 3 (.dct [])) [some (.scr ns), some (.lst true (names.map .str)), some (.int c), none, none] = .ok (.nx [some (.scr ns), some (.lst true (names.map .str)), some (.int c), some (.dct true [] []), none]) := by
    simp [exS, evE, evalL, setv, dctD, pairUp, pairsD, dputs]
  have s4 : ∀ (d : D) (y : Option D), exS G (.ret (.mv 3)) [some (.scr ns), some (.lst true (names.map .str)), some (.int c), some d, y] = .ok (.rt d [some (.scr ns), some (.lst true (names.map .str)), some (.int c), none, y]) := fun d y => by
    simp [exS, evE]
  have hb : d__law_values_by.body = [.set 1 (.call 2 [(.call 3 [(.rf 0), (.ci 1)])]), .set 2 (.call 3 [(.rf 0), (.ci 2)]), .set 3 (.dct []), l1__law_values_by, .ret (.mv 3)] := rfl
  have hn : d__law_values_by.n = 5 := rfl
  have hp : d__law_values_by.ps = 1 := rfl
  have run : exB G d__law_values_by.body [some (.scr ns), none, none, none, none] = .ok (.rt (knD true ((List.range names.length).foldl (valStep names c) ([], [])).1 ((List.range names.length).foldl (valStep names c) ([], [])).2) [some (.scr ns), some (.lst true (names.map .str)), some (.int c), none, z]) := by
    rw [hb, h0, s1, seqF_nx, h0, s2, seqF_nx, h0, s3, seqF_nx, h0, loop, seqF_nx, h0, s4, seqF_rt]
  simp only [Df.run, endF, hA, hn, hp]
  have hr : (List.map some [D.scr ns] ++ List.replicate (5 - 1) none : Env) = [some (.scr ns), none, none, none, none] := rfl
  rw [hr, run]
  simp
end VL
/-! calls whose arguments stay; statements one by one -/
namespace VL
open PySem PySem.Spec L2
def looks : List (Sum D Nat) → Env → Option (List D)
  | [], _ => some []
  | x :: r, ρ => match look x ρ, looks r ρ with
    | some d, some ds => some (d :: ds)
    | _, _ => none
def slotsI : List (Sum D Nat) → List Nat
  | [] => []
  | .inl _ :: r => slotsI r
  | .inr i :: r => i :: slotsI r
theorem looks_set {i : Nat} {x : Option D} : ∀ {its : List (Sum D Nat)} {ρ : Env}, i ∉ slotsI its → looks its (ρ.set i x) = looks its ρ
  | [], _, _ => rfl
  | .inl d :: r, ρ, h => by
    have := looks_set (x := x) (its := r) (ρ := ρ) (by simpa [slotsI] using h)
    simp only [looks, look, this]
  | .inr j :: r, ρ, h => by
    simp only [slotsI, List.mem_cons, not_or] at h
    have := looks_set (x := x) (its := r) (ρ := ρ) h.2
    have e : getv (ρ.set i x) j = getv ρ j := by unfold getv; rw [List.getElem?_set_ne h.1]
    simp only [looks, look, this, e]
theorem set_swap {ρ : Env} {i j : Nat} {x y : Option D} (h : i ≠ j) : (ρ.set i x).set j y = (ρ.set j y).set i x := List.set_comm _ _ h
theorem push_set {i : Nat} {x : Option D} : ∀ {its : List (Sum D Nat)} {ds : List D} {fs : List (Option D)} {ρ : Env}, i ∉ slotsI its → push its ds fs (ρ.set i x) = (push its ds fs ρ).set i x
  | [], ds, fs, ρ, h => by cases ds <;> cases fs <;> rfl
  | .inl d :: r, [], fs, ρ, h => by cases fs <;> rfl
  | .inr d :: r, [], fs, ρ, h => by cases fs <;> rfl
  | .inl d :: r, _ :: ds, [], ρ, h => rfl
  | .inr d :: r, _ :: ds, [], ρ, h => rfl
  | .inl d :: r, e :: ds, f :: fs, ρ, h => by
    have := push_set (x := x) (its := r) (ds := ds) (fs := fs) (ρ := ρ) (by simpa [slotsI] using h)
    simp only [push, this]
  | .inr j :: r, e :: ds, f :: fs, ρ, h => by
    simp only [slotsI, List.mem_cons, not_or] at h
    simp only [push]
    split
    · exact push_set h.2
    · rw [set_swap h.1, push_set h.2]
theorem push_self : ∀ {its : List (Sum D Nat)} {ds : List D} {ρ : Env}, looks its ρ = some ds → push its ds (ds.map some) ρ = ρ
  | [], ds, ρ, h => by cases h; rfl
  | .inl d :: r, ds, ρ, h => by
    simp only [looks, look] at h
    split at h
    · rename_i h1 h2
      cases h1; cases h
      simp only [push, List.map_cons]
      exact push_self h2
    · cases h
  | .inr j :: r, ds, ρ, h => by
    simp only [looks, look] at h
    split at h
    · rename_i h1 h2
      cases h
      simp only [push, List.map_cons]
      split
      · exact push_self h2
      · rw [set_self h1]; exact push_self h2
    · cases h
theorem pull_looks : ∀ {its : List (Sum D Nat)} {ds : List D} {ρ : Env}, looks its ρ = some ds → (slotsI its).Nodup → ∃ ρ', pull its ρ = .ok (ds, ρ') ∧ ∀ fs, fs.length = ds.length → push its ds fs ρ' = push its ds fs ρ
  | [], ds, ρ, h, _ => by cases h; exact ⟨ρ, rfl, fun _ _ => rfl⟩
  | .inl d :: r, ds, ρ, h, hn => by
    simp only [looks, look] at h
    split at h
    · rename_i h1 h2
      cases h1; cases h
      obtain ⟨ρ', h3, h4⟩ := pull_looks h2 hn
      refine ⟨ρ', by simp only [pull, h3, Out.bind_ok], fun fs hf => ?_⟩
      cases fs with
      | nil => simp at hf
      | cons f fs => simp only [push]; exact h4 fs (by simpa using hf)
    · cases h
  | .inr j :: r, ds, ρ, h, hn => by
    simp only [looks, look] at h
    simp only [slotsI, List.nodup_cons] at hn
    split at h
    · rename_i d ds' h1 h2
      cases h
      by_cases hf : fzd d = true
      · obtain ⟨ρ', h3, h4⟩ := pull_looks h2 hn.2
        refine ⟨ρ', by simp only [pull, h1, Out.of_some, Out.bind_ok, hf, if_true, h3], fun fs hl => ?_⟩
        cases fs with
        | nil => simp at hl
        | cons f fs => simp only [push, hf, if_true]; exact h4 fs (by simpa using hl)
      · have h5 : looks r (ρ.set j none) = some ds' := by rw [looks_set hn.1]; exact h2
        obtain ⟨ρ', h3, h4⟩ := pull_looks h5 hn.2
        refine ⟨ρ', by simp only [pull, h1, Out.of_some, Out.bind_ok, hf, if_false, h3, Bool.false_eq_true], fun fs hl => ?_⟩
        cases fs with
        | nil => simp at hl
        | cons f fs =>
          simp only [push, hf, if_false, Bool.false_eq_true]
          have h6 : push r ds' fs (ρ'.set j f) = (push r ds' fs ρ').set j f := push_set hn.1
          have h7 : push r ds' fs (ρ.set j f) = (push r ds' fs ρ).set j f := push_set hn.1
          rw [h6, h7, h4 fs (by simpa using hl), push_set hn.1, List.set_set]
    · cases h
/-- a call that changes its arguments -/
theorem apply_gen {F : Sem'} {its : List (Sum D Nat)} {ds : List D} {fs : List (Option D)} {ρ : Env} {r : D} (h : looks its ρ = some ds) (hn : (slotsI its).Nodup) (hF : F ds = .ok (r, fs)) (hl : fs.length = ds.length) : applyF F its ρ = .ok (r, push its ds fs ρ) := by
  obtain ⟨ρ', h3, h4⟩ := pull_looks h hn
  simp only [applyF, h3, Out.bind_ok, hF, h4 fs hl]
/-- a call whose arguments stay -/
theorem apply_pure {F : Sem'} {its : List (Sum D Nat)} {ds : List D} {ρ : Env} {r : D} (h : looks its ρ = some ds) (hF : F ds = .ok (r, ds.map some)) (hn : (slotsI its).Nodup := by simp [slotsI]) : applyF F its ρ = .ok (r, ρ) := by
  rw [apply_gen h hn hF (by simp), push_self h]
/-! ### statements -/
section
variable {G : Ctx} {e c : E} {a b r : List S} {s : S} {i : Nat} {d : D} {ρ ρ' : Env}
theorem x_set (h : evE G e ρ = .ok (d, ρ')) (hi : i < ρ'.length) : exS G (.set i e) ρ = .ok (.nx (ρ'.set i (some d))) := by
  simp only [exS, h, Out.bind_ok, setv, decide_eq_true hi, Out.guard_true]
theorem x_ret (h : evE G e ρ = .ok (d, ρ')) : exS G (.ret e) ρ = .ok (.rt d ρ') := by
  simp only [exS, h, Out.bind_ok]
theorem x_mv {i : Nat} (h : getv ρ i = some d) : exS G (.ret (.mv i)) ρ = .ok (.rt d (ρ.set i none)) := x_ret (by simp only [evE, h, Out.of_some, Out.bind_ok])
theorem x_ex (h : evE G e ρ = .ok (d, ρ')) : exS G (.ex e) ρ = .ok (.nx ρ') := by
  simp only [exS, h, Out.bind_ok]
theorem x_ifT (h : tstF (evE G c) ρ = .ok (true, ρ')) : exS G (.ifs c a b) ρ = exB G a ρ' := by
  simp only [exS, h, Out.bind_ok]
theorem x_ifF (h : tstF (evE G c) ρ = .ok (false, ρ')) : exS G (.ifs c a b) ρ = exB G b ρ' := by
  simp only [exS, h, Out.bind_ok]
theorem xb_nil : exB G [] ρ = .ok (.nx ρ) := by simp only [exB]
theorem xb_cons : exB G (s :: r) ρ = seqF (exS G s ρ) (exB G r) := by simp only [exB]
theorem xb_nx (h : exS G s ρ = .ok (.nx ρ')) : exB G (s :: r) ρ = exB G r ρ' := by rw [xb_cons, h, seqF_nx]
theorem xb_rt (h : exS G s ρ = .ok (.rt d ρ')) : exB G (s :: r) ρ = .ok (.rt d ρ') := by rw [xb_cons, h, seqF_rt]
theorem xb_one (h : exS G s ρ = .ok (.nx ρ')) : exB G [s] ρ = .ok (.nx ρ') := by rw [xb_nx h, xb_nil]
theorem x_for {t : Tg} {it : It} {w : Wk × Env} (h : evalIt G it ρ = .ok w) : exS G (.for_ t it a) ρ = forF w.1.2 (asgT t) (exB G a) w.1.1 w.2 := by rw [ex_forS, h, Out.bind_ok]
theorem t_ev {g : Env → Out (D × Env)} {x : Bool} (h : g ρ = .ok (.bl x, ρ')) : tstF g ρ = .ok (x, ρ') := by
  simp only [tstF, h, Out.bind_ok, fl_bl]
theorem ev_call {k : Nat} {as : List E} : evE G (.call k as) ρ = (evalA G as ρ).bind fun x => applyF (G.at k) x.1 x.2 := by simp only [evE]
/-- a block that ends with a value -/
def Gives (G : Ctx) (b : List S) (ρ : Env) (d : D) : Prop := ∃ ρ', exB G b ρ = .ok (.rt d ρ')
theorem gv_nx (h : exS G s ρ = .ok (.nx ρ')) (k : Gives G r ρ' d) : Gives G (s :: r) ρ d := by
  obtain ⟨ρ2, k⟩ := k
  exact ⟨ρ2, (xb_nx h).trans k⟩
theorem gv_rt (h : exS G s ρ = .ok (.rt d ρ')) : Gives G (s :: r) ρ d := ⟨_, xb_rt h⟩
theorem gv_ret (h : evE G e ρ = .ok (d, ρ')) : Gives G (.ret e :: r) ρ d := ⟨_, xb_rt (x_ret h)⟩
/-- a def's end -/
theorem run_rt {f : Df} {ds : List D} (hl : ds.length = f.ps) (h : exB G f.body (ds.map some ++ List.replicate (f.n - f.ps) none) = .ok (.rt d ρ')) : f.run G ds = .ok (d, (List.range f.ps).map fun i => if i ∈ asgs f.body then none else getv ρ' i) := by
  simp only [Df.run, decide_eq_true hl, Out.guard_true, h, endF, Out.bind_ok]
theorem run_nx {f : Df} {ds : List D} (hl : ds.length = f.ps) (h : exB G f.body (ds.map some ++ List.replicate (f.n - f.ps) none) = .ok (.nx ρ')) : f.run G ds = .ok (.non, (List.range f.ps).map fun i => if i ∈ asgs f.body then none else getv ρ' i) := by
  simp only [Df.run, decide_eq_true hl, Out.guard_true, h, endF, Out.bind_ok]
end
/-! ### the defs of a text -/
theorem runs_snoc {gl : List D} {t : DfT} : ∀ {a : List DfT} {acc : List Sem'}, runs gl acc (a ++ [t]) = runs gl acc a ++ [t.d.run ⟨gl, runs gl acc a⟩]
  | [], acc => rfl
  | u :: a, acc => by simp only [List.cons_append, runs]; exact runs_snoc
theorem runs_length {gl : List D} : ∀ {a : List DfT} {acc : List Sem'}, (runs gl acc a).length = acc.length + a.length
  | [], acc => rfl
  | u :: a, acc => by simp only [runs, List.length_cons]; rw [runs_length]; simp; omega
theorem at_runs {gl : List D} {ts : List DfT} {k : Nat} (hk : k < ts.length) : ∀ n, k < n → n ≤ ts.length → Ctx.at ⟨gl, runs gl [] (ts.take n)⟩ k = (ts[k]).d.run ⟨gl, runs gl [] (ts.take k)⟩
  | 0, h, _ => absurd h (Nat.not_lt_zero _)
  | n + 1, h, hn => by
    rw [List.take_succ_eq_append_getElem (by omega), runs_snoc]
    have hl : (runs gl [] (ts.take n)).length = n := by rw [runs_length]; simp; omega
    by_cases e : k = n
    · subst e
      simp [Ctx.at, List.getD_eq_getElem?_getD, List.getElem?_append, hl]
    · have := at_runs (gl := gl) hk n (by omega) (by omega)
      rw [← this]
      simp only [Ctx.at, List.getD_eq_getElem?_getD]
      rw [List.getElem?_append_left (by omega)]
end VL
/-! mirrors, part 12: rows_by -/
namespace VL
open PySem PySem.Spec L2
theorem mixed_lo (c k : Int) : 0 ≤ mixed c k := by unfold mixed; exact Int.emod_nonneg _ (by decide)
theorem mixed_hi (c k : Int) : mixed c k < 2147483647 := by unfold mixed; exact Int.emod_lt_of_pos _ (by decide)
def rowsA (ns : List Int) : List Rw := (List.range (sizeBy (cell ns 0))).map fun k => rowBy (mixed (cell ns (4 + k)) k).toNat (namesBy (cell ns 1)) (sizeBy (cell ns 0))
def moreOf (ns : List Int) : Nat := (mixed (cell ns 0 + 3 * cell ns 1) 50).toNat
def nmAt (names : List Str) (more j : Nat) : Str := (names.drop (more / 3 % names.length) ++ names.take (more / 3 % names.length)).getD j ""
def rowsB (rows : List Rw) (names : List Str) (more : Nat) : List Rw :=
  if more % 3 < 2 then
    rows ++ [.st (nmAt names more 2) (.inr (nmAt names more 0)), .st (nmAt names more 0) (.inr (nmAt names more 1)), .st (nmAt names more 1) (.inr (nmAt names more 2))] ++
      [.nought (if more / 9 % 4 = 0 then .inr (nmAt names more 0) else if more / 9 % 4 = 1 then .inr (nmAt names more 1) else if more / 9 % 4 = 2 then .inl 0 else .inr (nmAt names more 2)) (more / 36 % (rows.length + 3))]
  else rows
def rowsC (rows : List Rw) (names : List Str) (more : Nat) : List Rw := if more / 1009 % 3 < 2 then rows ++ names.map fun x => .say (.inr x) else rows
def rowsBy (ns : List Int) : List Rw := rowsC (rowsB (rowsA ns) (namesBy (cell ns 1)) (moreOf ns)) (namesBy (cell ns 1)) (moreOf ns)
def SpRows (F : Sem') : Prop := ∀ ns : List Int, F [.scr ns] = .ok (.lst true ((rowsBy ns).map rowD), [some (.scr ns)])
def envB (ns : List Int) (size : Nat) (names : List Str) (r3 : Option D) (r : List (Option D)) : Env := some (.scr ns) :: some (.int size) :: some (.lst true (names.map .str)) :: r3 :: r
theorem c1_rows {G : Ctx} (hM : SpMixed (G.at 1)) (hC : SpCell (G.at 3)) (hR : SpRowBy (G.at 5)) (ns : List Int) :
    evE G c1__law_rows_by [some (.scr ns), some (.int (sizeBy (cell ns 0))), some (.lst true ((namesBy (cell ns 1)).map .str)), none, none, none, none, none, none, none, none] =
      .ok (.lst true ((rowsA ns).map rowD), [some (.scr ns), some (.int (sizeBy (cell ns 0))), some (.lst true ((namesBy (cell ns 1)).map .str)), none, none, none, none, none, none, none, none]) := by
  have hlen := names_len (cell ns 1)
  have hsz := size_le (cell ns 0)
  unfold rowsA
  generalize namesBy (cell ns 1) = names at *
  generalize sizeBy (cell ns 0) = size at *
  rw [c1__law_rows_by, ev_lcn, ev_rng (n := size) (ρ' := [some (.scr ns), some (.int size), some (.lst true (names.map .str)), none, none, none, none, none, none, none, none]) (by simp [evE]) (by omega), Out.bind_ok]
  rw [lcn_all (fun d => match d with
    | .int i => rowD (rowBy (mixed (cell ns (4 + i.toNat)) i).toNat names size)
    | d => d)]
  · simp [List.map_map, Function.comp_def]
  · show (List.map _ _).length < lim
    rw [List.length_map, List.length_range]; exact Nat.lt_of_le_of_lt hsz (by decide)
  · exact fun ρ _ => rfl
  · intro d hd
    obtain ⟨k, hk, rfl⟩ := List.mem_map.mp hd
    refine ⟨[some (.scr ns), some (.int size), some (.lst true (names.map .str)), none, some (.int (k : Int)), none, none, none, none, none, none], by simp [asgT, setv, wipeE], [some (.scr ns), some (.int size), some (.lst true (names.map .str)), none, some (.int (k : Int)), none, none, none, none, none, none], ?_, by simp [wipeE]⟩
    have a1 := apply_pure (its := [.inr 0, .inl (.int (4 + (k : Int)))]) (ρ := [some (.scr ns), some (.int size), some (.lst true (names.map .str)), none, some (.int (k : Int)), none, none, none, none, none, none]) rfl (hC ns (4 + (k : Int)) (4 + k) (by omega)) 
    have a2 := apply_pure (its := [.inl (.int (cell ns (4 + k))), .inr 4]) (ρ := [some (.scr ns), some (.int size), some (.lst true (names.map .str)), none, some (.int (k : Int)), none, none, none, none, none, none]) rfl (hM (cell ns (4 + k)) k) 
    have a3 := apply_pure (its := [.inl (.int (mixed (cell ns (4 + k)) k)), .inr 2, .inr 1]) (ρ := [some (.scr ns), some (.int size), some (.lst true (names.map .str)), none, some (.int (k : Int)), none, none, none, none, none, none]) rfl (hR (mixed (cell ns (4 + k)) k) (mixed (cell ns (4 + k)) k).toNat true names size (by have := mixed_lo (cell ns (4 + k)) k; omega) (by omega) (by omega))
    simp [ev_call, evalA, argR, argN, evE, a1, a2, a3]
theorem say_op {x : Str} : D.tup [.str "say", .str x] = rowD (.say (.inr x)) := rfl
theorem c2_rows {G : Ctx} {a b c d e f g h : Option D} {names : List Str} {t : Option D} (hl : names.length ≤ 1000) :
    evE G c2__law_rows_by [a, b, some (.lst true (names.map .str)), c, d, e, f, g, h, t, none] = .ok (.lst true ((names.map fun x => Rw.say (.inr x)).map rowD), [a, b, some (.lst true (names.map .str)), c, d, e, f, g, h, t, none]) := by
  have e1 : evalIt G (.seq (.bnm 2)) [a, b, some (.lst true (names.map .str)), c, d, e, f, g, h, t, none] = .ok ((names.map .str, some (2, .lst true (names.map .str))), [a, b, some (.lst true (names.map .str)), c, d, e, f, g, h, t, none]) := by
    simp [evalIt, itSeq, slotW, frzL_strs]
  rw [c2__law_rows_by, ev_lcn, e1, Out.bind_ok]
  rw [lcn_all (fun d => D.tup [.str "say", d])]
  · simp [List.map_map, Function.comp_def, rowD, k_say]
  · show (List.map _ _).length < lim
    rw [List.length_map]; exact Nat.lt_of_le_of_lt hl (by decide)
  · intro ρ hw
    rw [stayE_iff]
    have := congrArg (fun ρ => getv ρ 2) hw
    simp only [getv_wipeE] at this
    simpa using this
  · intro d hd
    obtain ⟨x, hx, rfl⟩ := List.mem_map.mp hd
    exact ⟨[a, b, some (.lst true (names.map .str)), c, d, e, f, g, h, t, some (.str x)], by simp [asgT, setv, wipeE], [a, b, some (.lst true (names.map .str)), c, d, e, f, g, h, t, some (.str x)], by simp [evE, evalL], by simp [wipeE]⟩
theorem m_rows (G : Ctx) (hS : SpSize (G.at 0)) (hM : SpMixed (G.at 1)) (hN : SpNames (G.at 2)) (hC : SpCell (G.at 3)) (hR : SpRowBy (G.at 5)) : SpRows (d__law_rows_by.run G) := fun ns => by
  have hA : asgs d__law_rows_by.body = [1, 2, 3, 5, 6, 7, 8, 9, 3, 3] := rfl
  have hc1 := c1_rows hM hC hR ns
  have hlen := names_len (cell ns 1)
  have hra : (rowsA ns).length ≤ 13 := by unfold rowsA; simp; exact size_le _
  unfold rowsBy
  have q0 : ∀ ρ : Env, getv ρ 0 = some (.scr ns) → applyF (G.at 3) [.inr 0, .inl (.int 0)] ρ = .ok (.int (cell ns 0), ρ) := fun ρ h => apply_pure (ds := [.scr ns, .int 0]) (by simp [looks, look, h]) (hC ns 0 0 rfl)
  have q1 : ∀ ρ : Env, getv ρ 0 = some (.scr ns) → applyF (G.at 3) [.inr 0, .inl (.int 1)] ρ = .ok (.int (cell ns 1), ρ) := fun ρ h => apply_pure (ds := [.scr ns, .int 1]) (by simp [looks, look, h]) (hC ns 1 1 rfl)
  have q2 : ∀ ρ : Env, applyF (G.at 0) [.inl (.int (cell ns 0))] ρ = .ok (.int (sizeBy (cell ns 0)), ρ) := fun ρ => apply_pure (ds := [.int (cell ns 0)]) (by simp [looks, look]) (hS (cell ns 0))
  have q3 : ∀ ρ : Env, applyF (G.at 2) [.inl (.int (cell ns 1))] ρ = .ok (.lst true ((namesBy (cell ns 1)).map .str), ρ) := fun ρ => apply_pure (ds := [.int (cell ns 1)]) (by simp [looks, look]) (hN (cell ns 1))
  have q4 : ∀ ρ : Env, applyF (G.at 1) [.inl (.int (cell ns 0 + 3 * cell ns 1)), .inl (.int 50)] ρ = .ok (.int (moreOf ns), ρ) := fun ρ => by
    have := hM (cell ns 0 + 3 * cell ns 1) 50
    have e : mixed (cell ns 0 + 3 * cell ns 1) 50 = (moreOf ns : Int) := by have := mixed_lo (cell ns 0 + 3 * cell ns 1) 50; unfold moreOf; omega
    rw [e] at this
    exact apply_pure (ds := [.int (cell ns 0 + 3 * cell ns 1), .int 50]) (by simp [looks, look]) this
  generalize namesBy (cell ns 1) = names at *
  generalize sizeBy (cell ns 0) = size at *
  generalize rowsA ns = rows at *
  generalize moreOf ns = more at *
  generalize cell ns 0 = c0 at *
  generalize cell ns 1 = c1 at *
  have main : ∃ ρ', exB G d__law_rows_by.body [some (.scr ns), none, none, none, none, none, none, none, none, none, none] = .ok (.rt (.lst true ((rowsC (rowsB rows names more) names more).map rowD)) ρ') ∧ getv ρ' 0 = some (.scr ns) := by
    unfold d__law_rows_by
    have fin : ∀ (rs : List Rw) (a b c d e : Option D), rs.length ≤ 1000 → ∃ ρ', exB G [.ifs (.cmp .lt (.bin .mod (.bin .fdiv (.lnm 5) (.ci 1009)) (.ci 3)) (.ci 2)) [.set 3 (.bin .add (.lnm 3) c2__law_rows_by)] [], .ret (.mv 3)]
        [some (.scr ns), some (.int size), some (.lst true (names.map .str)), some (.lst true (rs.map rowD)), none, some (.int more), a, b, c, d, none] = .ok (.rt (.lst true ((rowsC rs names more).map rowD)) ρ') ∧ getv ρ' 0 = some (.scr ns) := by
      intro rs a b c d e hl
      unfold rowsC
      by_cases hm : more / 1009 % 3 < 2
      · have hm' : (more : Int) / 1009 % 3 < 2 := by omega
        have hc2 := fun (x : Option D) (a b c d : Option D) => c2_rows (G := G) (a := some (.scr ns)) (b := some (.int size)) (c := x) (d := none) (e := some (.int more)) (f := a) (g := b) (h := c) (t := d) (names := names) (by omega)
        have hll : rs.length + names.length ≤ lim := Nat.le_trans (show _ ≤ 1005 by omega) (by decide)
        rw [if_pos hm]
        refine ⟨_, (xb_nx (ρ' := [some (.scr ns), some (.int size), some (.lst true (names.map .str)), some (.lst true ((rs ++ names.map fun x => Rw.say (.inr x)).map rowD)), none, some (.int more), a, b, c, d, none]) ?_).trans (xb_rt (x_mv rfl)), rfl⟩
        refine (x_ifT (ρ' := [some (.scr ns), some (.int size), some (.lst true (names.map .str)), some (.lst true (rs.map rowD)), none, some (.int more), a, b, c, d, none]) (by simp [tstF, evE, argN, hm'])).trans (xb_one ?_)
        have an : ∀ f ρ, argN c2__law_rows_by f ρ = (f ρ).bind fun x => .ok (.inl x.1, x.2) := fun f ρ => argN_def rfl
        simp [exS, evE, argN_lnm, an, hc2, setv, fzdL_rows, hll, -List.map_map]
      · have hm' : ¬ (more : Int) / 1009 % 3 < 2 := by omega
        rw [if_neg hm]
        refine ⟨_, (xb_nx (ρ' := [some (.scr ns), some (.int size), some (.lst true (names.map .str)), some (.lst true (rs.map rowD)), none, some (.int more), a, b, c, d, none]) ?_).trans (xb_rt (x_mv rfl)), rfl⟩
        exact (x_ifF (ρ' := [some (.scr ns), some (.int size), some (.lst true (names.map .str)), some (.lst true (rs.map rowD)), none, some (.int more), a, b, c, d, none]) (by simp [tstF, evE, argN, hm'])).trans xb_nil
    have start : ∀ {r : List S} {z : Out Fl}, exB G r [some (.scr ns), some (.int size), some (.lst true (names.map .str)), some (.lst true (rows.map rowD)), none, some (.int more), none, none, none, none, none] = z →
        exB G (.set 1 (.call 0 [(.call 3 [(.rf 0), (.ci 0)])]) :: .set 2 (.call 2 [(.call 3 [(.rf 0), (.ci 1)])]) :: .set 3 c1__law_rows_by :: .set 5 (.call 1 [(.bin .add (.call 3 [(.rf 0), (.ci 0)]) (.bin .mul (.ci 3) (.call 3 [(.rf 0), (.ci 1)]))), (.ci 50)]) :: r) [some (.scr ns), none, none, none, none, none, none, none, none, none, none] = z := by
      intro r z h
      refine (xb_nx (ρ' := [some (.scr ns), some (.int size), none, none, none, none, none, none, none, none, none]) (by simp [exS, ev_call, evalA, argR, evE, q0, q2, setv])).trans ?_
      refine (xb_nx (ρ' := [some (.scr ns), some (.int size), some (.lst true (names.map .str)), none, none, none, none, none, none, none, none]) (by simp [exS, ev_call, evalA, argR, evE, q1, q3, setv])).trans ?_
      refine (xb_nx (ρ' := [some (.scr ns), some (.int size), some (.lst true (names.map .str)), some (.lst true (rows.map rowD)), none, none, none, none, none, none, none]) (by simp [exS, hc1, setv])).trans ?_
      exact (xb_nx (ρ' := [some (.scr ns), some (.int size), some (.lst true (names.map .str)), some (.lst true (rows.map rowD)), none, some (.int more), none, none, none, none, none]) (by simp [exS, ev_call, evalA, argR, evE, argN, q0, q1, q4, setv])).trans h
    by_cases hm : more % 3 < 2
    · have hm' : (more : Int) % 3 < 2 := by omega
      have e3 : rowsB rows names more = rows ++ [.st (nmAt names more 2) (.inr (nmAt names more 0)), .st (nmAt names more 0) (.inr (nmAt names more 1)), .st (nmAt names more 1) (.inr (nmAt names more 2))] ++
        [.nought (if more / 9 % 4 = 0 then .inr (nmAt names more 0) else if more / 9 % 4 = 1 then .inr (nmAt names more 1) else if more / 9 % 4 = 2 then .inl 0 else .inr (nmAt names more 2)) (more / 36 % (rows.length + 3))] := by unfold rowsB; rw [if_pos hm]
      obtain ⟨ρ', h1, h2⟩ := fin (rowsB rows names more) (some (.int ((more / 3 % names.length : Nat) : Int))) (some (.str (nmAt names more 0))) (some (.str (nmAt names more 1))) (some (.str (nmAt names more 2))) none (by rw [e3]; simp; omega)
      refine ⟨ρ', start ((xb_nx ?_).trans h1), h2⟩
      refine (x_ifT (ρ' := [some (.scr ns), some (.int size), some (.lst true (names.map .str)), some (.lst true (rows.map rowD)), none, some (.int more), none, none, none, none, none]) (by simp [tstF, evE, argN, hm'])).trans ?_
      have hj : more / 3 % names.length < names.length := Nat.mod_lt _ (by omega)
      have t3 : ((names.drop (more / 3 % names.length) ++ names.take (more / 3 % names.length)).map D.str).take 3 = [.str (nmAt names more 0), .str (nmAt names more 1), .str (nmAt names more 2)] := by
        unfold nmAt
        have hl : 3 ≤ (names.drop (more / 3 % names.length) ++ names.take (more / 3 % names.length)).length := by simp; omega
        generalize names.drop (more / 3 % names.length) ++ names.take (more / 3 % names.length) = l at *
        match l, hl with
        | a :: b :: c :: l, _ => simp
      have e6 : evE G (.bin .mod (.bin .fdiv (.lnm 5) (.ci 3)) (.b1 .len (.bnm 2))) [some (.scr ns), some (.int size), some (.lst true (names.map .str)), some (.lst true (rows.map rowD)), none, some (.int more), none, none, none, none, none] =
          .ok (.int ((more / 3 % names.length : Nat) : Int), [some (.scr ns), some (.int size), some (.lst true (names.map .str)), some (.lst true (rows.map rowD)), none, some (.int more), none, none, none, none, none]) := by
        have h0 : 0 < names.length := by omega
        simp [evE, argN, h0]
      refine (xb_nx (ρ' := [some (.scr ns), some (.int size), some (.lst true (names.map .str)), some (.lst true (rows.map rowD)), none, some (.int more), some (.int ((more / 3 % names.length : Nat) : Int)), none, none, none, none]) (x_set e6 (by simp))).trans ?_
      clear e6
      have cd1 := cut_drop (l := names.map D.str) (j := more / 3 % names.length) (by simp; omega)
      have cd2 := cut_take (l := names.map D.str) (j := more / 3 % names.length) (by simp; omega)
      have cd3 := cut_take (l := (names.drop (more / 3 % names.length) ++ names.take (more / 3 % names.length)).map D.str) (j := 3) (by simp; omega)
      have fz1 : fzdL ((names.map D.str).drop (more / 3 % names.length)) = true := by rw [← List.map_drop]; exact fzdL_strs
      have fz2 : fzdL ((names.map D.str).take (more / 3 % names.length)) = true := by rw [← List.map_take]; exact fzdL_strs
      have ln : names.length - more / 3 % names.length + min (more / 3 % names.length) names.length ≤ lim := Nat.le_trans (show _ ≤ 10 by omega) (by decide)
      have e7 : evE G (.sl (.bin .add (.sl (.lnm 2) (.nm 6) .np) (.sl (.lnm 2) .np (.nm 6))) .np (.ci 3)) [some (.scr ns), some (.int size), some (.lst true (names.map .str)), some (.lst true (rows.map rowD)), none, some (.int more), some (.int ((more / 3 % names.length : Nat) : Int)), none, none, none, none] =
          .ok (.lst true [.str (nmAt names more 0), .str (nmAt names more 1), .str (nmAt names more 2)], [some (.scr ns), some (.int size), some (.lst true (names.map .str)), some (.lst true (rows.map rowD)), none, some (.int more), some (.int ((more / 3 % names.length : Nat) : Int)), none, none, none, none]) := by
        rw [t3] at cd3
        generalize more / 3 % names.length = j at *
        simp [evE, argN, argP, fzdL_strs, cd1, cd2, fz1, fz2, fzdL_append, ln]
        simpa using cd3
      refine (xb_nx (ρ' := [some (.scr ns), some (.int size), some (.lst true (names.map .str)), some (.lst true (rows.map rowD)), none, some (.int more), some (.int ((more / 3 % names.length : Nat) : Int)), some (.str (nmAt names more 0)), some (.str (nmAt names more 1)), some (.str (nmAt names more 2)), none]) ?_).trans ?_
      · show exS G (.sets _ _) _ = _
        simp only [exS, e7, Out.bind_ok]
        simp [asgT, asgL, setv]
      clear e7
      generalize more / 3 % names.length = j at *
      generalize nmAt names more 0 = x0 at *
      generalize nmAt names more 1 = x1 at *
      generalize nmAt names more 2 = x2 at *
      refine (xb_nx (ρ' := [some (.scr ns), some (.int size), some (.lst true (names.map .str)), some (.lst true ((rows ++ [Rw.st x2 (.inr x0), .st x0 (.inr x1), .st x1 (.inr x2)]).map rowD)), none, some (.int more), some (.int (j : Int)), some (.str x0), some (.str x1), some (.str x2), none]) ?_).trans ?_
      · have hl : rows.length + 3 ≤ lim := Nat.le_trans (show _ ≤ 16 by omega) (by decide)
        simp [exS, evE, evalL, argN, setv, fzdL_rows, hl, rowD, k_set]
      rw [e3]
      refine xb_one ?_
      have c4 : more / 9 % 4 = 0 ∨ more / 9 % 4 = 1 ∨ more / 9 % 4 = 2 ∨ more / 9 % 4 = 3 := by omega
      have hl : rows.length + 3 < lim := Nat.lt_of_le_of_lt (show _ ≤ 16 by omega) (by decide)
      have hp : (0 : Int) < (rows.length : Int) + 3 := by omega
      rcases c4 with c | c | c | c
      · have c' : (more : Int) / 9 % 4 = 0 := by omega
        simp [exS, evE, evalL, argN, pathE, nodeAt, nodeOk, mendE, mend, P.slot, moD, appD, c, c', hl, hp, ixN, rowD, k_set, k_nought]
      · have c' : (more : Int) / 9 % 4 = 1 := by omega
        simp [exS, evE, evalL, argN, pathE, nodeAt, nodeOk, mendE, mend, P.slot, moD, appD, c, c', hl, hp, ixN, rowD, k_set, k_nought]
      · have c' : (more : Int) / 9 % 4 = 2 := by omega
        simp [exS, evE, evalL, argN, pathE, nodeAt, nodeOk, mendE, mend, P.slot, moD, appD, c, c', hl, hp, ixN, rowD, k_set, k_nought]
      · have c' : (more : Int) / 9 % 4 = 3 := by omega
        simp [exS, evE, evalL, argN, pathE, nodeAt, nodeOk, mendE, mend, P.slot, moD, appD, c, c', hl, hp, ixN, rowD, k_set, k_nought]
    · have hm' : ¬ (more : Int) % 3 < 2 := by omega
      have e3 : rowsB rows names more = rows := by unfold rowsB; rw [if_neg hm]
      obtain ⟨ρ', h1, h2⟩ := fin (rowsB rows names more) none none none none none (by rw [e3]; omega)
      refine ⟨ρ', start ((xb_nx ?_).trans h1), h2⟩
      rw [e3]
      exact (x_ifF (ρ' := [some (.scr ns), some (.int size), some (.lst true (names.map .str)), some (.lst true (rows.map rowD)), none, some (.int more), none, none, none, none, none]) (by simp [tstF, evE, argN, hm'])).trans xb_nil
  obtain ⟨ρ', h1, h2⟩ := main
  rw [run_rt rfl h1, hA]
  simp [d__law_rows_by, h2]
end VL
/-! mirrors, part 13: the rows are rows -/
namespace VL
open PySem PySem.Spec L2
theorem nmAt_ok {c : Int} {more j : Nat} (hj : j < 3) : OkN (nmAt (namesBy c) more j) := by
  unfold nmAt
  have hl := names_len c
  have : j < ((namesBy c).drop (more / 3 % (namesBy c).length) ++ (namesBy c).take (more / 3 % (namesBy c).length)).length := by simp; omega
  rw [List.getD_eq_getElem?_getD, List.getElem?_eq_getElem this, Option.getD_some]
  refine names_ok (c := c) ?_
  have := List.getElem_mem this
  rcases List.mem_append.mp this with h | h
  · exact List.mem_of_mem_drop h
  · exact List.mem_of_mem_take h
theorem rowsA_ok {ns : List Int} : ∀ r ∈ rowsA ns, OkR r ∧ OkG (sizeBy (cell ns 0)) r := fun r hr => by
  unfold rowsA at hr
  obtain ⟨k, _, rfl⟩ := List.mem_map.mp hr
  exact rowBy_ok
theorem rowsA_len {ns : List Int} : (rowsA ns).length = sizeBy (cell ns 0) := by simp [rowsA]
theorem OkG.mono {m n : Nat} {r : Rw} (h : OkG m r) (hl : m ≤ n) : OkG n r := by
  cases r <;> first
    | trivial
    | (exact Nat.le_trans h hl)
theorem rowsB_ok {rows : List Rw} {c : Int} {more : Nat} (h : OkRows rows) : OkRows (rowsB rows (namesBy c) more) := by
  unfold rowsB
  split
  · intro r hr
    simp only [List.mem_append, List.mem_cons, List.not_mem_nil, or_false] at hr
    have a0 : OkN (nmAt (namesBy c) more 0) := nmAt_ok (by decide)
    have a1 : OkN (nmAt (namesBy c) more 1) := nmAt_ok (by decide)
    have a2 : OkN (nmAt (namesBy c) more 2) := nmAt_ok (by decide)
    rcases hr with (hr | rfl | rfl | rfl) | rfl
    · exact ⟨(h r hr).1, (h r hr).2.mono (by simp)⟩
    · exact ⟨⟨fun x hx => (by cases hx; exact a2), fun a ha => by simp [Rw.ops] at ha; subst ha; exact a0⟩, trivial⟩
    · exact ⟨⟨fun x hx => (by cases hx; exact a0), fun a ha => by simp [Rw.ops] at ha; subst ha; exact a1⟩, trivial⟩
    · exact ⟨⟨fun x hx => (by cases hx; exact a1), fun a ha => by simp [Rw.ops] at ha; subst ha; exact a2⟩, trivial⟩
    · refine ⟨⟨fun x hx => (by cases hx), fun a ha => ?_⟩, ?_⟩
      · simp only [Rw.ops, List.mem_singleton] at ha
        subst ha
        split
        · exact a0
        · split
          · exact a1
          · split
            · trivial
            · exact a2
      · have hm := Nat.mod_lt (more / 36) (show 0 < rows.length + 3 by omega)
        show more / 36 % (rows.length + 3) ≤ _
        simp; omega
  · exact h
theorem rowsC_ok {rows : List Rw} {c : Int} {more : Nat} (h : OkRows rows) : OkRows (rowsC rows (namesBy c) more) := by
  unfold rowsC
  split
  · intro r hr
    have hlen : rows.length ≤ (rows ++ (namesBy c).map fun x => Rw.say (.inr x)).length := by simp
    rcases List.mem_append.mp hr with hr | hr
    · exact ⟨(h r hr).1, (h r hr).2.mono hlen⟩
    · obtain ⟨x, hx, rfl⟩ := List.mem_map.mp hr
      exact ⟨⟨fun x hx => (by cases hx), fun a ha => by simp [Rw.ops] at ha; subst ha; exact names_ok hx⟩, trivial⟩
  · exact h
theorem rows_ok (ns : List Int) : OkRows (rowsBy ns) := rowsC_ok (rowsB_ok fun r hr => by rw [rowsA_len]; exact rowsA_ok r hr)
theorem rows_len (ns : List Int) : (rowsBy ns).length ≤ 22 := by
  have h1 := size_le (cell ns 0)
  have h2 := names_len (cell ns 1)
  have h3 : (rowsA ns).length ≤ 13 := by rw [rowsA_len]; exact h1
  unfold rowsBy rowsC rowsB
  split <;> split <;> simp <;> omega
/-! ### == of rows -/
theorem OkN.strOk {x : Str} (h : OkN x) : PyData.strOk x = true := by
  unfold PyData.strOk
  rw [← Array.all_toList, List.all_eq_true]
  intro c hc
  have := h.let_ c hc
  exact decide_eq_true (by omega)
theorem kd_ok : ∀ k : Kd, PyData.strOk (kd k) = true := fun k => by cases k <;> decide +kernel
theorem pl_op {n : Nat} {a : Key} (h : OkA a) : pl n (opD a) = true := by
  cases a with
  | inl i => exact pl_int
  | inr x => cases n <;> exact OkN.strOk h
theorem pl_str {n : Nat} {x : Str} (h : PyData.strOk x = true) : pl n (.str x) = true := by cases n <;> exact h
theorem pl_row {n : Nat} {r : Rw} (h : OkR r) : pl (n + 1) (rowD r) = true := by
  cases r with
  | st x a => simp [rowD, pl, pl_str, kd_ok, pl_op (h.ops a (by simp [Rw.ops])), (h.own x rfl).strOk]
  | ar k x a b => simp [rowD, pl, pl_str, kd_ok, pl_op (h.ops a (by simp [Rw.ops])), pl_op (h.ops b (by simp [Rw.ops])), (h.own x rfl).strOk]
  | say a => simp [rowD, pl, pl_str, kd_ok, pl_op (h.ops a (by simp [Rw.ops]))]
  | jump g => simp [rowD, pl, pl_str, kd_ok, pl_int]
  | stop => simp [rowD, pl, pl_str, kd_ok]
  | nought a g => simp [rowD, pl, pl_str, kd_ok, pl_int, pl_op (h.ops a (by simp [Rw.ops]))]
theorem plain_rows {o : Bool} {rows : List Rw} (h : ∀ r ∈ rows, OkR r) : plain (.lst o (rows.map rowD)) = true := by
  unfold plain pl
  rw [List.all_eq_true]
  intro d hd
  obtain ⟨r, hr, rfl⟩ := List.mem_map.mp hd
  exact pl_row (h r hr)
theorem eq_rows {o p : Bool} {rows : List Rw} (h : ∀ r ∈ rows, OkR r) : eqD (.lst o (rows.map rowD)) (.lst p (rows.map rowD)) = .ok true := by
  rw [eqD_lst, plain_rows h, plain_rows h]
  simp [eqv_iff, frzL_rows]
theorem eq_kn {o p : Bool} {ks : List KD} {vs : List Int} (h : KL ks) : eqD (knD o ks vs) (knD p ks vs) = .ok true := by
  unfold knD eqD
  dsimp only
  have h1 : ks.all (·.isLeft) = true := List.all_eq_true.mpr h
  rw [h1]
  have hv : (vs.all fun _ => true) = true := by simp
  simp [List.all_map, Function.comp_def, hv]
theorem vals_len {names : List Str} {c : Int} (h : names.length ≤ 5) : KL (valsBy names c).1 ∧ (valsBy names c).1.length ≤ 5 := by
  have := vals_kl (names := names) (c := c) (List.range names.length) ([], []) KL_nil
  unfold valsBy
  refine ⟨this.1, ?_⟩
  have h2 := this.2
  simp only [List.length_nil, List.length_range] at h2
  omega
end VL
namespace VL
open PySem PySem.Spec L2
def d__law_next : Df := ⟨3, 2, [
    .ifs (.cmp .eq (.lnm 1) (.b1 .len (.bnm 0))) [
      .ret (.lst [])] [],
    .set 2 (.sub (.lnm 0) (.nm 1)),
    .ifs (.cmp .eq (.sub (.lnm 2) (.ci 0)) (.cs "jump")) [
      .ret (.lst [(.sub (.lnm 2) (.ci 1))])] [],
    .ifs (.cmp .eq (.sub (.lnm 2) (.ci 0)) (.cs "stop")) [
      .ret (.lst [(.b1 .len (.bnm 0))])] [],
    .ifs (.and2 (.cmp .eq (.sub (.lnm 2) (.ci 0)) (.cs "nought")) (.and1 (.cmp .ne (.sub (.lnm 2) (.ci 2)) (.bin .add (.lnm 1) (.ci 1))))) [
      .ret (.lst [(.b2 .min (.sub (.lnm 2) (.ci 2)) (.bin .add (.lnm 1) (.ci 1))), (.b2 .max (.sub (.lnm 2) (.ci 2)) (.bin .add (.lnm 1) (.ci 1)))])] [],
    .ret (.lst [(.bin .add (.lnm 1) (.ci 1))])]⟩
def t1__law_reached : E := (.cmp .lt (.lnm 2) (.b1 .len (.bnm 1)))
def c1__law_reached : E := (.lc [3] (.one 3) (.seq (.call 21 [(.rf 0), (.sub (.lnm 1) (.nm 2))])) (.inn true (.lnm 3) (.bnm 1)) (.nm 3))
def b1__law_reached : List S := [
    .set 1 (.bin .add (.lnm 1) c1__law_reached),
    .set 2 (.bin .add (.lnm 2) (.ci 1))]
def l1__law_reached : S := .whl t1__law_reached b1__law_reached
def d__law_reached : Df := ⟨4, 1, [
    .set 1 (.lst [(.ci 0)]),
    .set 2 (.ci 0),
    l1__law_reached,
    .ret (.c1 .sorted (.lnm 1))]⟩
def d_next_places : Df := ⟨3, 2, [
    .ifs (.cmp .eq (.lnm 1) (.b1 .len (.bnm 0))) [
      .ret (.lst [])] [],
    .set 2 (.sub (.lnm 0) (.nm 1)),
    .ifs (.cmp .eq (.sub (.lnm 2) (.ci 0)) (.cs "jump")) [
      .ret (.lst [(.sub (.lnm 2) (.ci 1))])] [],
    .ifs (.cmp .eq (.sub (.lnm 2) (.ci 0)) (.cs "stop")) [
      .ret (.lst [(.b1 .len (.bnm 0))])] [],
    .ifs (.cmp .eq (.sub (.lnm 2) (.ci 0)) (.cs "nought")) [
      .ret (.c1 .sset (.lst [(.bin .add (.lnm 1) (.ci 1)), (.sub (.lnm 2) (.ci 2))]))] [],
    .ret (.lst [(.bin .add (.lnm 1) (.ci 1))])]⟩
def t1_reached : E := (.cmp .gt (.b1 .len (.bnm 2)) (.ci 0))
def b2_reached : List S := [
    .ifs (.inn true (.lnm 3) (.bnm 1)) [
      .seti (.root 1) (.nm 3) (.cb true),
      .set 2 (.bin .add (.lnm 2) (.lst [(.nm 3)]))] []]
def l2_reached : S := .for_ (.one 3) (.seq (.call 23 [(.rf 0), (.pop 2)])) b2_reached
def b1_reached : List S := [
    l2_reached]
def l1_reached : S := .whl t1_reached b1_reached
def d_reached : Df := ⟨4, 1, [
    .ex (.call 12 [(.rf 0)]),
    .set 1 (.dct [(.ci 0), (.cb true)]),
    .set 2 (.lst [(.ci 0)]),
    l1_reached,
    .ret (.c1 .sorted (.lnm 1))]⟩
def c1_comers : E := (.lcn [3] (.one 3) (.rng (.bin .add (.b1 .len (.bnm 0)) (.ci 1))) (.lst []))
def b2_comers : List S := [
    .moi .app 2 (.nm 4) (.nm 3)]
def l2_comers : S := .for_ (.one 4) (.seq (.call 23 [(.rf 0), (.rf 3)])) b2_comers
def b1_comers : List S := [
    l2_comers]
def l1_comers : S := .for_ (.one 3) (.seq (.bnm 1)) b1_comers
def d_comers : Df := ⟨5, 1, [
    .set 1 (.call 24 [(.rf 0)]),
    .set 2 c1_comers,
    .moi .app 2 (.ci 0) (.neg (.ci 1)),
    l1_comers,
    .ret (.mv 2)]⟩
def c1__law_numbers : E := (.lc [2] (.one 2) (.seq (.bnm 0)) (.not_ (.call 17 [(.rf 2)])) (.nm 2))
def d__law_numbers : Df := ⟨3, 2, [
    .ret (.and2 (.isi (.bnm 0) .list) (.and2 (.cmp .eq (.lnm 0) (.bnm 1)) (.and1 (.cmp .eq c1__law_numbers (.lst [])))))]⟩
end VL
namespace VL
open PySem PySem.Spec L2
def c1_read : E := (.lc [1] (.one 1) (.seq (.call 10 [(.rf 0)])) (.not_ (.call 9 [(.rf 1)])) (.nm 1))
def d_read : Df := ⟨2, 1, [
    .ret c1_read]⟩
def c1_names_wanted : E := (.lcn [3] (.one 3) (.rng (.bin .add (.b1 .len (.bnm 0)) (.ci 1))) (.dct []))
def t1_names_wanted : E := (.nm 4)
def c2_names_wanted : E := (.lcn [6] (.one 6) (.seq (.call 27 [(.sub (.lnm 0) (.nm 3))])) (.tup [(.nm 6), (.cb true)]))
def b4_names_wanted : List S := [
    .ifs (.cmp .ne (.lnm 6) (.call 14 [(.sub (.lnm 0) (.nm 3))])) [
      .seti (.root 5) (.nm 6) (.cb true)] []]
def l4_names_wanted : S := .for_ (.one 6) (.dk (.sub (.lnm 2) (.nm 7))) b4_names_wanted
def b3_names_wanted : List S := [
    l4_names_wanted]
def l3_names_wanted : S := .for_ (.one 7) (.seq (.call 23 [(.rf 0), (.rf 3)])) b3_names_wanted
def b2_names_wanted : List S := [
    .ifs (.cmp .lt (.lnm 3) (.b1 .len (.bnm 0))) [
      .set 5 (.c1 .dict c2_names_wanted),
      l3_names_wanted,
      .set 4 (.or2 (.nm 4) (.or1 (.cmp .gt (.b1 .len (.bnm 5)) (.b1 .len (.bsub 2 (.nm 3)))))),
      .seti (.root 2) (.nm 3) (.nm 5)] []]
def l2_names_wanted : S := .for_ (.one 3) (.rev (.nm 1)) b2_names_wanted
def b1_names_wanted : List S := [
    .set 4 (.cb false),
    l2_names_wanted]
def l1_names_wanted : S := .whl t1_names_wanted b1_names_wanted
def c3_names_wanted : E := (.lcn [8] (.one 8) (.seq (.bnm 2)) (.c1 .sorted (.lnm 8)))
def d_names_wanted : Df := ⟨9, 1, [
    .set 1 (.call 24 [(.rf 0)]),
    .set 2 c1_names_wanted,
    .set 4 (.cb true),
    l1_names_wanted,
    .ret c3_names_wanted]⟩
def d__law_own : Df := ⟨1, 1, [
    .ifs (.inn false (.sub (.lnm 0) (.ci 0)) (.tup [(.cs "set"), (.cs "add"), (.cs "sub"), (.cs "less")])) [
      .ret (.sub (.lnm 0) (.ci 1))] [],
    .ret .cn]⟩
def t1__law_is_wanted : E := (.cmp .lt (.lnm 4) (.b1 .len (.bnm 3)))
def c1__law_is_wanted : E := (.lc [6] (.one 6) (.seq (.call 21 [(.rf 0), (.rf 5)])) (.inn true (.lnm 6) (.bnm 3)) (.nm 6))
def b1__law_is_wanted : List S := [
    .set 5 (.sub (.lnm 3) (.nm 4)),
    .set 4 (.bin .add (.lnm 4) (.ci 1)),
    .ifs (.cmp .lt (.lnm 5) (.b1 .len (.bnm 0))) [
      .ifs (.inn false (.lnm 2) (.call 19 [(.sub (.lnm 0) (.nm 5))])) [
        .ret (.cb true)] [],
      .ifs (.cmp .ne (.call 29 [(.sub (.lnm 0) (.nm 5))]) (.bnm 2)) [
        .set 3 (.bin .add (.lnm 3) c1__law_is_wanted)] []] []]
def l1__law_is_wanted : S := .whl t1__law_is_wanted b1__law_is_wanted
def d__law_is_wanted : Df := ⟨7, 3, [
    .set 3 (.lst [(.nm 1)]),
    .set 4 (.ci 0),
    l1__law_is_wanted,
    .ret (.cb false)]⟩
end VL
namespace K03
open PySem PySem.Spec L2 VL
def c1_law : E := (.lc [8] (.one 8) (.seq (.bnm 5)) (.and2 (.inn false (.lnm 6) (.bnm 4)) (.and1 (.call 30 [(.rf 1), (.rf 6), (.rf 8)]))) (.nm 8))
def c2_law : E := (.lc [8] (.one 8) (.seq (.sub (.lnm 3) (.nm 6))) (.not_ (.isi (.bnm 8) .str)) (.nm 8))
def b1_law : List S := [
    .set 7 c1_law,
    .ifs (.or2 (.not_ (.isi (.bsub 3 (.nm 6)) .list)) (.or1 (.cmp .ne (.sub (.lnm 3) (.nm 6)) (.bnm 7)))) [
      .ret (.cb false)] [],
    .ifs (.cmp .ne c2_law (.lst [])) [
      .ret (.cb false)] []]
def l1_law : S := .for_ (.one 6) (.rng (.bin .add (.b1 .len (.bnm 1)) (.ci 1))) b1_law
def d_law : Df := ⟨9, 1, [
    .set 1 (.call 6 [(.rf 0)]),
    .set 2 (.c1 .list (.lnm 1)),
    .set 3 (.call 28 [(.rf 2)]),
    .ifs (.or2 (.cmp .ne (.lnm 2) (.bnm 1)) (.or2 (.not_ (.isi (.bnm 3) .list)) (.or1 (.cmp .ne (.b1 .len (.bnm 3)) (.bin .add (.b1 .len (.bnm 1)) (.ci 1)))))) [
      .ret (.cb false)] [],
    .set 4 (.call 22 [(.rf 1)]),
    .set 5 (.c1 .sorted (.call 2 [(.call 3 [(.rf 0), (.ci 1)])])),
    l1_law,
    .ret (.cb true)]⟩
def topS (i : Nat) : Stmt := PySem.Challenge.pw_joinmarks_k03_names_wanted.main.body.getD i (.Pass ⟨0, 0, 0, 0⟩)
def ts0 : List DfT := [
  ⟨"_law_size_by", topS 24, ["_law_cell"], ["_law_cell"], d__law_size_by⟩,
  ⟨"_law_mixed", topS 20, ["_law_cell", "_law_k"], ["_law_cell", "_law_k", "_law_number"], d__law_mixed⟩,
  ⟨"_law_names_by", topS 21, ["_law_cell"], ["_law_cell", "_law_letters", "_law_many", "_law_base", "_law_k", "_law_at", "_law_first", "_law_names"], d__law_names_by⟩,
  ⟨"_law_cell_at", topS 19, ["_law_script", "_law_k"], ["_law_script", "_law_k"], d__law_cell_at⟩,
  ⟨"_law_operand_by", topS 22, ["_law_number", "_law_names"], ["_law_number", "_law_names"], d__law_operand_by⟩,
  ⟨"_law_row_by", topS 23, ["_law_number", "_law_names", "_law_size"], ["_law_number", "_law_names", "_law_size", "_law_name", "_law_one", "_law_other", "_law_goal", "_law_kind"], d__law_row_by⟩,
  ⟨"_law_rows_by", topS 25, ["_law_script"], ["_law_script", "_law_size", "_law_names", "_law_rows", "_law_k", "_law_more", "_law_turn", "_law_one", "_law_other", "_law_third", "_law_name"], d__law_rows_by⟩,
  ⟨"_law_size_by", topS 24, ["_law_cell"], ["_law_cell"], d__law_size_by⟩,
  ⟨"is_name", topS 8, ["thing"], ["thing", "sign"], d_is_name⟩,
  ⟨"is_whole", topS 7, ["thing"], ["thing"], d_is_whole⟩,
  ⟨"asked", topS 11, ["row"], ["row"], d_asked⟩,
  ⟨"is_row", topS 9, ["thing"], ["thing", "one"], d_is_row⟩,
  ⟨"need_rows", topS 13, ["rows"], ["rows", "row"], d_need_rows⟩,
  ⟨"_law_size_by", topS 24, ["_law_cell"], ["_law_cell"], d__law_size_by⟩,
  ⟨"written", topS 10, ["row"], ["row"], d_written⟩,
  ⟨"_law_size_by", topS 24, ["_law_cell"], ["_law_cell"], d__law_size_by⟩,
  ⟨"_law_size_by", topS 24, ["_law_cell"], ["_law_cell"], d__law_size_by⟩,
  ⟨"_law_size_by", topS 24, ["_law_cell"], ["_law_cell"], d__law_size_by⟩,
  ⟨"_law_size_by", topS 24, ["_law_cell"], ["_law_cell"], d__law_size_by⟩,
  ⟨"_law_asks", topS 28, ["_law_row"], ["_law_row"], d__law_asks⟩,
  ⟨"_law_size_by", topS 24, ["_law_cell"], ["_law_cell"], d__law_size_by⟩,
  ⟨"_law_next", topS 29, ["_law_rows", "_law_place"], ["_law_rows", "_law_place", "_law_row"], d__law_next⟩,
  ⟨"_law_reached", topS 30, ["_law_rows"], ["_law_rows", "_law_found", "_law_at", "_law_one"], d__law_reached⟩,
  ⟨"next_places", topS 14, ["rows", "place"], ["rows", "place", "row"], d_next_places⟩,
  ⟨"reached", topS 16, ["rows"], ["rows", "found", "waiting", "place"], d_reached⟩,
  ⟨"_law_size_by", topS 24, ["_law_cell"], ["_law_cell"], d__law_size_by⟩,
  ⟨"_law_size_by", topS 24, ["_law_cell"], ["_law_cell"], d__law_size_by⟩,
  ⟨"read", topS 12, ["row"], ["row", "one"], d_read⟩,
  ⟨"names_wanted", topS 17, ["rows"], ["rows", "order", "found", "place", "changed", "now", "name", "other", "names"], d_names_wanted⟩,
  ⟨"_law_own", topS 27, ["_law_row"], ["_law_row"], d__law_own⟩,
  ⟨"_law_is_wanted", topS 31, ["_law_rows", "_law_place", "_law_name"], ["_law_rows", "_law_place", "_law_name", "_law_seen", "_law_at", "_law_here", "_law_one"], d__law_is_wanted⟩]
def tL : DfT := ⟨"law", topS 32, ["_law_script"], ["_law_script", "_law_rows", "_law_handed", "_law_found", "_law_places", "_law_names", "_law_place", "_law_due", "_law_name"], d_law⟩
def gls : List Str := ["LETTERS", "MOST_SIGNS"]
def gl : List D := [.str "abcdefghijklmnopqrstuvwxyz", .int 8]
def blt : List Str := ["range", "len", "all", "isinstance", "str", "bool", "int", "list", "tuple", "sorted", "set", "reversed", "dict", "min", "max"]
theorem ckL : lawB gls blt ts0 tL = true := by decide +kernel
theorem all_mk {l : PySem.W.OpenLaw} {w : World} {K : PySem.W.Frag} {h : Heap} {mg : Str → Option Value} {fa f0 f1 f2 f3 f4 f5 f6 f7 f8 f9 f10 f11 f12 f13 f14 f15 f16 f17 f18 f19 f20 f21 f22 : Addr} (X : K.In h) (G : h.Ns mainGlobals mg) (hfa : mg "law" = some (.ref fa))
    {od0 an0 : Option Addr} {sl0 : Array (Option Value)} {oc0 kV0 dc0 pm0 cd0 ct0 : Value}
    (a0 : PySem.W.nsIn K mainGlobals "_law_size_by" = some (some (.ref f0))) (l0 : K.lookup f0 = some ⟨oc0, od0, .func (PySem.W.fnOf "_law_size_by" "_law_size_by" (defArgs (topS 24)) (defBody (topS 24)) (defScope (topS 24)) .none kV0 dc0 pm0 an0 cd0 ct0), sl0⟩) (c0 : PySem.W.codeIn K cd0 "_law_size_by" = true) (k0 : PySem.W.keepIn K (.ref f0) = true)
    {od1 an1 : Option Addr} {sl1 : Array (Option Value)} {oc1 kV1 dc1 pm1 cd1 ct1 : Value}
    (a1 : PySem.W.nsIn K mainGlobals "_law_mixed" = some (some (.ref f1))) (l1 : K.lookup f1 = some ⟨oc1, od1, .func (PySem.W.fnOf "_law_mixed" "_law_mixed" (defArgs (topS 20)) (defBody (topS 20)) (defScope (topS 20)) .none kV1 dc1 pm1 an1 cd1 ct1), sl1⟩) (c1 : PySem.W.codeIn K cd1 "_law_mixed" = true) (k1 : PySem.W.keepIn K (.ref f1) = true)
    {od2 an2 : Option Addr} {sl2 : Array (Option Value)} {oc2 kV2 dc2 pm2 cd2 ct2 : Value}
    (a2 : PySem.W.nsIn K mainGlobals "_law_names_by" = some (some (.ref f2))) (l2 : K.lookup f2 = some ⟨oc2, od2, .func (PySem.W.fnOf "_law_names_by" "_law_names_by" (defArgs (topS 21)) (defBody (topS 21)) (defScope (topS 21)) .none kV2 dc2 pm2 an2 cd2 ct2), sl2⟩) (c2 : PySem.W.codeIn K cd2 "_law_names_by" = true) (k2 : PySem.W.keepIn K (.ref f2) = true)
    {od3 an3 : Option Addr} {sl3 : Array (Option Value)} {oc3 kV3 dc3 pm3 cd3 ct3 : Value}
    (a3 : PySem.W.nsIn K mainGlobals "_law_cell_at" = some (some (.ref f3))) (l3 : K.lookup f3 = some ⟨oc3, od3, .func (PySem.W.fnOf "_law_cell_at" "_law_cell_at" (defArgs (topS 19)) (defBody (topS 19)) (defScope (topS 19)) .none kV3 dc3 pm3 an3 cd3 ct3), sl3⟩) (c3 : PySem.W.codeIn K cd3 "_law_cell_at" = true) (k3 : PySem.W.keepIn K (.ref f3) = true)
    {od4 an4 : Option Addr} {sl4 : Array (Option Value)} {oc4 kV4 dc4 pm4 cd4 ct4 : Value}
    (a4 : PySem.W.nsIn K mainGlobals "_law_operand_by" = some (some (.ref f4))) (l4 : K.lookup f4 = some ⟨oc4, od4, .func (PySem.W.fnOf "_law_operand_by" "_law_operand_by" (defArgs (topS 22)) (defBody (topS 22)) (defScope (topS 22)) .none kV4 dc4 pm4 an4 cd4 ct4), sl4⟩) (c4 : PySem.W.codeIn K cd4 "_law_operand_by" = true) (k4 : PySem.W.keepIn K (.ref f4) = true)
    {od5 an5 : Option Addr} {sl5 : Array (Option Value)} {oc5 kV5 dc5 pm5 cd5 ct5 : Value}
    (a5 : PySem.W.nsIn K mainGlobals "_law_row_by" = some (some (.ref f5))) (l5 : K.lookup f5 = some ⟨oc5, od5, .func (PySem.W.fnOf "_law_row_by" "_law_row_by" (defArgs (topS 23)) (defBody (topS 23)) (defScope (topS 23)) .none kV5 dc5 pm5 an5 cd5 ct5), sl5⟩) (c5 : PySem.W.codeIn K cd5 "_law_row_by" = true) (k5 : PySem.W.keepIn K (.ref f5) = true)
    {od6 an6 : Option Addr} {sl6 : Array (Option Value)} {oc6 kV6 dc6 pm6 cd6 ct6 : Value}
    (a6 : PySem.W.nsIn K mainGlobals "_law_rows_by" = some (some (.ref f6))) (l6 : K.lookup f6 = some ⟨oc6, od6, .func (PySem.W.fnOf "_law_rows_by" "_law_rows_by" (defArgs (topS 25)) (defBody (topS 25)) (defScope (topS 25)) .none kV6 dc6 pm6 an6 cd6 ct6), sl6⟩) (c6 : PySem.W.codeIn K cd6 "_law_rows_by" = true) (k6 : PySem.W.keepIn K (.ref f6) = true)
    {od7 an7 : Option Addr} {sl7 : Array (Option Value)} {oc7 kV7 dc7 pm7 cd7 ct7 : Value}
    (a7 : PySem.W.nsIn K mainGlobals "is_name" = some (some (.ref f7))) (l7 : K.lookup f7 = some ⟨oc7, od7, .func (PySem.W.fnOf "is_name" "is_name" (defArgs (topS 8)) (defBody (topS 8)) (defScope (topS 8)) .none kV7 dc7 pm7 an7 cd7 ct7), sl7⟩) (c7 : PySem.W.codeIn K cd7 "is_name" = true) (k7 : PySem.W.keepIn K (.ref f7) = true)
    {od8 an8 : Option Addr} {sl8 : Array (Option Value)} {oc8 kV8 dc8 pm8 cd8 ct8 : Value}
    (a8 : PySem.W.nsIn K mainGlobals "is_whole" = some (some (.ref f8))) (l8 : K.lookup f8 = some ⟨oc8, od8, .func (PySem.W.fnOf "is_whole" "is_whole" (defArgs (topS 7)) (defBody (topS 7)) (defScope (topS 7)) .none kV8 dc8 pm8 an8 cd8 ct8), sl8⟩) (c8 : PySem.W.codeIn K cd8 "is_whole" = true) (k8 : PySem.W.keepIn K (.ref f8) = true)
    {od9 an9 : Option Addr} {sl9 : Array (Option Value)} {oc9 kV9 dc9 pm9 cd9 ct9 : Value}
    (a9 : PySem.W.nsIn K mainGlobals "asked" = some (some (.ref f9))) (l9 : K.lookup f9 = some ⟨oc9, od9, .func (PySem.W.fnOf "asked" "asked" (defArgs (topS 11)) (defBody (topS 11)) (defScope (topS 11)) .none kV9 dc9 pm9 an9 cd9 ct9), sl9⟩) (c9 : PySem.W.codeIn K cd9 "asked" = true) (k9 : PySem.W.keepIn K (.ref f9) = true)
    {od10 an10 : Option Addr} {sl10 : Array (Option Value)} {oc10 kV10 dc10 pm10 cd10 ct10 : Value}
    (a10 : PySem.W.nsIn K mainGlobals "is_row" = some (some (.ref f10))) (l10 : K.lookup f10 = some ⟨oc10, od10, .func (PySem.W.fnOf "is_row" "is_row" (defArgs (topS 9)) (defBody (topS 9)) (defScope (topS 9)) .none kV10 dc10 pm10 an10 cd10 ct10), sl10⟩) (c10 : PySem.W.codeIn K cd10 "is_row" = true) (k10 : PySem.W.keepIn K (.ref f10) = true)
    {od11 an11 : Option Addr} {sl11 : Array (Option Value)} {oc11 kV11 dc11 pm11 cd11 ct11 : Value}
    (a11 : PySem.W.nsIn K mainGlobals "need_rows" = some (some (.ref f11))) (l11 : K.lookup f11 = some ⟨oc11, od11, .func (PySem.W.fnOf "need_rows" "need_rows" (defArgs (topS 13)) (defBody (topS 13)) (defScope (topS 13)) .none kV11 dc11 pm11 an11 cd11 ct11), sl11⟩) (c11 : PySem.W.codeIn K cd11 "need_rows" = true) (k11 : PySem.W.keepIn K (.ref f11) = true)
    {od12 an12 : Option Addr} {sl12 : Array (Option Value)} {oc12 kV12 dc12 pm12 cd12 ct12 : Value}
    (a12 : PySem.W.nsIn K mainGlobals "written" = some (some (.ref f12))) (l12 : K.lookup f12 = some ⟨oc12, od12, .func (PySem.W.fnOf "written" "written" (defArgs (topS 10)) (defBody (topS 10)) (defScope (topS 10)) .none kV12 dc12 pm12 an12 cd12 ct12), sl12⟩) (c12 : PySem.W.codeIn K cd12 "written" = true) (k12 : PySem.W.keepIn K (.ref f12) = true)
    {od13 an13 : Option Addr} {sl13 : Array (Option Value)} {oc13 kV13 dc13 pm13 cd13 ct13 : Value}
    (a13 : PySem.W.nsIn K mainGlobals "_law_asks" = some (some (.ref f13))) (l13 : K.lookup f13 = some ⟨oc13, od13, .func (PySem.W.fnOf "_law_asks" "_law_asks" (defArgs (topS 28)) (defBody (topS 28)) (defScope (topS 28)) .none kV13 dc13 pm13 an13 cd13 ct13), sl13⟩) (c13 : PySem.W.codeIn K cd13 "_law_asks" = true) (k13 : PySem.W.keepIn K (.ref f13) = true)
    {od14 an14 : Option Addr} {sl14 : Array (Option Value)} {oc14 kV14 dc14 pm14 cd14 ct14 : Value}
    (a14 : PySem.W.nsIn K mainGlobals "_law_next" = some (some (.ref f14))) (l14 : K.lookup f14 = some ⟨oc14, od14, .func (PySem.W.fnOf "_law_next" "_law_next" (defArgs (topS 29)) (defBody (topS 29)) (defScope (topS 29)) .none kV14 dc14 pm14 an14 cd14 ct14), sl14⟩) (c14 : PySem.W.codeIn K cd14 "_law_next" = true) (k14 : PySem.W.keepIn K (.ref f14) = true)
    {od15 an15 : Option Addr} {sl15 : Array (Option Value)} {oc15 kV15 dc15 pm15 cd15 ct15 : Value}
    (a15 : PySem.W.nsIn K mainGlobals "_law_reached" = some (some (.ref f15))) (l15 : K.lookup f15 = some ⟨oc15, od15, .func (PySem.W.fnOf "_law_reached" "_law_reached" (defArgs (topS 30)) (defBody (topS 30)) (defScope (topS 30)) .none kV15 dc15 pm15 an15 cd15 ct15), sl15⟩) (c15 : PySem.W.codeIn K cd15 "_law_reached" = true) (k15 : PySem.W.keepIn K (.ref f15) = true)
    {od16 an16 : Option Addr} {sl16 : Array (Option Value)} {oc16 kV16 dc16 pm16 cd16 ct16 : Value}
    (a16 : PySem.W.nsIn K mainGlobals "next_places" = some (some (.ref f16))) (l16 : K.lookup f16 = some ⟨oc16, od16, .func (PySem.W.fnOf "next_places" "next_places" (defArgs (topS 14)) (defBody (topS 14)) (defScope (topS 14)) .none kV16 dc16 pm16 an16 cd16 ct16), sl16⟩) (c16 : PySem.W.codeIn K cd16 "next_places" = true) (k16 : PySem.W.keepIn K (.ref f16) = true)
    {od17 an17 : Option Addr} {sl17 : Array (Option Value)} {oc17 kV17 dc17 pm17 cd17 ct17 : Value}
    (a17 : PySem.W.nsIn K mainGlobals "reached" = some (some (.ref f17))) (l17 : K.lookup f17 = some ⟨oc17, od17, .func (PySem.W.fnOf "reached" "reached" (defArgs (topS 16)) (defBody (topS 16)) (defScope (topS 16)) .none kV17 dc17 pm17 an17 cd17 ct17), sl17⟩) (c17 : PySem.W.codeIn K cd17 "reached" = true) (k17 : PySem.W.keepIn K (.ref f17) = true)
    {od18 an18 : Option Addr} {sl18 : Array (Option Value)} {oc18 kV18 dc18 pm18 cd18 ct18 : Value}
    (a18 : PySem.W.nsIn K mainGlobals "read" = some (some (.ref f18))) (l18 : K.lookup f18 = some ⟨oc18, od18, .func (PySem.W.fnOf "read" "read" (defArgs (topS 12)) (defBody (topS 12)) (defScope (topS 12)) .none kV18 dc18 pm18 an18 cd18 ct18), sl18⟩) (c18 : PySem.W.codeIn K cd18 "read" = true) (k18 : PySem.W.keepIn K (.ref f18) = true)
    {od19 an19 : Option Addr} {sl19 : Array (Option Value)} {oc19 kV19 dc19 pm19 cd19 ct19 : Value}
    (a19 : PySem.W.nsIn K mainGlobals "names_wanted" = some (some (.ref f19))) (l19 : K.lookup f19 = some ⟨oc19, od19, .func (PySem.W.fnOf "names_wanted" "names_wanted" (defArgs (topS 17)) (defBody (topS 17)) (defScope (topS 17)) .none kV19 dc19 pm19 an19 cd19 ct19), sl19⟩) (c19 : PySem.W.codeIn K cd19 "names_wanted" = true) (k19 : PySem.W.keepIn K (.ref f19) = true)
    {od20 an20 : Option Addr} {sl20 : Array (Option Value)} {oc20 kV20 dc20 pm20 cd20 ct20 : Value}
    (a20 : PySem.W.nsIn K mainGlobals "_law_own" = some (some (.ref f20))) (l20 : K.lookup f20 = some ⟨oc20, od20, .func (PySem.W.fnOf "_law_own" "_law_own" (defArgs (topS 27)) (defBody (topS 27)) (defScope (topS 27)) .none kV20 dc20 pm20 an20 cd20 ct20), sl20⟩) (c20 : PySem.W.codeIn K cd20 "_law_own" = true) (k20 : PySem.W.keepIn K (.ref f20) = true)
    {od21 an21 : Option Addr} {sl21 : Array (Option Value)} {oc21 kV21 dc21 pm21 cd21 ct21 : Value}
    (a21 : PySem.W.nsIn K mainGlobals "_law_is_wanted" = some (some (.ref f21))) (l21 : K.lookup f21 = some ⟨oc21, od21, .func (PySem.W.fnOf "_law_is_wanted" "_law_is_wanted" (defArgs (topS 31)) (defBody (topS 31)) (defScope (topS 31)) .none kV21 dc21 pm21 an21 cd21 ct21), sl21⟩) (c21 : PySem.W.codeIn K cd21 "_law_is_wanted" = true) (k21 : PySem.W.keepIn K (.ref f21) = true)
    {od22 an22 : Option Addr} {sl22 : Array (Option Value)} {oc22 kV22 dc22 pm22 cd22 ct22 : Value}
    (a22 : PySem.W.nsIn K mainGlobals "law" = some (some (.ref f22))) (l22 : K.lookup f22 = some ⟨oc22, od22, .func (PySem.W.fnOf "law" "law" (defArgs (topS 32)) (defBody (topS 32)) (defScope (topS 32)) .none kV22 dc22 pm22 an22 cd22 ct22), sl22⟩) (c22 : PySem.W.codeIn K cd22 "law" = true) (k22 : PySem.W.keepIn K (.ref f22) = true)
    (z0 : PySem.W.nsIn K mainGlobals "range" = some none)
    (z1 : PySem.W.nsIn K mainGlobals "len" = some none)
    (z2 : PySem.W.nsIn K mainGlobals "all" = some none)
    (z3 : PySem.W.nsIn K mainGlobals "isinstance" = some none)
    (z4 : PySem.W.nsIn K mainGlobals "str" = some none)
    (z5 : PySem.W.nsIn K mainGlobals "bool" = some none)
    (z6 : PySem.W.nsIn K mainGlobals "int" = some none)
    (z7 : PySem.W.nsIn K mainGlobals "list" = some none)
    (z8 : PySem.W.nsIn K mainGlobals "tuple" = some none)
    (z9 : PySem.W.nsIn K mainGlobals "sorted" = some none)
    (z10 : PySem.W.nsIn K mainGlobals "set" = some none)
    (z11 : PySem.W.nsIn K mainGlobals "reversed" = some none)
    (z12 : PySem.W.nsIn K mainGlobals "dict" = some none)
    (z13 : PySem.W.nsIn K mainGlobals "min" = some none)
    (z14 : PySem.W.nsIn K mainGlobals "max" = some none)
    {tk0 : Tok} (vg0 : PySem.W.nsIn K mainGlobals "LETTERS" = some (some (.str "abcdefghijklmnopqrstuvwxyz" tk0)))
    {tk1 : Tok} (vg1 : PySem.W.nsIn K mainGlobals "MOST_SIGNS" = some (some (.int 8 tk1)))
    : ∃ fd : FuncData, (∀ (s : Shared) (v : Value), BindsTo s fd ⟨[v], []⟩ [("_law_script", v)]) ∧ ∀ base : Heap, K.In base → base.Ns mainGlobals mg → FnOk l.prog w K mg base CX0 32 fa fd ["_law_script"] (spF ⟨K, fun _ => none, []⟩ (d_law.run ⟨gl, runs gl [] ts0⟩)) := by
  have e := hfa.symm.trans (PySem.W.mg_of X G a22)
  cases e
  have A0 : At K mg ⟨"_law_size_by", topS 24, ["_law_cell"], ["_law_cell"], d__law_size_by⟩ := at_mk X G a0 l0 c0 k0 fun _ _ _ _ _ _ us hl => match us, hl with | [_], _ => rfl
  have A1 : At K mg ⟨"_law_mixed", topS 20, ["_law_cell", "_law_k"], ["_law_cell", "_law_k", "_law_number"], d__law_mixed⟩ := at_mk X G a1 l1 c1 k1 fun _ _ _ _ _ _ us hl => match us, hl with | [_, _], _ => rfl
  have A2 : At K mg ⟨"_law_names_by", topS 21, ["_law_cell"], ["_law_cell", "_law_letters", "_law_many", "_law_base", "_law_k", "_law_at", "_law_first", "_law_names"], d__law_names_by⟩ := at_mk X G a2 l2 c2 k2 fun _ _ _ _ _ _ us hl => match us, hl with | [_], _ => rfl
  have A3 : At K mg ⟨"_law_cell_at", topS 19, ["_law_script", "_law_k"], ["_law_script", "_law_k"], d__law_cell_at⟩ := at_mk X G a3 l3 c3 k3 fun _ _ _ _ _ _ us hl => match us, hl with | [_, _], _ => rfl
  have A4 : At K mg ⟨"_law_operand_by", topS 22, ["_law_number", "_law_names"], ["_law_number", "_law_names"], d__law_operand_by⟩ := at_mk X G a4 l4 c4 k4 fun _ _ _ _ _ _ us hl => match us, hl with | [_, _], _ => rfl
  have A5 : At K mg ⟨"_law_row_by", topS 23, ["_law_number", "_law_names", "_law_size"], ["_law_number", "_law_names", "_law_size", "_law_name", "_law_one", "_law_other", "_law_goal", "_law_kind"], d__law_row_by⟩ := at_mk X G a5 l5 c5 k5 fun _ _ _ _ _ _ us hl => match us, hl with | [_, _, _], _ => rfl
  have A6 : At K mg ⟨"_law_rows_by", topS 25, ["_law_script"], ["_law_script", "_law_size", "_law_names", "_law_rows", "_law_k", "_law_more", "_law_turn", "_law_one", "_law_other", "_law_third", "_law_name"], d__law_rows_by⟩ := at_mk X G a6 l6 c6 k6 fun _ _ _ _ _ _ us hl => match us, hl with | [_], _ => rfl
  have A7 : At K mg ⟨"is_name", topS 8, ["thing"], ["thing", "sign"], d_is_name⟩ := at_mk X G a7 l7 c7 k7 fun _ _ _ _ _ _ us hl => match us, hl with | [_], _ => rfl
  have A8 : At K mg ⟨"is_whole", topS 7, ["thing"], ["thing"], d_is_whole⟩ := at_mk X G a8 l8 c8 k8 fun _ _ _ _ _ _ us hl => match us, hl with | [_], _ => rfl
  have A9 : At K mg ⟨"asked", topS 11, ["row"], ["row"], d_asked⟩ := at_mk X G a9 l9 c9 k9 fun _ _ _ _ _ _ us hl => match us, hl with | [_], _ => rfl
  have A10 : At K mg ⟨"is_row", topS 9, ["thing"], ["thing", "one"], d_is_row⟩ := at_mk X G a10 l10 c10 k10 fun _ _ _ _ _ _ us hl => match us, hl with | [_], _ => rfl
  have A11 : At K mg ⟨"need_rows", topS 13, ["rows"], ["rows", "row"], d_need_rows⟩ := at_mk X G a11 l11 c11 k11 fun _ _ _ _ _ _ us hl => match us, hl with | [_], _ => rfl
  have A12 : At K mg ⟨"written", topS 10, ["row"], ["row"], d_written⟩ := at_mk X G a12 l12 c12 k12 fun _ _ _ _ _ _ us hl => match us, hl with | [_], _ => rfl
  have A13 : At K mg ⟨"_law_asks", topS 28, ["_law_row"], ["_law_row"], d__law_asks⟩ := at_mk X G a13 l13 c13 k13 fun _ _ _ _ _ _ us hl => match us, hl with | [_], _ => rfl
  have A14 : At K mg ⟨"_law_next", topS 29, ["_law_rows", "_law_place"], ["_law_rows", "_law_place", "_law_row"], d__law_next⟩ := at_mk X G a14 l14 c14 k14 fun _ _ _ _ _ _ us hl => match us, hl with | [_, _], _ => rfl
  have A15 : At K mg ⟨"_law_reached", topS 30, ["_law_rows"], ["_law_rows", "_law_found", "_law_at", "_law_one"], d__law_reached⟩ := at_mk X G a15 l15 c15 k15 fun _ _ _ _ _ _ us hl => match us, hl with | [_], _ => rfl
  have A16 : At K mg ⟨"next_places", topS 14, ["rows", "place"], ["rows", "place", "row"], d_next_places⟩ := at_mk X G a16 l16 c16 k16 fun _ _ _ _ _ _ us hl => match us, hl with | [_, _], _ => rfl
  have A17 : At K mg ⟨"reached", topS 16, ["rows"], ["rows", "found", "waiting", "place"], d_reached⟩ := at_mk X G a17 l17 c17 k17 fun _ _ _ _ _ _ us hl => match us, hl with | [_], _ => rfl
  have A18 : At K mg ⟨"read", topS 12, ["row"], ["row", "one"], d_read⟩ := at_mk X G a18 l18 c18 k18 fun _ _ _ _ _ _ us hl => match us, hl with | [_], _ => rfl
  have A19 : At K mg ⟨"names_wanted", topS 17, ["rows"], ["rows", "order", "found", "place", "changed", "now", "name", "other", "names"], d_names_wanted⟩ := at_mk X G a19 l19 c19 k19 fun _ _ _ _ _ _ us hl => match us, hl with | [_], _ => rfl
  have A20 : At K mg ⟨"_law_own", topS 27, ["_law_row"], ["_law_row"], d__law_own⟩ := at_mk X G a20 l20 c20 k20 fun _ _ _ _ _ _ us hl => match us, hl with | [_], _ => rfl
  have A21 : At K mg ⟨"_law_is_wanted", topS 31, ["_law_rows", "_law_place", "_law_name"], ["_law_rows", "_law_place", "_law_name", "_law_seen", "_law_at", "_law_here", "_law_one"], d__law_is_wanted⟩ := at_mk X G a21 l21 c21 k21 fun _ _ _ _ _ _ us hl => match us, hl with | [_, _, _], _ => rfl
  have hat : ∀ t ∈ ts0, At K mg t := by
    unfold ts0
    refine List.forall_mem_cons.mpr ⟨A0, ?_⟩
    refine List.forall_mem_cons.mpr ⟨A1, ?_⟩
    refine List.forall_mem_cons.mpr ⟨A2, ?_⟩
    refine List.forall_mem_cons.mpr ⟨A3, ?_⟩
    refine List.forall_mem_cons.mpr ⟨A4, ?_⟩
    refine List.forall_mem_cons.mpr ⟨A5, ?_⟩
    refine List.forall_mem_cons.mpr ⟨A6, ?_⟩
    refine List.forall_mem_cons.mpr ⟨A0, ?_⟩
    refine List.forall_mem_cons.mpr ⟨A7, ?_⟩
    refine List.forall_mem_cons.mpr ⟨A8, ?_⟩
    refine List.forall_mem_cons.mpr ⟨A9, ?_⟩
    refine List.forall_mem_cons.mpr ⟨A10, ?_⟩
    refine List.forall_mem_cons.mpr ⟨A11, ?_⟩
    refine List.forall_mem_cons.mpr ⟨A0, ?_⟩
    refine List.forall_mem_cons.mpr ⟨A12, ?_⟩
    refine List.forall_mem_cons.mpr ⟨A0, ?_⟩
    refine List.forall_mem_cons.mpr ⟨A0, ?_⟩
    refine List.forall_mem_cons.mpr ⟨A0, ?_⟩
    refine List.forall_mem_cons.mpr ⟨A0, ?_⟩
    refine List.forall_mem_cons.mpr ⟨A13, ?_⟩
    refine List.forall_mem_cons.mpr ⟨A0, ?_⟩
    refine List.forall_mem_cons.mpr ⟨A14, ?_⟩
    refine List.forall_mem_cons.mpr ⟨A15, ?_⟩
    refine List.forall_mem_cons.mpr ⟨A16, ?_⟩
    refine List.forall_mem_cons.mpr ⟨A17, ?_⟩
    refine List.forall_mem_cons.mpr ⟨A0, ?_⟩
    refine List.forall_mem_cons.mpr ⟨A0, ?_⟩
    refine List.forall_mem_cons.mpr ⟨A18, ?_⟩
    refine List.forall_mem_cons.mpr ⟨A19, ?_⟩
    refine List.forall_mem_cons.mpr ⟨A20, ?_⟩
    refine List.forall_mem_cons.mpr ⟨A21, ?_⟩
    exact fun t ht => by simp at ht
  have hb : ∀ y ∈ blt, mg y = none := by
    unfold blt
    refine List.forall_mem_cons.mpr ⟨PySem.W.mg_none_of X G z0, ?_⟩
    refine List.forall_mem_cons.mpr ⟨PySem.W.mg_none_of X G z1, ?_⟩
    refine List.forall_mem_cons.mpr ⟨PySem.W.mg_none_of X G z2, ?_⟩
    refine List.forall_mem_cons.mpr ⟨PySem.W.mg_none_of X G z3, ?_⟩
    refine List.forall_mem_cons.mpr ⟨PySem.W.mg_none_of X G z4, ?_⟩
    refine List.forall_mem_cons.mpr ⟨PySem.W.mg_none_of X G z5, ?_⟩
    refine List.forall_mem_cons.mpr ⟨PySem.W.mg_none_of X G z6, ?_⟩
    refine List.forall_mem_cons.mpr ⟨PySem.W.mg_none_of X G z7, ?_⟩
    refine List.forall_mem_cons.mpr ⟨PySem.W.mg_none_of X G z8, ?_⟩
    refine List.forall_mem_cons.mpr ⟨PySem.W.mg_none_of X G z9, ?_⟩
    refine List.forall_mem_cons.mpr ⟨PySem.W.mg_none_of X G z10, ?_⟩
    refine List.forall_mem_cons.mpr ⟨PySem.W.mg_none_of X G z11, ?_⟩
    refine List.forall_mem_cons.mpr ⟨PySem.W.mg_none_of X G z12, ?_⟩
    refine List.forall_mem_cons.mpr ⟨PySem.W.mg_none_of X G z13, ?_⟩
    refine List.forall_mem_cons.mpr ⟨PySem.W.mg_none_of X G z14, ?_⟩
    exact fun t ht => by simp at ht
  have hg : ∀ (j : Nat) (y : Str) (d : D), gls[j]? = some y → gl[j]? = some d → ∃ u, mg y = some u ∧ isSc d = true ∧ RelV (scV d) u := by
    intro j y d h1 h2
    cases j with
    | zero => cases h1; cases h2; exact ⟨_, PySem.W.mg_of X G vg0, rfl, ⟨_, rfl⟩⟩
    | succ j =>
    cases j with
    | zero => cases h1; cases h2; exact ⟨_, PySem.W.mg_of X G vg1, rfl, ⟨_, rfl⟩⟩
    | succ j =>
    exact absurd h1 (by simp [gls])
  exact ⟨_, fun s v => .of_eq rfl, fun base _ _ => law_ok (t := tL) (ts := ts0) ckL rfl hb hg hat (fun_mk l22 c22 k22)⟩
end K03
/-! mirrors, part 14: the places that can come next -/
namespace VL
open PySem PySem.Spec L2
theorem sub_at {ρ : Env} {k p : Nat} {o : Bool} {l : List D} {d : D} (hg : getv ρ k = some (.lst o l)) (h : l[p]? = some d) (f : fzd d = true) : subE ρ k (.int (p : Nat)) = .ok (d, ρ) := by
  have hl : p < l.length := (List.getElem?_eq_some_iff.mp h).1
  simp [subE, hg, takeKid, ixN_nat hl, h, f]
theorem sub_row {ρ : Env} {k p : Nat} {o : Bool} {rows : List Rw} {r : Rw} (hg : getv ρ k = some (.lst o (rows.map rowD))) (h : rows[p]? = some r) : subE ρ k (.int (p : Nat)) = .ok (rowD r, ρ) :=
  sub_at hg (by rw [List.getElem?_map, h]; rfl) (by simp)
theorem c1_sset {o : Bool} {l : List D} : c1D .sset (.lst o l) = Out.guard (decide (l.length < 64)) ((onceD l).bind fun r => (sortD r).bind fun r => .ok (.lst true r)) := by simp only [c1D]
theorem c1_sortL {o : Bool} {l : List D} : c1D .sorted (.lst o l) = Out.guard (decide (l.length < 64)) ((sortD l).bind fun r => .ok (.lst true r)) := by simp only [c1D]
theorem c1_sortD {o : Bool} {ks : List KD} {l : List D} : c1D .sorted (.dct o ks l) = Out.guard (decide (ks.length < 64) && ks.all (·.isLeft)) ((sortD (ks.map kdD)).bind fun r => .ok (.lst true r)) := by simp only [c1D]
abbrev natD (p : Nat) : D := .int (p : Nat)
def nextsR (n p : Nat) : Rw → List Nat
  | .jump g => [g]
  | .stop => [n]
  | .nought _ g => if g = p + 1 then [p + 1] else [min g (p + 1), max g (p + 1)]
  | _ => [p + 1]
def nexts (rows : List Rw) (p : Nat) : List Nat := match rows[p]? with
  | none => []
  | some r => nextsR rows.length p r
def SpNext (F : Sem') : Prop := ∀ (o : Bool) (rows : List Rw) (p : Nat), p ≤ rows.length → F [.lst o (rows.map rowD), natD p] = .ok (.lst true ((nexts rows p).map natD), [some (.lst o (rows.map rowD)), some (natD p)])
theorem sort_two {a b : Nat} : sortI (once [((a : Int) + 1), (b : Int)]) = (if b = a + 1 then [a + 1] else [min b (a + 1), max b (a + 1)]).map fun (i : Nat) => (i : Int) := by
  by_cases h : b = a + 1
  · subst h
    rw [if_pos rfl]
    have : once [((a : Int) + 1), ((a + 1 : Nat) : Int)] = [(a : Int) + 1] := by
      simp [once, addO]
    rw [this]; simp [sortI]
  · rw [if_neg h]
    have hne : ¬ ((b : Int) = (a : Int) + 1) := by omega
    have : once [((a : Int) + 1), (b : Int)] = [(b : Int), (a : Int) + 1] := by
      simp [once, addO, hne]
    rw [this]
    symm
    refine int_sort_eq ?_ ?_
    · rcases Nat.lt_or_ge b (a + 1) with h | h
      · rw [Nat.min_eq_left (by omega), Nat.max_eq_right (by omega)]; simp
      · rw [Nat.min_eq_right (by omega), Nat.max_eq_left (by omega)]
        simp only [List.map_cons, List.map_nil]
        exact List.Perm.swap _ _ _
    · simp; omega
theorem m_next (G : Ctx) : SpNext (d_next_places.run G) := fun o rows p hp => by
  have hA : asgs d_next_places.body = [2] := rfl
  rcases Nat.lt_or_ge p rows.length with hlt | hge
  · obtain ⟨r, hr⟩ : ∃ r, rows[p]? = some r := ⟨rows[p], List.getElem?_eq_getElem hlt⟩
    have h1 : ∀ x, subE [some (.lst o (rows.map rowD)), some (natD p), x] 0 (.int (p : Nat)) = .ok (rowD r, [some (.lst o (rows.map rowD)), some (natD p), x]) := fun x => sub_row rfl hr
    have hne : ¬ ((p : Int) = (rows.length : Int)) := by omega
    have hne' : ¬ (p = rows.length) := by omega
    have e : nexts rows p = nextsR rows.length p r := by unfold nexts; rw [hr]
    rw [e]
    have two : exB G d_next_places.body [some (.lst o (rows.map rowD)), some (natD p), none] = exB G (d_next_places.body.drop 2) [some (.lst o (rows.map rowD)), some (natD p), some (rowD r)] := by
      refine (xb_nx (ρ' := [some (.lst o (rows.map rowD)), some (natD p), none]) ?_).trans ((xb_nx (ρ' := [some (.lst o (rows.map rowD)), some (natD p), some (rowD r)]) ?_).trans rfl)
      · exact (x_ifF (ρ' := [some (.lst o (rows.map rowD)), some (natD p), none]) (by simp [tstF, evE, argN, hne, hne'])).trans xb_nil
      · exact x_set (ρ' := [some (.lst o (rows.map rowD)), some (natD p), none]) (by simp [evE, argN, h1]) (by simp)
    have rest : exB G (d_next_places.body.drop 2) [some (.lst o (rows.map rowD)), some (natD p), some (rowD r)] = .ok (.rt (.lst true ((nextsR rows.length p r).map natD)) [some (.lst o (rows.map rowD)), some (natD p), some (rowD r)]) := by
      unfold d_next_places
      simp only [List.drop_succ_cons, List.drop_zero]
      cases r with
      | ar k x a b => cases k <;> simp [rowD, exB, exS, evE, evalL, argN, tstF, k_jump, k_stop, k_nought, k_set, k_add, k_sub, k_less, k_say, subE, takeKid, ixN, nextsR, Ar.kd]
      | nought a g =>
        have od : onceD [.int ((p : Int) + 1), .int (g : Int)] = .ok ((once [((p : Int) + 1), (g : Int)]).map .int) := rfl
        have sd := sortD_ints (ns := once [((p : Int) + 1), (g : Int)])
        have s2 := sort_two (a := p) (b := g)
        have c : c1D .sset (.lst true [.int ((p : Int) + 1), .int (g : Int)]) = .ok (.lst true ((nextsR rows.length p (.nought a g)).map natD)) := by
          rw [c1_sset, decide_eq_true (by simp), Out.guard_true, od, Out.bind_ok, sd, Out.bind_ok, s2]
          simp [nextsR, List.map_map, Function.comp_def]
        simp [rowD, exB, exS, evE, evalL, argN, tstF, k_jump, k_stop, k_nought, k_set, k_add, k_sub, k_less, k_say, subE, takeKid, ixN, c]
      | _ => simp [rowD, exB, exS, evE, evalL, argN, tstF, k_jump, k_stop, k_nought, k_set, k_add, k_sub, k_less, k_say, subE, takeKid, ixN, nextsR, Ar.kd]
    rw [run_rt rfl (two.trans rest), hA]
    simp [d_next_places]
  · have hpe : p = rows.length := by omega
    have e : nexts rows p = [] := by unfold nexts; rw [List.getElem?_eq_none (by omega)]
    rw [e]
    subst hpe
    have h : exB G d_next_places.body [some (.lst o (rows.map rowD)), some (natD rows.length), none] = .ok (.rt (.lst true []) [some (.lst o (rows.map rowD)), some (natD rows.length), none]) := by
      refine xb_rt ((x_ifT (ρ' := [some (.lst o (rows.map rowD)), some (natD rows.length), none]) (by simp [tstF, evE, argN])).trans (xb_rt (x_ret (by simp [evE, evalL]))))
    rw [run_rt rfl h, hA]
    simp [d_next_places]
theorem m_law_next (G : Ctx) : SpNext (d__law_next.run G) := fun o rows p hp => by
  have hA : asgs d__law_next.body = [2] := rfl
  rcases Nat.lt_or_ge p rows.length with hlt | hge
  · obtain ⟨r, hr⟩ : ∃ r, rows[p]? = some r := ⟨rows[p], List.getElem?_eq_getElem hlt⟩
    have h1 : ∀ x, subE [some (.lst o (rows.map rowD)), some (natD p), x] 0 (.int (p : Nat)) = .ok (rowD r, [some (.lst o (rows.map rowD)), some (natD p), x]) := fun x => sub_row rfl hr
    have hne : ¬ ((p : Int) = (rows.length : Int)) := by omega
    have hne' : ¬ (p = rows.length) := by omega
    have e : nexts rows p = nextsR rows.length p r := by unfold nexts; rw [hr]
    rw [e]
    have two : exB G d__law_next.body [some (.lst o (rows.map rowD)), some (natD p), none] = exB G (d__law_next.body.drop 2) [some (.lst o (rows.map rowD)), some (natD p), some (rowD r)] := by
      refine (xb_nx (ρ' := [some (.lst o (rows.map rowD)), some (natD p), none]) ?_).trans ((xb_nx (ρ' := [some (.lst o (rows.map rowD)), some (natD p), some (rowD r)]) ?_).trans rfl)
      · exact (x_ifF (ρ' := [some (.lst o (rows.map rowD)), some (natD p), none]) (by simp [tstF, evE, argN, hne, hne'])).trans xb_nil
      · exact x_set (ρ' := [some (.lst o (rows.map rowD)), some (natD p), none]) (by simp [evE, argN, h1]) (by simp)
    have rest : exB G (d__law_next.body.drop 2) [some (.lst o (rows.map rowD)), some (natD p), some (rowD r)] = .ok (.rt (.lst true ((nextsR rows.length p r).map natD)) [some (.lst o (rows.map rowD)), some (natD p), some (rowD r)]) := by
      unfold d__law_next
      simp only [List.drop_succ_cons, List.drop_zero]
      cases r with
      | ar k x a b => cases k <;> simp [rowD, exB, exS, evE, evalL, argN, tstF, k_jump, k_stop, k_nought, k_set, k_add, k_sub, k_less, k_say, subE, takeKid, ixN, nextsR, Ar.kd]
      | nought a g =>
        by_cases hg : g = p + 1
        · have hg' : (g : Int) = (p : Int) + 1 := by omega
          simp [rowD, exB, exS, evE, evalL, argN, tstF, k_jump, k_stop, k_nought, k_set, k_add, k_sub, k_less, k_say, subE, takeKid, ixN, nextsR, Ar.kd, hg, hg', b2D]
        · have hg' : ¬ (g : Int) = (p : Int) + 1 := by omega
          have b1 : b2D .min (.int (g : Int)) (.int ((p : Int) + 1)) = .ok (natD (min g (p + 1))) := by
            simp only [b2D, natD]
            congr 2
            split <;> omega
          have b2 : b2D .max (.int (g : Int)) (.int ((p : Int) + 1)) = .ok (natD (max g (p + 1))) := by
            simp only [b2D, natD]
            congr 2
            split <;> omega
          simp [rowD, exB, exS, evE, evalL, argN, tstF, k_jump, k_stop, k_nought, k_set, k_add, k_sub, k_less, k_say, subE, takeKid, ixN, nextsR, Ar.kd, hg, hg', b1, b2]
      | _ => simp [rowD, exB, exS, evE, evalL, argN, tstF, k_jump, k_stop, k_nought, k_set, k_add, k_sub, k_less, k_say, subE, takeKid, ixN, nextsR, Ar.kd]
    rw [run_rt rfl (two.trans rest), hA]
    simp [d__law_next]
  · have hpe : p = rows.length := by omega
    have e : nexts rows p = [] := by unfold nexts; rw [List.getElem?_eq_none (by omega)]
    rw [e]
    subst hpe
    have h : exB G d__law_next.body [some (.lst o (rows.map rowD)), some (natD rows.length), none] = .ok (.rt (.lst true []) [some (.lst o (rows.map rowD)), some (natD rows.length), none]) := by
      refine xb_rt ((x_ifT (ρ' := [some (.lst o (rows.map rowD)), some (natD rows.length), none]) (by simp [tstF, evE, argN])).trans (xb_rt (x_ret (by simp [evE, evalL]))))
    rw [run_rt rfl h, hA]
    simp [d__law_next]
end VL
/-! mirrors, part 15: the reached places -/
namespace VL
open PySem PySem.Spec L2
/-- a way from place 0 -/
inductive Reach (rows : List Rw) : Nat → Prop
  | zero : Reach rows 0
  | step {p q : Nat} : Reach rows p → q ∈ nexts rows p → Reach rows q
theorem nextsR_le {n p q : Nat} {r : Rw} (hp : p < n) (hg : OkG n r) (h : q ∈ nextsR n p r) : q ≤ n := by
  cases r with
  | jump g => simp [nextsR] at h; subst h; exact hg
  | stop => simp [nextsR] at h; omega
  | nought a g =>
    have hg : g ≤ n := hg
    simp only [nextsR] at h
    split at h <;> simp at h <;> omega
  | _ => simp [nextsR] at h; omega
theorem nexts_le {rows : List Rw} (ok : OkRows rows) {p q : Nat} (h : q ∈ nexts rows p) : q ≤ rows.length := by
  unfold nexts at h
  split at h
  · simp at h
  · rename_i r hr
    exact nextsR_le (List.getElem?_eq_some_iff.mp hr).1 (ok r (List.mem_of_getElem? hr)).2 h
theorem nexts_nd (rows : List Rw) (p : Nat) : (nexts rows p).Nodup := by
  unfold nexts
  split
  · exact List.nodup_nil
  · rename_i r _
    cases r with
    | nought a g =>
      simp only [nextsR]
      split
      · simp
      · simp; omega
    | _ => simp [nextsR]
theorem nexts_len (rows : List Rw) (p : Nat) : (nexts rows p).length ≤ 2 := by
  unfold nexts
  split
  · simp
  · rename_i r _
    cases r with
    | nought a g => simp only [nextsR]; split <;> simp
    | _ => simp [nextsR]
theorem nexts_end (rows : List Rw) : nexts rows rows.length = [] := by unfold nexts; rw [List.getElem?_eq_none (by omega)]
theorem reach_le {rows : List Rw} (ok : OkRows rows) {p : Nat} (h : Reach rows p) : p ≤ rows.length := by
  cases h with
  | zero => omega
  | step _ hq => exact nexts_le ok hq
open Classical in
noncomputable def reachL (rows : List Rw) : List Nat := (List.range (rows.length + 1)).filter fun p => decide (Reach rows p)
theorem mem_reachL {rows : List Rw} (ok : OkRows rows) {p : Nat} : p ∈ reachL rows ↔ Reach rows p := by
  unfold reachL
  rw [List.mem_filter, List.mem_range]
  simp only [decide_eq_true_eq]
  exact ⟨fun h => h.2, fun h => ⟨by have := reach_le ok h; omega, h⟩⟩
theorem reachL_nd (rows : List Rw) : (reachL rows).Nodup := List.nodup_range.filter _
theorem reachL_sorted (rows : List Rw) : (reachL rows).Pairwise (· < ·) := List.Pairwise.filter _ List.pairwise_lt_range
theorem reachL_len (rows : List Rw) : (reachL rows).length ≤ rows.length + 1 := by
  unfold reachL
  exact Nat.le_trans (List.length_filter_le _ _) (by simp)
/-- a duplicate-free list of just the reached places, sorted -/
theorem sort_reach {rows : List Rw} (ok : OkRows rows) {l : List Nat} (nd : l.Nodup) (h : ∀ p, p ∈ l ↔ Reach rows p) : sortI (l.map fun (p : Nat) => (p : Int)) = (reachL rows).map fun (p : Nat) => (p : Int) := by
  symm
  refine int_sort_eq ?_ ?_
  · refine List.Perm.map _ ?_
    rw [List.perm_ext_iff_of_nodup (reachL_nd rows) nd]
    intro p
    rw [mem_reachL ok, h]
  · rw [List.pairwise_map]
    exact (reachL_sorted rows).imp fun h => by omega
/-- a list closed under next places that lies in the reached ones, with 0, is all of them -/
theorem reach_all {rows : List Rw} {l : List Nat} (h0 : 0 ∈ l) (hr : ∀ p ∈ l, Reach rows p) (hc : ∀ p ∈ l, ∀ q ∈ nexts rows p, q ∈ l) (p : Nat) : p ∈ l ↔ Reach rows p := by
  refine ⟨hr p, fun h => ?_⟩
  induction h with
  | zero => exact h0
  | step _ hq ih => exact hc _ ih _ hq
theorem nd_len {l : List Nat} {n : Nat} (nd : l.Nodup) (h : ∀ p ∈ l, p ≤ n) : l.length ≤ n + 1 := by
  have : l.length ≤ (List.range (n + 1)).length := List.Nodup.length_le_of_subset nd fun p hp => List.mem_range.mpr (by have := h p hp; omega)
  simpa using this
/-! ### dicts of places -/
def nkD (p : Nat) : KD := .inl (.inl (p : Int))
theorem nkD_inj {p q : Nat} (h : nkD p = nkD q) : p = q := by
  unfold nkD at h
  injection h with h; injection h with h
  omega
def placesD (o : Bool) (ks : List Nat) : D := .dct o (ks.map nkD) (ks.map fun _ => .bl true)
theorem same_nk {k : Nat} {ks : List Nat} : sameKind (nkD k) (ks.map nkD) = true := by
  unfold sameKind
  rw [List.all_map, List.all_eq_true]
  intro x _; rfl
theorem didx_nk {p : Nat} : ∀ {ks : List Nat}, (didx (ks.map nkD) (nkD p)).isSome = decide (p ∈ ks)
  | [] => by simp [didx]
  | k :: ks => by
    have ih := didx_nk (p := p) (ks := ks)
    simp only [List.map_cons, didx]
    by_cases e : k = p
    · subst e; simp
    · have : nkD k ≠ nkD p := fun z => e (nkD_inj z)
      rw [if_neg this, Option.isSome_map, ih]
      have e' : ¬ p = k := fun z => e z.symm
      simp [e']
theorem in_places {p : Nat} {o : Bool} {ks : List Nat} : inD (natD p) (placesD o ks) = .ok (decide (p ∈ ks)) := by
  have h : toKD (natD p) = some (nkD p) := rfl
  simp only [placesD, inD, h, Out.of_some, Out.bind_ok, same_nk, Out.guard_true, didx_nk]
theorem put_places {p : Nat} {ks : List Nat} (hp : p ∉ ks) (hl : ks.length < lim) : putD (natD p) (.bl true) (placesD true ks) = .ok (placesD true (ks ++ [p])) := by
  have h : toKD (natD p) = some (nkD p) := rfl
  have hd : (didx (ks.map nkD) (nkD p)).isSome = false := by rw [didx_nk]; exact decide_eq_false hp
  simp only [placesD, putD, h, Out.of_some, Out.bind_ok, same_nk, List.length_map, decide_eq_true hl, Bool.and_self, Out.guard_true, dput, hd, if_false, Bool.false_eq_true, List.map_append, List.map_cons, List.map_nil]
theorem all_left {ks : List Nat} : (ks.map nkD).all (·.isLeft) = true := by
  rw [List.all_map, List.all_eq_true]
  intro x _; rfl
theorem kd_nk {ks : List Nat} : (ks.map nkD).map kdD = (ks.map fun (p : Nat) => (p : Int)).map D.int := by
  rw [List.map_map, List.map_map]; rfl
end VL
/-! mirrors, part 16: reached -/
namespace VL
open PySem PySem.Spec L2
/-- a for loop over the items of a list, with slots that don't matter -/
theorem for_list {α β σ : Type} (emb : α → D) (env : σ → β → Env) (f : σ → α → σ) (I : σ → Prop) {ch : Option (Nat × D)} {asg : D → Env → Out Env} {body : Env → Out Fl} (hst : ∀ s x, stayE ch (env s x) = true) :
    ∀ (l : List α) (s : σ) (x : β), I s → (∀ s x a, a ∈ l → I s → ∃ ρ1, asg (emb a) (env s x) = .ok ρ1 ∧ ∃ x', body ρ1 = .ok (.nx (env (f s a) x')) ∧ I (f s a)) →
      ∃ x', forF ch asg body (l.map emb) (env s x) = .ok (.nx (env (l.foldl f s) x')) ∧ I (l.foldl f s)
  | [], s, x, hi, _ => ⟨x, by simp [forF, hst], hi⟩
  | a :: l, s, x, hi, h => by
    obtain ⟨ρ1, h1, x', h2, h3⟩ := h s x a List.mem_cons_self hi
    obtain ⟨x2, h4, h5⟩ := for_list emb env f I hst l (f s a) x' h3 fun s x b hb => h s x b (List.mem_cons_of_mem _ hb)
    refine ⟨x2, ?_, h5⟩
    simp only [List.map_cons, forF, hst, Out.guard_true, h1, Out.bind_ok, h2, List.foldl_cons]
    exact h4
theorem frzL_nats {l : List Nat} : frzL (l.map natD) = l.map natD := by
  induction l with
  | nil => rfl
  | cons a l ih => simp [ih]
theorem fzdL_nats {l : List Nat} : fzdL (l.map natD) = true := by
  induction l with
  | nil => rfl
  | cons a l ih => simp [ih]
def rStep (s : List Nat × List Nat) (q : Nat) : List Nat × List Nat := if q ∈ s.1 then s else (s.1 ++ [q], s.2 ++ [q])
structure RFold (qs ks w : List Nat) (s : List Nat × List Nat) (new : List Nat) : Prop where
  eq : s = (ks ++ new, w ++ new)
  nd : (ks ++ new).Nodup
  sub : ∀ q ∈ new, q ∈ qs
  all : ∀ q ∈ qs, q ∈ ks ++ new
theorem rFold : ∀ (qs ks w : List Nat), ks.Nodup → ∃ new, RFold qs ks w (qs.foldl rStep (ks, w)) new
  | [], ks, w, nd => ⟨[], by simp, by simpa using nd, by simp, by simp⟩
  | q :: qs, ks, w, nd => by
    by_cases h : q ∈ ks
    · obtain ⟨new, r⟩ := rFold qs ks w nd
      refine ⟨new, ?_, r.nd, fun x hx => List.mem_cons_of_mem _ (r.sub x hx), fun x hx => ?_⟩
      · simp only [List.foldl_cons, rStep, if_pos h]; exact r.eq
      · rcases List.mem_cons.mp hx with rfl | hx
        · exact List.mem_append_left _ h
        · exact r.all x hx
    · have nd' : (ks ++ [q]).Nodup := List.nodup_append.mpr ⟨nd, by simp, fun a ha b hb e => by simp at hb; subst hb; subst e; exact h ha⟩
      obtain ⟨new, r⟩ := rFold qs (ks ++ [q]) (w ++ [q]) nd'
      refine ⟨q :: new, ?_, by have := r.nd; simpa using this, fun x hx => ?_, fun x hx => ?_⟩
      · simp only [List.foldl_cons, rStep, if_neg h]; rw [r.eq]; simp
      · rcases List.mem_cons.mp hx with rfl | hx
        · exact List.mem_cons_self
        · exact List.mem_cons_of_mem _ (r.sub x hx)
      · rcases List.mem_cons.mp hx with rfl | hx
        · simp
        · have := r.all x hx; simpa using this
section
variable {G : Ctx} {o : Bool} {rows : List Rw}
def envRe (o : Bool) (rows : List Rw) (s : List Nat × List Nat) (x : Option D) : Env := [some (.lst o (rows.map rowD)), some (placesD true s.1), some (.lst true (s.2.map natD)), x]
theorem b2_re {s : List Nat × List Nat} {q : Nat} (hl : s.1.length < 1000) (hw : s.2.length < 1000) : exB G b2_reached (envRe o rows s (some (natD q))) = .ok (.nx (envRe o rows (rStep s q) (some (natD q)))) := by
  have hi := in_places (p := q) (o := true) (ks := s.1)
  have hwl : s.2.length + 1 ≤ lim := Nat.le_trans (show _ ≤ 1000 by omega) (by decide)
  by_cases h : q ∈ s.1
  · have e : rStep s q = s := if_pos h
    rw [e]
    refine xb_one ((x_ifF (ρ' := envRe o rows s (some (natD q))) ?_).trans xb_nil)
    simp [tstF, evE, argN, envRe, hi, h]
  · have e : rStep s q = (s.1 ++ [q], s.2 ++ [q]) := if_neg h
    have hp := put_places (p := q) (ks := s.1) h (Nat.lt_of_lt_of_le hl (by decide))
    rw [e]
    refine xb_one ((x_ifT (ρ' := envRe o rows s (some (natD q))) ?_).trans ?_)
    · simp [tstF, evE, argN, envRe, hi, h]
    · refine (xb_nx (ρ' := [some (.lst o (rows.map rowD)), some (placesD true (s.1 ++ [q])), some (.lst true (s.2.map natD)), some (natD q)]) ?_).trans (xb_one ?_)
      · simp [exS, evE, pathE, mendE, mend, P.slot, envRe, hp]
      · simp [exS, evE, evalL, argN, setv, envRe, fzdL_nats, hwl]
structure ReI (rows : List Rw) (s : List Nat × List Nat) : Prop where
  nd : s.1.Nodup
  ok : ∀ p ∈ s.1, Reach rows p
  zero : 0 ∈ s.1
  sub : ∀ p ∈ s.2, p ∈ s.1
  cl : ∀ p ∈ s.1, p ∉ s.2 → ∀ q ∈ nexts rows p, q ∈ s.1
  wl : s.2.length ≤ s.1.length
theorem ReI.len {s : List Nat × List Nat} (ok : OkRows rows) (h : ReI rows s) : s.1.length ≤ rows.length + 1 := nd_len h.nd fun p hp => reach_le ok (h.ok p hp)
theorem ReI.step {ks w : List Nat} {p : Nat} (h : ReI rows (ks, w ++ [p])) {new : List Nat} {s' : List Nat × List Nat} (r : RFold (nexts rows p) ks w s' new) : ReI rows s' := by
  have hp : p ∈ ks := h.sub p (by simp)
  rw [r.eq]
  refine ⟨r.nd, fun q hq => ?_, List.mem_append_left _ h.zero, fun q hq => ?_, fun a ha hna q hq => ?_, ?_⟩
  · rcases List.mem_append.mp hq with hq | hq
    · exact h.ok q hq
    · exact .step (h.ok p hp) (r.sub q hq)
  · rcases List.mem_append.mp hq with hq | hq
    · exact List.mem_append_left _ (h.sub q (by simp [hq]))
    · exact List.mem_append_right _ hq
  · simp only [List.mem_append, not_or] at hna
    rcases List.mem_append.mp ha with ha | ha
    · by_cases e : a = p
      · subst e; exact r.all q hq
      · exact List.mem_append_left _ (h.cl a ha (by simp [hna.1, e]) q hq)
    · exact absurd ha hna.2
  · have := h.wl
    simp only [List.length_append, List.length_cons, List.length_nil] at this ⊢
    omega
theorem it_next {G : Ctx} {F : Sem'} (hN : SpNext F) {k : Nat} (hk : G.at k = F) {ρ ρ' : Env} {e : E} {p : Nat} (he : argR e (evE G e) ρ = .ok (.inl (natD p), ρ')) (h0 : getv ρ 0 = some (.lst o (rows.map rowD))) (h0' : getv ρ' 0 = some (.lst o (rows.map rowD))) (hp : p ≤ rows.length) :
    evalIt G (.seq (.call k [(.rf 0), e])) ρ = .ok (((nexts rows p).map natD, none), ρ') := by
  have a := apply_pure (F := F) (its := [.inr 0, .inl (natD p)]) (ρ := ρ') (ds := [.lst o (rows.map rowD), natD p]) (by simp [looks, look, h0']) (hN o rows p hp)
  simp only [evalIt, itSeq, ev_call, evalA]
  have e0 : argR (.rf 0) (evE G (.rf 0)) ρ = .ok (.inr 0, ρ) := by simp [argR, h0]
  simp only [e0, Out.bind_ok, he, hk, a, frz_lst, frzL_nats, seqsD]
theorem reached_loop (hN : SpNext (G.at 23)) (ok : OkRows rows) (h60 : rows.length ≤ 900) : ∃ ks x, ks.Nodup ∧ (∀ p, p ∈ ks ↔ Reach rows p) ∧ exS G l1_reached [some (.lst o (rows.map rowD)), some (placesD true [0]), some (.lst true [natD 0]), none] = .ok (.nx [some (.lst o (rows.map rowD)), some (placesD true ks), some (.lst true []), x]) := by
  have run := whl_run (σ := (List Nat × List Nat) × Option D) (fun s => envRe o rows s.1 s.2) (fun s f => ∃ ks x, ks.Nodup ∧ (∀ p, p ∈ ks ↔ Reach rows p) ∧ f = .nx (envRe o rows (ks, []) x))
    (fun s => s.1.2.length + 2 * (rows.length + 1 - s.1.1.length)) (c := tstF (evE G t1_reached)) (body := exB G b1_reached) (fun s => ReI rows s.1) (fun s hi => by
      obtain ⟨⟨ks, w⟩, x⟩ := s
      have hi : ReI rows (ks, w) := hi
      have hkl := hi.len ok
      have hwl := hi.wl
      simp only at hkl hwl
      rcases List.eq_nil_or_concat w with rfl | ⟨w, p, rfl⟩
      · left
        refine ⟨envRe o rows (ks, []) x, ?_, ks, x, hi.nd, fun p => reach_all hi.zero hi.ok (fun a ha q hq => hi.cl a ha (by simp) q hq) p, rfl⟩
        simp [tstF, t1_reached, evE, argN, envRe]
      · right
        rw [List.concat_eq_append] at *
        have hp : p ∈ ks := hi.sub p (by simp)
        have hpl := reach_le ok (hi.ok p hp)
        obtain ⟨new, r⟩ := rFold (nexts rows p) ks w hi.nd
        have hi' := hi.step r
        have hkl' := hi'.len ok
        refine ⟨envRe o rows (ks, w ++ [p]) x, by simp [tstF, t1_reached, evE, argN, envRe], .inl ?_⟩
        have it := it_next (G := G) hN (k := 23) rfl (o := o) (rows := rows) (ρ := envRe o rows (ks, w ++ [p]) x) (ρ' := envRe o rows (ks, w) x) (e := .pop 2) (p := p) (by simp [argR, evE, envRe]) rfl rfl hpl
        obtain ⟨x', loop, _⟩ := for_list natD (envRe o rows) rStep (fun s => s.1.Nodup ∧ (∀ p ∈ s.1, p ≤ rows.length) ∧ s.2.length ≤ s.1.length) (ch := none) (asg := asgT (.one 3)) (body := exB G b2_reached) (fun s x => rfl) (nexts rows p) (ks, w) x
          ⟨hi.nd, fun a ha => reach_le ok (hi.ok a ha), by simp at hwl; show w.length ≤ ks.length; omega⟩ (fun s x q hq ⟨i1, i2, i3⟩ => by
            have hl := nd_len i1 i2
            refine ⟨envRe o rows s (some (natD q)), by simp [asgT, setv, envRe], some (natD q), b2_re (by omega) (by omega), ?_⟩
            unfold rStep
            split
            · exact ⟨i1, i2, i3⟩
            · rename_i hn
              refine ⟨List.nodup_append.mpr ⟨i1, by simp, fun a ha b hb e => by simp at hb; subst hb; subst e; exact hn ha⟩, fun a ha => ?_, by simp; omega⟩
              rcases List.mem_append.mp ha with ha | ha
              · exact i2 a ha
              · simp at ha; subst ha; exact nexts_le ok hq)
        refine ⟨((nexts rows p).foldl rStep (ks, w), x'), ?_, hi', ?_, fun f h => h⟩
        · rw [b1_reached]
          refine xb_one ?_
          rw [l2_reached, x_for it]
          exact loop
        · have e1 := r.eq
          rw [e1] at hkl' ⊢
          simp only [List.length_append, List.length_cons, List.length_nil] at hkl' hwl ⊢
          omega) fuel (([0], [0]), none) ?_ ?_
  · obtain ⟨f, h1, ks, x, h2, h3, rfl⟩ := run
    refine ⟨ks, x, h2, h3, ?_⟩
    rw [l1_reached, ex_whlS]
    exact h1
  · exact ⟨by simp, fun p hp => by simp at hp; subst hp; exact .zero, by simp, by simp, fun p hp hn => absurd hp hn, by simp⟩
  · show 1 + 2 * (rows.length + 1 - 1) < fuel
    unfold fuel; omega
def SpReached (F : Sem') : Prop := ∀ (o : Bool) (rows : List Rw), OkRows rows → rows.length ≤ 62 → F [.lst o (rows.map rowD)] = .ok (.lst true ((reachL rows).map natD), [some (.lst o (rows.map rowD))])
theorem m_reached (G : Ctx) (hN : SpNeed (G.at 12)) (hX : SpNext (G.at 23)) : SpReached (d_reached.run G) := fun o rows ok h62 => by
  have hA : asgs d_reached.body = [1, 2, 3, 2] := rfl
  obtain ⟨ks, x, nd, hk, loop⟩ := reached_loop hX ok (o := o) (by omega)
  have a0 := apply_pure (its := [.inr 0]) (ρ := [some (.lst o (rows.map rowD)), none, none, none]) rfl (hN o rows ok)
  have hkl := nd_len nd fun p hp => reach_le ok ((hk p).mp hp)
  have c : c1D .sorted (placesD true ks) = .ok (.lst true ((reachL rows).map natD)) := by
    rw [placesD, c1_sortD, all_left, kd_nk, sortD_ints, sort_reach ok nd hk]
    simp [show ks.length < 64 by omega, List.map_map, Function.comp_def]
  have main : exB G d_reached.body [some (.lst o (rows.map rowD)), none, none, none] = .ok (.rt (.lst true ((reachL rows).map natD)) [some (.lst o (rows.map rowD)), some (placesD true ks), some (.lst true []), x]) := by
    unfold d_reached
    refine (xb_nx (ρ' := [some (.lst o (rows.map rowD)), none, none, none]) (x_ex (d := .non) (by simp [ev_call, evalA, argR, a0]))).trans ?_
    refine (xb_nx (ρ' := [some (.lst o (rows.map rowD)), some (placesD true [0]), none, none]) ?_).trans ?_
    · refine x_set (ρ' := [some (.lst o (rows.map rowD)), none, none, none]) (d := placesD true [0]) ?_ (by simp)
      simp [evE, evalL, dctD, pairUp, pairsD, toKD, dputs, dput, didx, placesD, nkD]
    refine (xb_nx (ρ' := [some (.lst o (rows.map rowD)), some (placesD true [0]), some (.lst true [natD 0]), none]) (by simp [exS, evE, evalL, setv])).trans ?_
    refine (xb_nx loop).trans (xb_rt (x_ret ?_))
    simp [evE, argN, c]
  rw [run_rt rfl main, hA]
  simp [d_reached]
end
end VL
/-! mirrors, part 17: typed comprehensions; the law's reached -/
namespace VL
open PySem PySem.Spec L2
theorem comp_typed {α : Type} (emb : α → D) (b : α → Bool) (v : α → D) {own : List Nat} {g : Tg} {t : Env → Out (Bool × Env)} {el : Env → Out (D × Env)} {ch : Option (Nat × D)} {base : Env}
    (hst : ∀ ρ, wipeE ρ own = base → stayE ch ρ = true) :
    ∀ {l : List α} {acc : List D} {ρ : Env}, (∀ a ∈ l, ∃ ρ1 ρ2, asgT g (emb a) base = .ok ρ1 ∧ t ρ1 = .ok (b a, ρ2) ∧ (if b a = true then ∃ ρ3, el ρ2 = .ok (v a, ρ3) ∧ wipeE ρ3 own = base else wipeE ρ2 own = base)) → wipeE ρ own = base →
      ∃ ρ', compF ch (fun d ρ => asgT g d (wipeE ρ own)) t el (l.map emb) acc ρ = .ok (acc ++ (l.filter b).map v, ρ') ∧ wipeE ρ' own = base
  | [], acc, ρ, _, hw => ⟨ρ, by simp [compF, hst ρ hw], hw⟩
  | a :: l, acc, ρ, h, hw => by
    obtain ⟨ρ1, ρ2, h1, h2, h3⟩ := h a List.mem_cons_self
    have hr : ∀ a ∈ l, _ := fun a ha => h a (List.mem_cons_of_mem _ ha)
    simp only [List.map_cons, compF, hst ρ hw, Out.guard_true, hw, h1, Out.bind_ok, h2]
    cases hb : b a with
    | true =>
      rw [hb, if_pos rfl] at h3
      obtain ⟨ρ3, h4, h5⟩ := h3
      simp only [h4, Out.bind_ok]
      obtain ⟨ρ', h6, h7⟩ := comp_typed emb b v hst (l := l) (acc := acc ++ [v a]) hr h5
      exact ⟨ρ', by rw [h6]; simp [hb], h7⟩
    | false =>
      rw [hb, if_neg Bool.false_ne_true] at h3
      obtain ⟨ρ', h6, h7⟩ := comp_typed emb b v hst (l := l) (acc := acc) hr h3
      exact ⟨ρ', by rw [h6]; simp [hb], h7⟩
theorem lc_typed {α : Type} (emb : α → D) (b : α → Bool) (v : α → D) {own : List Nat} {g : Tg} {t : Env → Out (Bool × Env)} {el : Env → Out (D × Env)} {l : List α} {ch : Option (Nat × D)} {ρ : Env} (hlen : l.length < lim) (hst : ∀ ρ', wipeE ρ' own = wipeE ρ own → stayE ch ρ' = true)
    (h : ∀ a ∈ l, ∃ ρ1 ρ2, asgT g (emb a) (wipeE ρ own) = .ok ρ1 ∧ t ρ1 = .ok (b a, ρ2) ∧ (if b a = true then ∃ ρ3, el ρ2 = .ok (v a, ρ3) ∧ wipeE ρ3 own = wipeE ρ own else wipeE ρ2 own = wipeE ρ own)) :
    lcF own g t el ((l.map emb, ch), ρ) = .ok (.lst true ((l.filter b).map v), ρ) := by
  obtain ⟨ρ', h1, h2⟩ := comp_typed emb b v (ch := ch) (acc := []) (ρ := ρ) hst h rfl
  unfold lcF
  have hl : (l.map emb).length < lim := by rw [List.length_map]; exact hlen
  rw [decide_eq_true hl, Out.guard_true, h1]
  simp only [Out.bind_ok, List.nil_append]
  rw [keep_back h2]
theorem lcn_typed {α : Type} (emb : α → D) (v : α → D) {own : List Nat} {g : Tg} {el : Env → Out (D × Env)} {l : List α} {ch : Option (Nat × D)} {ρ : Env} (hlen : l.length < lim) (hst : ∀ ρ', wipeE ρ' own = wipeE ρ own → stayE ch ρ' = true)
    (h : ∀ a ∈ l, ∃ ρ1, asgT g (emb a) (wipeE ρ own) = .ok ρ1 ∧ ∃ ρ3, el ρ1 = .ok (v a, ρ3) ∧ wipeE ρ3 own = wipeE ρ own) :
    lcF own g (fun ρ => .ok (true, ρ)) el ((l.map emb, ch), ρ) = .ok (.lst true (l.map v), ρ) := by
  have := lc_typed (g := g) (t := fun ρ => .ok (true, ρ)) (el := el) emb (fun _ => true) v hlen hst fun a ha => by
    obtain ⟨ρ1, h1, h2⟩ := h a ha
    exact ⟨ρ1, ρ1, h1, rfl, by simpa using h2⟩
  rw [this, List.filter_eq_self.mpr (by simp)]
/-- a test and an item of a comprehension, where the slots stay -/
theorem eqv_nat {a b : Nat} : eqv (natD a) (natD b) = decide (a = b) := by
  by_cases e : a = b
  · subst e; rw [decide_eq_true rfl, eqv_iff]
  · rw [decide_eq_false e, Bool.eq_false_iff, ne_eq, eqv_iff]
    intro z; simp at z; exact e (by omega)
theorem in_nats {q : Nat} {o : Bool} {l : List Nat} : inD (natD q) (.lst o (l.map natD)) = .ok (decide (q ∈ l)) := by
  have h1 : (l.map natD).all flat = true := by rw [List.all_map, List.all_eq_true]; intro x _; rfl
  have h2 : ((l.map natD).any fun d => eqv d (natD q)) = decide (q ∈ l) := by
    rw [List.any_map]
    induction l with
    | nil => simp
    | cons a l ih =>
      simp only [List.any_cons, Function.comp_apply, eqv_nat]
      rw [ih (by rw [List.all_map, List.all_eq_true]; intro x _; rfl)]
      by_cases e : a = q
      · subst e; simp
      · have e' : ¬ q = a := fun z => e z.symm
        simp [e, e']
  simp only [inD, h1, h2, flat, Bool.and_self, Bool.true_or, Out.guard_true]
section
variable {G : Ctx} {o : Bool} {rows : List Rw}
def envLR (o : Bool) (rows : List Rw) (s : List Nat × Nat) (x : Option D) : Env := [some (.lst o (rows.map rowD)), some (.lst true (s.1.map natD)), some (natD s.2), x]
theorem c_lreach (hN : SpNext (G.at 21)) {l : List Nat} {a p : Nat} {x : Option D} (hp : l[a]? = some p) (hpl : p ≤ rows.length) (hl : l.length < 1000) :
    evE G c1__law_reached (envLR o rows (l, a) x) = .ok (.lst true (((nexts rows p).filter fun q => decide (q ∉ l)).map natD), envLR o rows (l, a) x) := by
  have hs := fun y => sub_at (ρ := [some (.lst o (rows.map rowD)), some (.lst true (l.map natD)), some (natD a), y]) (k := 1) (p := a) (o := true) (l := l.map natD) (d := natD p) rfl (by rw [List.getElem?_map, hp]; rfl) (by simp)
  have it := it_next (G := G) hN (k := 21) rfl (o := o) (rows := rows) (ρ := envLR o rows (l, a) x) (ρ' := envLR o rows (l, a) x) (e := .sub (.lnm 1) (.nm 2)) (p := p) (by simp [argR, evE, argN, envLR, hs]) rfl rfl hpl
  rw [c1__law_reached, ev_lc, it, Out.bind_ok]
  refine lc_typed natD _ natD (Nat.lt_of_le_of_lt (nexts_len rows p) (by decide)) (fun _ _ => rfl) fun q hq => ?_
  have hi := in_nats (q := q) (o := true) (l := l)
  refine ⟨envLR o rows (l, a) (some (natD q)), envLR o rows (l, a) (some (natD q)), by simp [asgT, setv, wipeE, envLR], ?_, ?_⟩
  · simp [tstF, evE, argN, envLR, hi]
  · by_cases h : q ∈ l
    · simp [h, wipeE, envLR]
    · rw [if_pos (by simp [h])]
      exact ⟨envLR o rows (l, a) (some (natD q)), by simp [evE, envLR], by simp [wipeE, envLR]⟩
structure LrI (rows : List Rw) (s : List Nat × Nat) : Prop where
  nd : s.1.Nodup
  ok : ∀ p ∈ s.1, Reach rows p
  zero : 0 ∈ s.1
  at_ : s.2 ≤ s.1.length
  cl : ∀ i p, i < s.2 → s.1[i]? = some p → ∀ q ∈ nexts rows p, q ∈ s.1
theorem LrI.step {l : List Nat} {a p : Nat} (h : LrI rows (l, a)) (hp : l[a]? = some p) : LrI rows (l ++ (nexts rows p).filter (fun q => decide (q ∉ l)), a + 1) := by
  have hal : a < l.length := (List.getElem?_eq_some_iff.mp hp).1
  have hpm : p ∈ l := List.mem_of_getElem? hp
  have hf : ∀ q, q ∈ (nexts rows p).filter (fun q => decide (q ∉ l)) ↔ q ∈ nexts rows p ∧ q ∉ l := fun q => by rw [List.mem_filter, decide_eq_true_iff]
  refine ⟨List.nodup_append.mpr ⟨h.nd, (nexts_nd rows p).filter _, fun x hx y hy e => ?_⟩, fun q hq => ?_, List.mem_append_left _ h.zero, ?_, fun i q hi hq r hr => ?_⟩
  · subst e; exact ((hf x).mp hy).2 hx
  · rcases List.mem_append.mp hq with hq | hq
    · exact h.ok q hq
    · exact .step (h.ok p hpm) ((hf q).mp hq).1
  · simp only [List.length_append]; omega
  · have hi : i ≤ a := Nat.lt_succ_iff.mp hi
    rw [List.getElem?_append_left (by omega)] at hq
    rcases Nat.lt_or_ge i a with h1 | h1
    · exact List.mem_append_left _ (h.cl i q h1 hq r hr)
    · have : i = a := by omega
      subst this
      rw [hp] at hq
      cases hq
      by_cases h2 : r ∈ l
      · exact List.mem_append_left _ h2
      · exact List.mem_append_right _ ((hf r).mpr ⟨hr, h2⟩)
theorem m_law_reached (G : Ctx) (hN : SpNext (G.at 21)) : SpReached (d__law_reached.run G) := fun o rows ok h62 => by
  have hA : asgs d__law_reached.body = [1, 2, 1, 2] := rfl
  have run := whl_run (σ := (List Nat × Nat) × Option D) (fun s => envLR o rows s.1 s.2) (fun s f => ∃ l a x, l.Nodup ∧ (∀ p, p ∈ l ↔ Reach rows p) ∧ f = .nx (envLR o rows (l, a) x))
    (fun s => 2 * (rows.length + 1 - s.1.1.length) + (s.1.1.length - s.1.2)) (c := tstF (evE G t1__law_reached)) (body := exB G b1__law_reached) (fun s => LrI rows s.1) (fun s hi => by
      obtain ⟨⟨l, a⟩, x⟩ := s
      have hi : LrI rows (l, a) := hi
      have hll := nd_len hi.nd fun p hp => reach_le ok (hi.ok p hp)
      have hat := hi.at_
      simp only at hll hat
      rcases Nat.lt_or_ge a l.length with hlt | hge
      · right
        obtain ⟨p, hp⟩ : ∃ p, l[a]? = some p := ⟨l[a], List.getElem?_eq_getElem hlt⟩
        have hi' := hi.step hp
        have hll' := nd_len hi'.nd fun p hp => reach_le ok (hi'.ok p hp)
        have hc := fun x => c_lreach (G := G) (o := o) hN hp (reach_le ok (hi.ok p (List.mem_of_getElem? hp))) (l := l) (x := x) (by omega)
        generalize (nexts rows p).filter (fun q => decide (q ∉ l)) = new at *
        refine ⟨envLR o rows (l, a) x, by simp [tstF, t1__law_reached, evE, argN, envLR, hlt], .inl ⟨((l ++ new, a + 1), x), ?_, hi', ?_, fun f h => h⟩⟩
        · have an : ∀ f ρ, argN c1__law_reached f ρ = (f ρ).bind fun x => .ok (.inl x.1, x.2) := fun f ρ => argN_def rfl
          simp only [List.length_append] at hll'
          have hw : l.length + new.length ≤ lim := Nat.le_trans (show _ ≤ 1000 by omega) (by decide)
          have hc := hc x
          simp only [envLR] at hc
          refine (xb_nx (ρ' := envLR o rows (l ++ new, a) x) ?_).trans (xb_one ?_)
          · simp [exS, ev_bin, argN_lnm, an, envLR, hc, setv, fzdL_nats, hw]
          · simp [exS, evE, argN, setv, envLR]
        · simp only [List.length_append] at hll' ⊢
          omega
      · left
        refine ⟨envLR o rows (l, a) x, by simp [tstF, t1__law_reached, evE, argN, envLR]; omega, l, a, x, hi.nd, fun p => reach_all hi.zero hi.ok (fun b hb q hq => ?_) p, rfl⟩
        obtain ⟨i, hil, hib⟩ := List.mem_iff_getElem.mp hb
        have hil' : i < l.length := hil
        exact hi.cl i b (show i < a by omega) (by rw [List.getElem?_eq_getElem hil, hib]) q hq) fuel (([0], 0), none) ⟨by simp, fun p hp => by simp at hp; subst hp; exact .zero, by simp, by simp, fun i p hi => absurd hi (Nat.not_lt_zero _)⟩ (by show 2 * (rows.length + 1 - 1) + (1 - 0) < fuel; unfold fuel; omega)
  obtain ⟨f, h1, l, a, x, nd, hk, rfl⟩ := run
  have hkl := nd_len nd fun p hp => reach_le ok ((hk p).mp hp)
  have loop : exS G l1__law_reached [some (.lst o (rows.map rowD)), some (.lst true [natD 0]), some (natD 0), none] = .ok (.nx (envLR o rows (l, a) x)) := by
    rw [l1__law_reached, ex_whlS]
    exact h1
  have c : c1D .sorted (.lst true (l.map natD)) = .ok (.lst true ((reachL rows).map natD)) := by
    have e : l.map natD = (l.map fun (p : Nat) => (p : Int)).map D.int := by rw [List.map_map]; rfl
    rw [e, c1_sortL, sortD_ints, sort_reach ok nd hk]
    simp [show l.length < 64 by omega, List.map_map, Function.comp_def]
  have main : exB G d__law_reached.body [some (.lst o (rows.map rowD)), none, none, none] = .ok (.rt (.lst true ((reachL rows).map natD)) (envLR o rows (l, a) x)) := by
    unfold d__law_reached
    refine (xb_nx (ρ' := [some (.lst o (rows.map rowD)), some (.lst true [natD 0]), none, none]) (by simp [exS, evE, evalL, setv])).trans ?_
    refine (xb_nx (ρ' := [some (.lst o (rows.map rowD)), some (.lst true [natD 0]), some (natD 0), none]) (by simp [exS, evE, setv])).trans ?_
    refine (xb_nx loop).trans (xb_rt (x_ret ?_))
    simp [evE, argN, envLR, c]
  rw [run_rt rfl main, hA]
  simp [d__law_reached, envLR]
end
end VL
/-! mirrors, part 18: comers -/
namespace VL
open PySem PySem.Spec L2
/-- a for loop, its state told by what was walked -/
theorem for_pre {α β : Type} (emb : α → D) (env : List α → β → Env) {l : List α} {ch : Option (Nat × D)} {asg : D → Env → Out Env} {body : Env → Out Fl} (hst : ∀ s x, stayE ch (env s x) = true)
    (h : ∀ pre a post x, l = pre ++ a :: post → ∃ ρ1, asg (emb a) (env pre x) = .ok ρ1 ∧ ∃ x', body ρ1 = .ok (.nx (env (pre ++ [a]) x'))) (x : β) :
    ∃ x', forF ch asg body (l.map emb) (env [] x) = .ok (.nx (env l x')) := by
  have go : ∀ (post pre : List α) (x : β), l = pre ++ post → ∃ x', forF ch asg body (post.map emb) (env pre x) = .ok (.nx (env l x')) := by
    intro post
    induction post with
    | nil =>
      intro pre x e
      rw [List.append_nil] at e
      subst e
      exact ⟨x, by simp [forF, hst]⟩
    | cons a post ih =>
      intro pre x e
      obtain ⟨ρ1, h1, x', h2⟩ := h pre a post x e
      obtain ⟨x2, h3⟩ := ih (pre ++ [a]) x' (by simpa using e)
      exact ⟨x2, by simp only [List.map_cons, forF, hst, Out.guard_true, h1, Out.bind_ok, h2]; exact h3⟩
  exact go l [] x rfl
theorem set_range {α : Type} {g : Nat → α} {n q : Nat} {v : α} (h : q < n) : ((List.range n).map g).set q v = (List.range n).map fun j => if j = q then v else g j := by
  apply List.ext_getElem?
  intro j
  rw [List.getElem?_set]
  simp only [List.length_map, List.length_range]
  by_cases e : q = j
  · subst e
    simp [h]
  · have e' : ¬ j = q := fun z => e z.symm
    rw [if_neg e]
    simp only [List.getElem?_map]
    cases hj : (List.range n)[j]? with
    | none => rfl
    | some k =>
      have := List.getElem?_range (show j < n by have := (List.getElem?_eq_some_iff.mp hj).1; simpa using this)
      rw [this] at hj
      cases hj
      simp [e']
theorem get_range {α : Type} {g : Nat → α} {n q : Nat} (h : q < n) : ((List.range n).map g)[q]? = some (g q) := by
  rw [List.getElem?_map, List.getElem?_range h]; rfl
def intsL (l : List Int) : D := .lst true (l.map .int)
/-- from which places j is come to, by those walked -/
def comF (rows : List Rw) (pre : List Nat) (j : Nat) : List Int := (if j = 0 then [-1] else []) ++ (pre.filter fun p => decide (j ∈ nexts rows p)).map fun (p : Nat) => (p : Int)
theorem comF_snoc {rows : List Rw} {pre : List Nat} {p j : Nat} : comF rows (pre ++ [p]) j = comF rows pre j ++ (if j ∈ nexts rows p then [(p : Int)] else []) := by
  unfold comF
  rw [List.filter_append]
  by_cases h : j ∈ nexts rows p <;> simp [h]
theorem comF_len {rows : List Rw} {pre : List Nat} {j : Nat} : (comF rows pre j).length ≤ pre.length + 1 := by
  unfold comF
  have := List.length_filter_le (fun p => decide (j ∈ nexts rows p)) pre
  split <;> simp <;> omega
noncomputable def comersL (rows : List Rw) (j : Nat) : List Int := comF rows (reachL rows) j
section
variable {G : Ctx} {o : Bool} {rows : List Rw}
noncomputable def envC (o : Bool) (rows : List Rw) (g : Nat → List Int) (x : Option D × Option D) : Env := [some (.lst o (rows.map rowD)), some (.lst true ((reachL rows).map natD)), some (.lst true ((List.range (rows.length + 1)).map fun j => intsL (g j))), x.1, x.2]
theorem x_moi {G : Ctx} {i : Nat} {k e : E} {ρ : Env} {n q : Nat} {g : Nat → List Int} {d : Int} (hk : evE G k ρ = .ok (natD q, ρ)) (hi : getv ρ i = some (.lst true ((List.range n).map fun j => intsL (g j)))) (hq : q < n) (he : evE G e ρ = .ok (.int d, ρ)) (hl : (g q).length < lim) :
    exS G (.moi .app i k e) ρ = .ok (.nx (ρ.set i (some (.lst true ((List.range n).map fun j => intsL (if j = q then g q ++ [d] else g j)))))) := by
  have w : whichD (.lst true ((List.range n).map fun j => intsL (g j))) (natD q) = some q := by
    show ixN _ _ = _
    exact ixN_nat (by simpa using hq)
  have hl' : ((g q).map D.int).length < lim := by rw [List.length_map]; exact hl
  simp only [exS, hi, Out.of_some, Out.bind_ok, hk, w, get_range hq, he]
  have n1 : nodeOk .app (intsL (g q)) = true := rfl
  have m1 : moD .app (.int d) (intsL (g q)) = .ok (intsL (g q ++ [d])) := by
    show Out.guard _ _ = _
    rw [decide_eq_true hl', Out.guard_true]
    simp [intsL]
  rw [n1, Out.guard_true]
  have fl1 : flat (.int d) = true := rfl
  rw [fl1, Out.guard_true, m1, Out.bind_ok, set_range hq]
  congr 6
  funext j
  split
  · rfl
  · rfl
theorem it_nextR {G : Ctx} {F : Sem'} (hN : SpNext F) {k i : Nat} (hk : G.at k = F) {ρ : Env} {p : Nat} (h0 : getv ρ 0 = some (.lst o (rows.map rowD))) (hi : getv ρ i = some (natD p)) (hne : i ≠ 0) (hp : p ≤ rows.length) :
    evalIt G (.seq (.call k [(.rf 0), (.rf i)])) ρ = .ok (((nexts rows p).map natD, none), ρ) := by
  have a := apply_pure (F := F) (its := [.inr 0, .inr i]) (ρ := ρ) (ds := [.lst o (rows.map rowD), natD p]) (by simp [looks, look, h0, hi]) (hN o rows p hp) (by simp [slotsI]; exact fun e => hne e.symm)
  have e0 : argR (.rf 0) (evE G (.rf 0)) ρ = .ok (.inr 0, ρ) := by simp [argR, h0]
  have e1 : argR (.rf i) (evE G (.rf i)) ρ = .ok (.inr i, ρ) := by simp [argR, hi]
  simp only [evalIt, itSeq, ev_call, evalA, e0, e1, Out.bind_ok, hk, a, frz_lst, frzL_nats, seqsD]
theorem comers_inner (hN : SpNext (G.at 23)) (ok : OkRows rows) {pre : List Nat} {p : Nat} {x : Option D} (hp : p ≤ rows.length) (hl : pre.length ≤ 1000) :
    ∃ x', exS G l2_comers (envC o rows (comF rows pre) (some (natD p), x)) = .ok (.nx (envC o rows (comF rows (pre ++ [p])) (some (natD p), x'))) := by
  have it := it_nextR (G := G) hN (k := 23) (i := 3) rfl (o := o) (rows := rows) (ρ := envC o rows (comF rows pre) (some (natD p), x)) (p := p) rfl rfl (by decide) hp
  obtain ⟨x', h⟩ := for_pre natD (fun (pre2 : List Nat) x => envC o rows (fun j => comF rows pre j ++ if j ∈ pre2 then [(p : Int)] else []) (some (natD p), x)) (l := nexts rows p) (ch := none) (asg := asgT (.one 4)) (body := exB G b2_comers) (fun _ _ => rfl) (fun pre2 q post x e => by
    have hnd := nexts_nd rows p
    have hqm : q ∈ nexts rows p := by rw [e]; simp
    have hq := nexts_le ok hqm
    have hq2 : q ∉ pre2 := by
      rw [e] at hnd
      have := (List.nodup_append.mp hnd).2.2
      exact fun z => this q z q List.mem_cons_self rfl
    refine ⟨envC o rows (fun j => comF rows pre j ++ if j ∈ pre2 then [(p : Int)] else []) (some (natD p), some (natD q)), by simp [asgT, setv, envC], some (natD q), ?_⟩
    have := x_moi (G := G) (i := 2) (k := .nm 4) (e := .nm 3) (ρ := envC o rows (fun j => comF rows pre j ++ if j ∈ pre2 then [(p : Int)] else []) (some (natD p), some (natD q))) (n := rows.length + 1) (q := q) (g := fun j => comF rows pre j ++ if j ∈ pre2 then [(p : Int)] else []) (d := p)
      (by simp [evE, envC]) rfl (by omega) (by simp [evE, envC]) (by
        have := comF_len (rows := rows) (pre := pre) (j := q)
        simp only [hq2, if_false, List.append_nil]
        exact Nat.lt_of_le_of_lt (show _ ≤ 1001 by omega) (by decide))
    rw [b2_comers]
    refine (xb_one this).trans ?_
    have ef : (fun j => if j = q then (comF rows pre q ++ if q ∈ pre2 then [(p : Int)] else []) ++ [(p : Int)] else comF rows pre j ++ if j ∈ pre2 then [(p : Int)] else []) = fun j => comF rows pre j ++ if j ∈ pre2 ++ [q] then [(p : Int)] else [] := by
      funext j
      by_cases ej : j = q
      · subst ej; simp [hq2]
      · simp [ej]
    rw [show (List.range (rows.length + 1)).map (fun j => intsL (if j = q then (comF rows pre q ++ if q ∈ pre2 then [(p : Int)] else []) ++ [(p : Int)] else comF rows pre j ++ if j ∈ pre2 then [(p : Int)] else [])) = (List.range (rows.length + 1)).map fun j => intsL (comF rows pre j ++ if j ∈ pre2 ++ [q] then [(p : Int)] else []) from by
      apply List.map_congr_left
      intro j _
      exact congrArg intsL (congrFun ef j)]
    rfl) x
  refine ⟨x', ?_⟩
  rw [l2_comers, x_for it]
  have e0 : (fun j => comF rows pre j ++ if j ∈ ([] : List Nat) then [(p : Int)] else []) = comF rows pre := by funext j; simp
  have e1 : (fun j => comF rows pre j ++ if j ∈ nexts rows p then [(p : Int)] else []) = comF rows (pre ++ [p]) := by funext j; rw [comF_snoc]
  rw [e0, e1] at h
  exact h
noncomputable def comersD (rows : List Rw) : D := .lst true ((List.range (rows.length + 1)).map fun j => intsL (comersL rows j))
def SpComers (F : Sem') : Prop := ∀ (o : Bool) (rows : List Rw), OkRows rows → rows.length ≤ 62 → F [.lst o (rows.map rowD)] = .ok (comersD rows, [some (.lst o (rows.map rowD))])
theorem m_comers (G : Ctx) (hX : SpNext (G.at 23)) (hR : SpReached (G.at 24)) : SpComers (d_comers.run G) := fun o rows ok h62 => by
  have hA : asgs d_comers.body = [1, 2, 3, 4] := rfl
  have a1 := apply_pure (its := [.inr 0]) (ρ := [some (.lst o (rows.map rowD)), none, none, none, none]) rfl (hR o rows ok h62)
  have hrl := reachL_len rows
  have e2 : evE G c1_comers [some (.lst o (rows.map rowD)), some (.lst true ((reachL rows).map natD)), none, none, none] = .ok (.lst true ((List.range (rows.length + 1)).map fun _ => intsL []), [some (.lst o (rows.map rowD)), some (.lst true ((reachL rows).map natD)), none, none, none]) := by
    rw [c1_comers, ev_lcn, ev_rng (n := rows.length + 1) (ρ' := [some (.lst o (rows.map rowD)), some (.lst true ((reachL rows).map natD)), none, none, none]) (by simp [evE, argN]) (by omega), Out.bind_ok]
    refine lcn_typed (fun (i : Nat) => D.int i) (fun _ => intsL []) (by rw [List.length_range]; exact Nat.lt_of_le_of_lt (show _ ≤ 63 by omega) (by decide)) (fun _ _ => rfl) fun k hk => ?_
    exact ⟨[some (.lst o (rows.map rowD)), some (.lst true ((reachL rows).map natD)), none, some (.int (k : Int)), none], by simp [asgT, setv, wipeE], [some (.lst o (rows.map rowD)), some (.lst true ((reachL rows).map natD)), none, some (.int (k : Int)), none], by simp [evE, evalL, intsL], by simp [wipeE]⟩
  have e3 : exS G (.moi .app 2 (.ci 0) (.neg (.ci 1))) (envC o rows (fun _ => []) (none, none)) = .ok (.nx (envC o rows (comF rows []) (none, none))) := by
    have := x_moi (G := G) (i := 2) (k := .ci 0) (e := .neg (.ci 1)) (ρ := envC o rows (fun _ => []) (none, none)) (n := rows.length + 1) (q := 0) (g := fun _ => []) (d := -1) (by simp [evE]) rfl (by omega) (by simp [evE]) (by decide)
    rw [this]
    have e : (List.range (rows.length + 1)).map (fun j => intsL (if j = 0 then ([] : List Int) ++ [-1] else [])) = (List.range (rows.length + 1)).map fun j => intsL (comF rows [] j) := by
      apply List.map_congr_left
      intro j _
      unfold comF
      by_cases h : j = 0 <;> simp [h]
    rw [e]
    rfl
  have it : evalIt G (.seq (.bnm 1)) (envC o rows (comF rows []) (none, none)) = .ok (((reachL rows).map natD, some (1, .lst true ((reachL rows).map natD))), envC o rows (comF rows []) (none, none)) := by
    simp [evalIt, itSeq, slotW, envC, frzL_nats]
  obtain ⟨x', loop⟩ := for_pre natD (fun (pre : List Nat) x => envC o rows (comF rows pre) x) (l := reachL rows) (ch := some (1, .lst true ((reachL rows).map natD))) (asg := asgT (.one 3)) (body := exB G b1_comers) (fun _ _ => stayE_iff.mpr rfl) (fun pre p post x e => by
    have hpm : p ∈ reachL rows := by rw [e]; simp
    have hp := reach_le ok ((mem_reachL ok).mp hpm)
    have hl : pre.length ≤ 1000 := by
      have := congrArg List.length e
      simp only [List.length_append, List.length_cons] at this
      omega
    obtain ⟨x2, h⟩ := comers_inner (G := G) (o := o) (pre := pre) (p := p) (x := x.2) hX ok hp hl
    exact ⟨envC o rows (comF rows pre) (some (natD p), x.2), by simp [asgT, setv, envC], (some (natD p), x2), by rw [b1_comers]; exact xb_one h⟩) (none, none)
  have main : exB G d_comers.body [some (.lst o (rows.map rowD)), none, none, none, none] = .ok (.rt (comersD rows) ((envC o rows (comersL rows) x').set 2 none)) := by
    unfold d_comers
    refine (xb_nx (ρ' := [some (.lst o (rows.map rowD)), some (.lst true ((reachL rows).map natD)), none, none, none]) (by simp [exS, ev_call, evalA, argR, a1, setv])).trans ?_
    refine (xb_nx (ρ' := envC o rows (fun _ => []) (none, none)) (x_set e2 (by simp))).trans ?_
    refine (xb_nx e3).trans ?_
    refine (xb_nx (ρ' := envC o rows (comersL rows) x') ?_).trans (xb_rt (x_mv rfl))
    rw [l1_comers, x_for it]
    exact loop
  rw [run_rt rfl main, hA]
  simp [d_comers, envC]
end
end VL
/-! mirrors, part 19: numbers -/
namespace VL
open PySem PySem.Spec L2
theorem eq_ints {o p : Bool} {l : List Int} : eqD (.lst o (l.map .int)) (.lst p (l.map .int)) = .ok true := by
  have h : ∀ o, plain (.lst o (l.map D.int)) = true := fun o => by unfold plain pl; exact pl_ints
  rw [eqD_lst, h, h]
  simp [eqv_iff, frzL_int]
def SpNumbers (F : Sem') : Prop := ∀ (o o' : Bool) (l : List Int), l.length < lim → F [.lst o (l.map .int), .lst o' (l.map .int)] = .ok (.bl true, [some (.lst o (l.map .int)), some (.lst o' (l.map .int))])
theorem slot_ints {ρ : Env} {i : Nat} {o : Bool} {l : List Int} (h : getv ρ i = some (.lst o (l.map .int))) : slotW i ρ = .ok ((l.map .int, if o = true then some (i, .lst true (l.map .int)) else none), ρ) := by
  unfold slotW
  rw [h]
  cases o with
  | true => simp only [Out.of_some, Out.bind_ok, frzL_int, if_true, set_self h]
  | false => simp
theorem m_numbers (G : Ctx) (hW : SpWhole (G.at 17)) : SpNumbers (d__law_numbers.run G) := fun o o' l hl => by
  have hA : asgs d__law_numbers.body = [] := rfl
  have it : evalIt G (.seq (.bnm 0)) [some (.lst o (l.map .int)), some (.lst o' (l.map .int)), none] = .ok ((l.map .int, if o = true then some (0, .lst true (l.map .int)) else none), [some (.lst o (l.map .int)), some (.lst o' (l.map .int)), none]) := by
    simp only [evalIt, itSeq]
    exact slot_ints rfl
  have c : evE G c1__law_numbers [some (.lst o (l.map .int)), some (.lst o' (l.map .int)), none] = .ok (.lst true [], [some (.lst o (l.map .int)), some (.lst o' (l.map .int)), none]) := by
    rw [c1__law_numbers, ev_lc, it, Out.bind_ok]
    have := lc_typed (own := [2]) (g := .one 2) (t := tstF (evE G (.not_ (.call 17 [(.rf 2)])))) (el := evE G (.nm 2)) (ch := if o = true then some (0, .lst true (l.map .int)) else none) (ρ := [some (.lst o (l.map .int)), some (.lst o' (l.map .int)), none]) D.int (fun _ => false) D.int hl (fun ρ hw => by
      cases o with
      | false => rfl
      | true =>
        simp only [if_true]
        rw [stayE_iff]
        have := congrArg (fun ρ => getv ρ 0) hw
        simp only [getv_wipeE] at this
        simpa using this) (fun a ha => by
      have h17 := apply_pure (F := G.at 17) (its := [.inr 2]) (ρ := [some (.lst o (l.map .int)), some (.lst o' (l.map .int)), some (.int a)]) rfl (hW (.inl a))
      refine ⟨[some (.lst o (l.map .int)), some (.lst o' (l.map .int)), some (.int a)], [some (.lst o (l.map .int)), some (.lst o' (l.map .int)), some (.int a)], by simp [asgT, setv, wipeE], ?_, by simp [wipeE]⟩
      simp [tstF, evE, evalA, argR, h17])
    rw [List.filter_eq_nil_iff.mpr (by simp)] at this
    exact this
  have main : exB G d__law_numbers.body [some (.lst o (l.map .int)), some (.lst o' (l.map .int)), none] = .ok (.rt (.bl true) [some (.lst o (l.map .int)), some (.lst o' (l.map .int)), none]) := by
    unfold d__law_numbers
    refine xb_rt (x_ret ?_)
    have en : eqD (.lst true []) (.lst true []) = .ok true := by
      have := eq_ints (o := true) (p := true) (l := [])
      simpa using this
    simp [evE, evalL, argN_lnm, argN_def (show isLnm c1__law_numbers = false from rfl), isiD, isiOk, c, eq_ints, en]
  rw [run_rt rfl main, hA]
  simp [d__law_numbers]
end VL
/-! mirrors, part 20: what a row reads; dicts of names -/
namespace VL
open PySem PySem.Spec L2
def keyS : Key → Option Str
  | .inl _ => none
  | .inr x => some x
def Rw.reads (r : Rw) : List Str := r.ops.filterMap keyS
def SpRead (F : Sem') : Prop := ∀ r : Rw, F [rowD r] = .ok (.lst true (r.reads.map .str), [some (rowD r)])
theorem reads_map (l : List Key) : (l.filter fun a => !a.isLeft).map opD = (l.filterMap keyS).map D.str := by
  induction l with
  | nil => rfl
  | cons a l ih =>
    cases a with
    | inl i =>
      rw [List.filter_cons_of_neg (by simp), ih]
      rfl
    | inr x =>
      rw [List.filter_cons_of_pos (by simp), List.map_cons, ih]
      rfl
theorem m_read (G : Ctx) (hW : SpWhole (G.at 9)) (hA : SpAsked (G.at 10)) : SpRead (d_read.run G) := fun r => by
  have hB : asgs d_read.body = [] := rfl
  have a10 := apply_pure (F := G.at 10) (its := [.inr 0]) (ρ := [some (rowD r), none]) rfl (hA r)
  have it : evalIt G (.seq (.call 10 [(.rf 0)])) [some (rowD r), none] = .ok ((r.ops.map opD, none), [some (rowD r), none]) := by
    simp [evalIt, itSeq, evE, evalA, argR, a10, seqsD, frzL_ops]
  have c : evE G c1_read [some (rowD r), none] = .ok (.lst true (r.reads.map .str), [some (rowD r), none]) := by
    rw [c1_read, ev_lc, it, Out.bind_ok]
    have := lc_typed (own := [1]) (g := .one 1) (t := tstF (evE G (.not_ (.call 9 [(.rf 1)])))) (el := evE G (.nm 1)) (ch := none) (ρ := [some (rowD r), none]) opD (fun a => !a.isLeft) opD (l := r.ops) (Nat.lt_of_le_of_lt ops_len (by decide)) (fun _ _ => rfl) (fun a ha => by
      have h9 := apply_pure (F := G.at 9) (its := [.inr 1]) (ρ := [some (rowD r), some (opD a)]) rfl (hW a)
      refine ⟨[some (rowD r), some (opD a)], [some (rowD r), some (opD a)], by simp [asgT, setv, wipeE], by simp [tstF, evE, evalA, argR, h9], ?_⟩
      split
      · exact ⟨[some (rowD r), some (opD a)], by simp [evE], by simp [wipeE]⟩
      · simp [wipeE])
    rw [reads_map] at this
    exact this
  have main : exB G d_read.body [some (rowD r), none] = .ok (.rt (.lst true (r.reads.map .str)) [some (rowD r), none]) := xb_rt (x_ret c)
  rw [run_rt rfl main, hB]
  simp [d_read]
theorem m_law_own (G : Ctx) : SpWritten (d__law_own.run G) := fun r => by
  have h := m_written G r
  exact h
/-! ### dicts of names -/
def ins (l : List Str) (x : Str) : List Str := if x ∈ l then l else l ++ [x]
theorem mem_ins {l : List Str} {x y : Str} : y ∈ ins l x ↔ y ∈ l ∨ y = x := by
  unfold ins
  split
  · rename_i h
    exact ⟨.inl, fun q => q.elim id fun e => e ▸ h⟩
  · simp
theorem ins_nd {l : List Str} {x : Str} (h : l.Nodup) : (ins l x).Nodup := by
  unfold ins
  split
  · exact h
  · rename_i hn
    exact List.nodup_append.mpr ⟨h, by simp, fun a ha b hb e => by simp at hb; subst hb; subst e; exact hn ha⟩
theorem ins_len (l : List Str) (x : Str) : (ins l x).length ≤ l.length + 1 := by
  unfold ins
  split <;> simp
theorem nk_inj {x y : Str} (h : nk x = nk y) : x = y := by
  unfold nk at h
  injection h with h; injection h
def namesD (o : Bool) (l : List Str) : D := .dct o (l.map nk) (l.map fun _ => .bl true)
theorem same_nm {x : Str} {l : List Str} : sameKind (nk x) (l.map nk) = true := by
  unfold sameKind
  rw [List.all_map, List.all_eq_true]
  intro y _; rfl
theorem didx_nm {x : Str} : ∀ {l : List Str}, (didx (l.map nk) (nk x)).isSome = decide (x ∈ l)
  | [] => by simp [didx]
  | k :: ks => by
    have ih := didx_nm (x := x) (l := ks)
    simp only [List.map_cons, didx]
    by_cases e : k = x
    · subst e; simp
    · have : nk k ≠ nk x := fun z => e (nk_inj z)
      rw [if_neg this, Option.isSome_map, ih]
      have e' : ¬ x = k := fun z => e z.symm
      simp [e']
theorem dput_nm {l : List Str} {x : Str} : dput (l.map nk) (l.map fun _ => D.bl true) (nk x) (.bl true) = ((ins l x).map nk, (ins l x).map fun _ => D.bl true) := by
  unfold dput ins
  rw [didx_nm]
  by_cases h : x ∈ l
  · rw [if_pos h, decide_eq_true h, if_pos rfl]
    congr 1
    clear h
    induction l with
    | nil => rfl
    | cons a l ih =>
      simp only [List.map_cons, List.zip_cons_cons, List.cons.injEq]
      exact ⟨by split <;> rfl, ih⟩
  · rw [if_neg h, decide_eq_false h]
    simp
theorem put_names {l : List Str} {x : Str} (hl : l.length < lim) : putD (.str x) (.bl true) (namesD true l) = .ok (namesD true (ins l x)) := by
  have h : toKD (.str x) = some (nk x) := rfl
  simp only [namesD, putD, h, Out.of_some, Out.bind_ok, same_nm, List.length_map, decide_eq_true hl, Bool.and_self, Out.guard_true, dput_nm]
theorem pairs_nm (l : List Str) : pairsD (l.map fun x => D.tup [.str x, .bl true]) = some (l.map fun x => (nk x, D.bl true)) := by
  induction l with
  | nil => rfl
  | cons a l ih => simp [pairsD, toKD, toK, ih, nk]
theorem dputs_nm : ∀ (l acc : List Str), dputs (acc.map nk) (acc.map fun _ => D.bl true) (l.map fun x => (nk x, D.bl true)) = ((l.foldl ins acc).map nk, (l.foldl ins acc).map fun _ => D.bl true)
  | [], acc => rfl
  | x :: l, acc => by
    simp only [List.map_cons, dputs, dput_nm, List.foldl_cons]
    exact dputs_nm l (ins acc x)
theorem fzdL_tups (l : List Str) : fzdL (l.map fun x => D.tup [.str x, .bl true]) = true := by
  induction l with
  | nil => rfl
  | cons a l ih => simp [ih]
theorem dict_names {o : Bool} {l : List Str} : c1D .dict (.lst o (l.map fun x => D.tup [.str x, .bl true])) = .ok (namesD true (l.foldl ins [])) := by
  have h1 := pairs_nm l
  have h2 := dputs_nm l []
  simp only [List.map_nil] at h2
  have h3 := fzdL_tups l
  have h4 : (l.map fun x => (nk x, D.bl true)).all (·.1.isLeft) = true := by rw [List.all_map, List.all_eq_true]; intro y _; rfl
  simp only [c1D, h1, Out.of_some, Out.bind_ok, h3, h4, Bool.and_self, Out.guard_true, h2]
  rfl
theorem kd_nm {l : List Str} : (l.map nk).map kdD = l.map D.str := by
  rw [List.map_map]; rfl
theorem left_nm {l : List Str} : (l.map nk).all (·.isLeft) = true := by
  rw [List.all_map, List.all_eq_true]
  intro x _; rfl
theorem frzL_tt {l : List Str} : frzL (l.map fun _ => D.bl true) = l.map fun _ => D.bl true := by
  induction l with
  | nil => rfl
  | cons a l ih => simp [ih]
theorem fzdL_tt {l : List Str} : fzdL (l.map fun _ => D.bl true) = true := by
  induction l with
  | nil => rfl
  | cons a l ih => simp [ih]
theorem frz_names {o : Bool} {l : List Str} : frz (namesD o l) = namesD false l := by simp [namesD, frzL_tt]
theorem fzd_names {l : List Str} : fzd (namesD false l) = true := by simp [namesD, fzdL_tt]
theorem fzd_namesT {l : List Str} : fzd (namesD true l) = false := by simp [namesD]
theorem len_names {o : Bool} {l : List Str} : lenD (namesD o l) = .ok l.length := by simp [namesD]
end VL
/-! mirrors, part 21: which names are wanted (mathematics) -/
namespace VL
open PySem PySem.Spec L2
/-- by some way a row is come to that reads x, none ahead of it writes it -/
inductive Wanted (rows : List Rw) (x : Str) : Nat → Prop
  | here {p : Nat} {r : Rw} : rows[p]? = some r → x ∈ r.reads → Wanted rows x p
  | next {p q : Nat} {r : Rw} : rows[p]? = some r → r.own ≠ some x → q ∈ nexts rows p → Wanted rows x q → Wanted rows x p
def addF (own : Option Str) (acc : List Str) (x : Str) : List Str := if own = some x then acc else ins acc x
def fromF (own : Option Str) (W : Nat → List Str) (acc : List Str) (q : Nat) : List Str := (W q).foldl (addF own) acc
def nowR (rows : List Rw) (W : Nat → List Str) (p : Nat) (r : Rw) : List Str := (nexts rows p).foldl (fromF r.own W) (r.reads.foldl ins [])
theorem mem_foldl_ins {l acc : List Str} {x : Str} : x ∈ l.foldl ins acc ↔ x ∈ acc ∨ x ∈ l := by
  induction l generalizing acc with
  | nil => simp
  | cons a l ih =>
    simp only [List.foldl_cons, ih, mem_ins, List.mem_cons]
    constructor
    · rintro ((h | h) | h)
      · exact .inl h
      · exact .inr (.inl h)
      · exact .inr (.inr h)
    · rintro (h | h | h)
      · exact .inl (.inl h)
      · exact .inl (.inr h)
      · exact .inr h
theorem foldl_ins_nd {l acc : List Str} (h : acc.Nodup) : (l.foldl ins acc).Nodup := by
  induction l generalizing acc with
  | nil => exact h
  | cons a l ih => exact ih (ins_nd h)
theorem mem_addF {own : Option Str} {acc : List Str} {x y : Str} : y ∈ addF own acc x ↔ y ∈ acc ∨ (y = x ∧ own ≠ some x) := by
  unfold addF
  by_cases h : own = some x
  · rw [if_pos h]; simp [h]
  · rw [if_neg h, mem_ins]; simp [h]
theorem mem_foldl_addF {own : Option Str} {l acc : List Str} {y : Str} : y ∈ l.foldl (addF own) acc ↔ y ∈ acc ∨ (y ∈ l ∧ own ≠ some y) := by
  induction l generalizing acc with
  | nil => simp
  | cons a l ih =>
    simp only [List.foldl_cons, ih, mem_addF, List.mem_cons]
    constructor
    · rintro ((h | ⟨h, h2⟩) | ⟨h, h2⟩)
      · exact .inl h
      · subst h; exact .inr ⟨.inl rfl, h2⟩
      · exact .inr ⟨.inr h, h2⟩
    · rintro (h | ⟨h | h, h2⟩)
      · exact .inl (.inl h)
      · subst h; exact .inl (.inr ⟨rfl, h2⟩)
      · exact .inr ⟨h, h2⟩
theorem foldl_addF_nd {own : Option Str} {l acc : List Str} (h : acc.Nodup) : (l.foldl (addF own) acc).Nodup := by
  induction l generalizing acc with
  | nil => exact h
  | cons a l ih =>
    refine ih ?_
    unfold addF
    split
    · exact h
    · exact ins_nd h
theorem mem_foldl_from {own : Option Str} {W : Nat → List Str} {qs : List Nat} {acc : List Str} {y : Str} : y ∈ qs.foldl (fromF own W) acc ↔ y ∈ acc ∨ ∃ q ∈ qs, y ∈ W q ∧ own ≠ some y := by
  induction qs generalizing acc with
  | nil => simp
  | cons a l ih =>
    simp only [List.foldl_cons, ih, fromF, mem_foldl_addF, List.mem_cons]
    constructor
    · rintro ((h | ⟨h, h2⟩) | ⟨q, h, h2⟩)
      · exact .inl h
      · exact .inr ⟨a, .inl rfl, h, h2⟩
      · exact .inr ⟨q, .inr h, h2⟩
    · rintro (h | ⟨q, h | h, h2⟩)
      · exact .inl (.inl h)
      · subst h; exact .inl (.inr h2)
      · exact .inr ⟨q, h, h2⟩
theorem foldl_from_nd {own : Option Str} {W : Nat → List Str} {qs : List Nat} {acc : List Str} (h : acc.Nodup) : (qs.foldl (fromF own W) acc).Nodup := by
  induction qs generalizing acc with
  | nil => exact h
  | cons a l ih => exact ih (foldl_addF_nd h)
theorem mem_nowR {rows : List Rw} {W : Nat → List Str} {p : Nat} {r : Rw} {y : Str} : y ∈ nowR rows W p r ↔ y ∈ r.reads ∨ ∃ q ∈ nexts rows p, y ∈ W q ∧ r.own ≠ some y := by
  unfold nowR
  rw [mem_foldl_from, mem_foldl_ins]
  simp
theorem nowR_nd {rows : List Rw} {W : Nat → List Str} {p : Nat} {r : Rw} : (nowR rows W p r).Nodup := foldl_from_nd (foldl_ins_nd List.nodup_nil)
/-- the state of the search: what it has found so far -/
structure WI (rows : List Rw) (W : Nat → List Str) : Prop where
  nd : ∀ j, (W j).Nodup
  ok : ∀ j x, x ∈ W j → Reach rows j ∧ Wanted rows x j
  up : ∀ j r, rows[j]? = some r → ∀ x, x ∈ W j → x ∈ nowR rows W j r
theorem WI.nil (rows : List Rw) : WI rows fun _ => [] := ⟨fun _ => List.nodup_nil, fun j x h => by simp at h, fun j r _ x h => by simp at h⟩
theorem nowR_mono {rows : List Rw} {W W' : Nat → List Str} {p : Nat} {r : Rw} (h : ∀ j x, x ∈ W j → x ∈ W' j) {x : Str} (hx : x ∈ nowR rows W p r) : x ∈ nowR rows W' p r := by
  rw [mem_nowR] at *
  exact hx.imp id fun ⟨q, h1, h2, h3⟩ => ⟨q, h1, h q x h2, h3⟩
def putW (W : Nat → List Str) (p : Nat) (l : List Str) : Nat → List Str := fun j => if j = p then l else W j
theorem putW_up {rows : List Rw} {W : Nat → List Str} (h : WI rows W) {p : Nat} {r : Rw} (hr : rows[p]? = some r) (j : Nat) (x : Str) (hx : x ∈ W j) : x ∈ putW W p (nowR rows W p r) j := by
  unfold putW
  split
  · rename_i e; subst e; exact h.up _ r hr x hx
  · exact hx
theorem WI.put {rows : List Rw} {W : Nat → List Str} (h : WI rows W) {p : Nat} {r : Rw} (hp : Reach rows p) (hr : rows[p]? = some r) : WI rows (putW W p (nowR rows W p r)) := by
  have up := putW_up h hr
  refine ⟨fun j => ?_, fun j x hx => ?_, fun j r' hr' x hx => ?_⟩
  · unfold putW
    split
    · exact nowR_nd
    · exact h.nd j
  · unfold putW at hx
    split at hx
    · rename_i e
      subst e
      refine ⟨hp, ?_⟩
      rcases mem_nowR.mp hx with hx | ⟨q, h1, h2, h3⟩
      · exact .here hr hx
      · exact .next hr h3 h1 (h.ok q x h2).2
    · exact h.ok j x hx
  · refine nowR_mono up ?_
    unfold putW at hx
    split at hx
    · rename_i e
      subst e
      rw [hr] at hr'
      cases hr'
      exact hx
    · exact h.up j r' hr' x hx
/-- a closed state is all -/
theorem wanted_all {rows : List Rw} {W : Nat → List Str} (h : ∀ p, Reach rows p → ∀ r, rows[p]? = some r → ∀ x, x ∈ nowR rows W p r → x ∈ W p) {p : Nat} {x : Str} (hp : Reach rows p) (hw : Wanted rows x p) : x ∈ W p := by
  induction hw with
  | here hr hx => exact h _ hp _ hr _ (mem_nowR.mpr (.inl hx))
  | next hr ho hq _ ih => exact h _ hp _ hr _ (mem_nowR.mpr (.inr ⟨_, hq, ih (.step hp hq), ho⟩))
/-- two lists without doubles, one in the other and no shorter -/
theorem same_of {l m : List Str} (nd : l.Nodup) (nm : m.Nodup) (sub : ∀ x ∈ l, x ∈ m) (len : m.length ≤ l.length) : ∀ x ∈ m, x ∈ l := by
  intro x hx
  refine Classical.byContradiction fun hn => ?_
  have : (x :: l).length ≤ m.length := List.Nodup.length_le_of_subset (List.nodup_cons.mpr ⟨hn, nd⟩) fun y hy => by
    rcases List.mem_cons.mp hy with rfl | hy
    · exact hx
    · exact sub y hy
  simp only [List.length_cons] at this
  omega
def allReads (rows : List Rw) : List Str := (rows.flatMap Rw.reads).foldl ins []
theorem allReads_nd (rows : List Rw) : (allReads rows).Nodup := foldl_ins_nd List.nodup_nil
theorem mem_allReads {rows : List Rw} {x : Str} : x ∈ allReads rows ↔ ∃ r ∈ rows, x ∈ r.reads := by
  unfold allReads
  rw [mem_foldl_ins, List.mem_flatMap]
  simp
theorem wanted_reads {rows : List Rw} {p : Nat} {x : Str} (h : Wanted rows x p) : x ∈ allReads rows := by
  induction h with
  | here hr hx => exact mem_allReads.mpr ⟨_, List.mem_of_getElem? hr, hx⟩
  | next _ _ _ _ ih => exact ih
open Classical in
noncomputable def isWant (rows : List Rw) (p : Nat) (x : Str) : Bool := decide (Reach rows p ∧ Wanted rows x p)
open Classical in
theorem isWant_iff {rows : List Rw} {p : Nat} {x : Str} : isWant rows p x = true ↔ Reach rows p ∧ Wanted rows x p := by unfold isWant; exact decide_eq_true_iff
noncomputable def wantL (rows : List Rw) (p : Nat) : List Str := sortS ((allReads rows).filter (isWant rows p))
theorem sort_wanted {rows : List Rw} {p : Nat} {l : List Str} (nd : l.Nodup) (h : ∀ x, x ∈ l ↔ Reach rows p ∧ Wanted rows x p) : sortS l = wantL rows p := by
  unfold wantL sortS
  have hp : l.Perm ((allReads rows).filter (isWant rows p)) := by
    rw [List.perm_ext_iff_of_nodup nd ((allReads_nd rows).filter _)]
    intro x
    rw [h, List.mem_filter, isWant_iff]
    exact ⟨fun q => ⟨wanted_reads q.2, q⟩, fun q => q.2⟩
  have q1 := List.pairwise_mergeSort strLe_trans strLe_total l
  have q2 := List.pairwise_mergeSort strLe_trans strLe_total ((allReads rows).filter (isWant rows p))
  exact List.Perm.eq_of_pairwise (fun a b _ _ h1 h2 => strLe_anti h1 h2) q1 q2 ((List.mergeSort_perm _ _).trans (hp.trans (List.mergeSort_perm _ _).symm))
theorem mem_wantL {rows : List Rw} {p : Nat} {x : Str} : x ∈ wantL rows p ↔ Reach rows p ∧ Wanted rows x p := by
  unfold wantL sortS
  rw [List.mem_mergeSort, List.mem_filter, isWant_iff]
  exact ⟨fun q => q.2, fun q => ⟨wanted_reads q.2, q⟩⟩
theorem wantL_nd (rows : List Rw) (p : Nat) : (wantL rows p).Nodup := by
  unfold wantL sortS
  exact (List.mergeSort_perm _ _).nodup_iff.mpr ((allReads_nd rows).filter _)
theorem wantL_len (rows : List Rw) (p : Nat) : (wantL rows p).length ≤ (allReads rows).length := by
  unfold wantL sortS
  rw [List.length_mergeSort]
  exact List.length_filter_le _ _
end VL
/-! mirrors, part 22: names_wanted -/
namespace VL
open PySem PySem.Spec L2
def foundD (n : Nat) (fl : Nat → Bool) (W : Nat → List Str) : D := .lst true ((List.range (n + 1)).map fun j => namesD (fl j) (W j))
structure NwS where
  fl : Nat → Bool
  W : Nat → List Str
section
variable {G : Ctx} {o oo : Bool} {rows : List Rw}
def envN (o oo : Bool) (rows : List Rw) (ord : List Nat) (fl : Nat → Bool) (W : Nat → List Str) (s3 s4 s5 s6 s7 : Option D) : Env := [some (.lst o (rows.map rowD)), some (.lst oo (ord.map natD)), some (foundD rows.length fl W), s3, s4, s5, s6, s7, none]
theorem eq_own {x : Str} {own : Option Str} : eqD (.str x) (opt (own.map .str)) = .ok (decide (own = some x)) := by
  cases own with
  | none =>
    have h : eqv (.str x) .non = false := by
      rw [Bool.eq_false_iff, ne_eq, eqv_iff]
      intro z; cases z
    simp [opt, eqD, flat, h]
  | some y =>
    simp only [opt, Option.map_some, Option.getD_some, eqD_str, Option.some.injEq]
    congr 1
    by_cases e : x = y
    · subst e; simp
    · have : ¬ y = x := fun z => e z.symm
      simp [e, this]
theorem b4_nw (hO : SpWritten (G.at 14)) {ord : List Nat} {fl : Nat → Bool} {W : Nat → List Str} {p : Nat} {r : Rw} {s4 s7 : Option D} {acc : List Str} {x : Str} (hr : rows[p]? = some r) (hl : acc.length < 1000) :
    exB G b4_names_wanted (envN o oo rows ord fl W (some (natD p)) s4 (some (namesD true acc)) (some (.str x)) s7) = .ok (.nx (envN o oo rows ord fl W (some (natD p)) s4 (some (namesD true (addF r.own acc x))) (some (.str x)) s7)) := by
  have hs := sub_row (ρ := envN o oo rows ord fl W (some (natD p)) s4 (some (namesD true acc)) (some (.str x)) s7) (k := 0) rfl hr
  have a14 := apply_pure (F := G.at 14) (its := [.inl (rowD r)]) (ρ := envN o oo rows ord fl W (some (natD p)) s4 (some (namesD true acc)) (some (.str x)) s7) rfl (hO r)
  have hp := put_names (l := acc) (x := x) (Nat.lt_of_lt_of_le hl (by decide))
  have t : tstF (evE G (.cmp .ne (.lnm 6) (.call 14 [(.sub (.lnm 0) (.nm 3))]))) (envN o oo rows ord fl W (some (natD p)) s4 (some (namesD true acc)) (some (.str x)) s7) = .ok (!decide (r.own = some x), envN o oo rows ord fl W (some (natD p)) s4 (some (namesD true acc)) (some (.str x)) s7) := by
    have g0 : ∀ ρ : Env, ρ = envN o oo rows ord fl W (some (natD p)) s4 (some (namesD true acc)) (some (.str x)) s7 → getv ρ 0 = some (.lst o (rows.map rowD)) ∧ getv ρ 3 = some (natD p) ∧ getv ρ 6 = some (.str x) := fun ρ e => by subst e; exact ⟨rfl, rfl, rfl⟩
    generalize envN o oo rows ord fl W (some (natD p)) s4 (some (namesD true acc)) (some (.str x)) s7 = ρ at *
    obtain ⟨g0, g3, g6⟩ := g0 ρ rfl
    simp [tstF, evE, evalA, argR, argN, g0, g3, g6, hs, a14, eq_own]
  by_cases h : r.own = some x
  · have e : addF r.own acc x = acc := if_pos h
    rw [e]
    exact xb_one ((x_ifF (by rw [t, decide_eq_true h]; rfl)).trans xb_nil)
  · have e : addF r.own acc x = ins acc x := if_neg h
    rw [e]
    refine xb_one ((x_ifT (by rw [t, decide_eq_false h]; rfl)).trans (xb_one ?_))
    simp [exS, evE, pathE, mendE, mend, P.slot, envN, hp]
theorem range_get {α : Type} {f : Nat → α} {n q : Nat} (h : q ≤ n) : ((List.range (n + 1)).map f)[q]? = some (f q) := get_range (by omega)
def setB (fl : Nat → Bool) (q : Nat) : Nat → Bool := fun j => if j = q then false else fl j
theorem dk_nw {ord : List Nat} {fl : Nat → Bool} {W : Nat → List Str} {s3 s4 s5 s6 : Option D} {q : Nat} (hq : q ≤ rows.length) :
    evalIt G (.dk (.sub (.lnm 2) (.nm 7))) (envN o oo rows ord fl W s3 s4 s5 s6 (some (natD q))) = .ok (((W q).map .str, none), envN o oo rows ord (setB fl q) W s3 s4 s5 s6 (some (natD q))) := by
  have g7 : getv (envN o oo rows ord fl W s3 s4 s5 s6 (some (natD q))) 7 = some (natD q) := rfl
  have g2 : getv (envN o oo rows ord fl W s3 s4 s5 s6 (some (natD q))) 2 = some (.lst true ((List.range (rows.length + 1)).map fun j => namesD (fl j) (W j))) := rfl
  have hn : ((List.range (rows.length + 1)).map fun j => namesD (fl j) (W j)).length = rows.length + 1 := by simp
  have hk : (namesD (fl q) (W q)) = .dct (fl q) ((W q).map nk) ((W q).map fun _ => .bl true) := rfl
  have gq := range_get (f := fun j => namesD (fl j) (W j)) hq
  simp only [evalIt, dkF, g7, g2, Out.of_some, Out.bind_ok, num_int, hn, ixN_nat (show q < rows.length + 1 by omega), gq, hk, left_nm, Out.guard_true, kd_nm, frzL_tt]
  rw [set_range (by omega)]
  have e : (List.range (rows.length + 1)).map (fun j => if j = q then D.dct false ((W q).map nk) ((W q).map fun _ => .bl true) else namesD (fl j) (W j)) = (List.range (rows.length + 1)).map fun j => namesD (setB fl q j) (W j) := by
    apply List.map_congr_left
    intro j _
    unfold setB
    by_cases h : j = q
    · subst h; simp [namesD]
    · simp [h]
  rw [e]
  rfl
theorem foldl_addF_len {own : Option Str} : ∀ (l acc : List Str), (l.foldl (addF own) acc).length ≤ acc.length + l.length
  | [], acc => Nat.le_refl _
  | x :: l, acc => by
    have h := foldl_addF_len (own := own) l (addF own acc x)
    have h2 : (addF own acc x).length ≤ acc.length + 1 := by
      unfold addF
      split
      · omega
      · exact ins_len _ _
    simp only [List.foldl_cons, List.length_cons]; omega
theorem l4_nw (hO : SpWritten (G.at 14)) {ord : List Nat} {fl : Nat → Bool} {W : Nat → List Str} {p q : Nat} {r : Rw} {s4 s6 : Option D} {acc : List Str} (hr : rows[p]? = some r) (hq : q ≤ rows.length) (hl : acc.length + (W q).length < 1000) :
    ∃ s6', exS G l4_names_wanted (envN o oo rows ord fl W (some (natD p)) s4 (some (namesD true acc)) s6 (some (natD q))) = .ok (.nx (envN o oo rows ord (setB fl q) W (some (natD p)) s4 (some (namesD true (fromF r.own W acc q))) s6' (some (natD q)))) := by
  obtain ⟨x', h⟩ := for_pre D.str (fun (pre : List Str) x => envN o oo rows ord (setB fl q) W (some (natD p)) s4 (some (namesD true (pre.foldl (addF r.own) acc))) x (some (natD q))) (l := W q) (ch := none) (asg := asgT (.one 6)) (body := exB G b4_names_wanted) (fun _ _ => rfl) (fun pre a post x e => by
    have hpl : (pre.foldl (addF r.own) acc).length < 1000 := by
      have h1 := foldl_addF_len (own := r.own) pre acc
      have h2 := congrArg List.length e
      simp only [List.length_append, List.length_cons] at h2
      omega
    refine ⟨envN o oo rows ord (setB fl q) W (some (natD p)) s4 (some (namesD true (pre.foldl (addF r.own) acc))) (some (.str a)) (some (natD q)), by simp [asgT, setv, envN], some (.str a), ?_⟩
    rw [b4_nw hO hr hpl, List.foldl_append]
    rfl) s6
  refine ⟨x', ?_⟩
  rw [l4_names_wanted, x_for (dk_nw hq)]
  exact h
end
end VL
/-! mirrors, part 23: names_wanted, its loops -/
namespace VL
open PySem PySem.Spec L2
theorem foldl_ins_len : ∀ (l acc : List Str), (l.foldl ins acc).length ≤ acc.length + l.length
  | [], acc => Nat.le_refl _
  | x :: l, acc => by
    have h := foldl_ins_len l (ins acc x)
    have h2 := ins_len acc x
    simp only [List.foldl_cons, List.length_cons]; omega
theorem reads_len {r : Rw} : r.reads.length ≤ 2 := Nat.le_trans (List.length_filterMap_le _ _) ops_len
theorem foldl_from_len {own : Option Str} {W : Nat → List Str} (hW : ∀ j, (W j).length ≤ 63) : ∀ (l : List Nat) (acc : List Str), (l.foldl (fromF own W) acc).length ≤ acc.length + 63 * l.length
  | [], acc => by simp
  | q :: l, acc => by
    have h := foldl_from_len (own := own) hW l (fromF own W acc q)
    have h2 := foldl_addF_len (own := own) (W q) acc
    have h3 := hW q
    simp only [List.foldl_cons, List.length_cons]
    unfold fromF at h ⊢
    omega
section
variable {G : Ctx} {o oo : Bool} {rows : List Rw}
theorem l3_nw (hN : SpNext (G.at 23)) (hO : SpWritten (G.at 14)) (ok : OkRows rows) {ord : List Nat} {fl : Nat → Bool} {W : Nat → List Str} (hW : ∀ j, (W j).length ≤ 63) {p : Nat} {r : Rw} {s4 s6 s7 : Option D} {acc : List Str} (hr : rows[p]? = some r) (hl : acc.length ≤ 2) :
    ∃ fl' s6' s7', exS G l3_names_wanted (envN o oo rows ord fl W (some (natD p)) s4 (some (namesD true acc)) s6 s7) = .ok (.nx (envN o oo rows ord fl' W (some (natD p)) s4 (some (namesD true ((nexts rows p).foldl (fromF r.own W) acc))) s6' s7')) := by
  have hpl : p ≤ rows.length := Nat.le_of_lt (List.getElem?_eq_some_iff.mp hr).1
  have it := it_nextR (G := G) hN (k := 23) (i := 3) rfl (o := o) (rows := rows) (ρ := envN o oo rows ord fl W (some (natD p)) s4 (some (namesD true acc)) s6 s7) (p := p) rfl rfl (by decide) hpl
  have hn := nexts_len rows p
  obtain ⟨x', h⟩ := for_pre natD (fun (pre : List Nat) (x : (Nat → Bool) × Option D × Option D) => envN o oo rows ord x.1 W (some (natD p)) s4 (some (namesD true (pre.foldl (fromF r.own W) acc))) x.2.1 x.2.2) (l := nexts rows p) (ch := none) (asg := asgT (.one 7)) (body := exB G b3_names_wanted) (fun _ _ => rfl) (fun pre q post x e => by
    have hqm : q ∈ nexts rows p := by rw [e]; simp
    have hq := nexts_le ok hqm
    have hpre : pre.length ≤ 2 := by
      have h2 := congrArg List.length e
      simp only [List.length_append, List.length_cons] at h2
      omega
    have hal := foldl_from_len (own := r.own) hW pre acc
    have hwq := hW q
    obtain ⟨s6', h4⟩ := l4_nw (G := G) (o := o) (oo := oo) (ord := ord) (fl := x.1) (W := W) (s4 := s4) (s6 := x.2.1) (acc := pre.foldl (fromF r.own W) acc) hO hr hq (by omega)
    refine ⟨envN o oo rows ord x.1 W (some (natD p)) s4 (some (namesD true (pre.foldl (fromF r.own W) acc))) x.2.1 (some (natD q)), by simp [asgT, setv, envN], (setB x.1 q, s6', some (natD q)), ?_⟩
    rw [b3_names_wanted, List.foldl_append]
    exact xb_one h4) (fl, s6, s7)
  obtain ⟨fl', s6', s7'⟩ := x'
  refine ⟨fl', s6', s7', ?_⟩
  rw [l3_names_wanted, x_for it]
  exact h
theorem c2_nw (hR : SpRead (G.at 27)) {ord : List Nat} {fl : Nat → Bool} {W : Nat → List Str} {p : Nat} {r : Rw} {s4 s5 s6 s7 : Option D} (hr : rows[p]? = some r) :
    evE G c2_names_wanted (envN o oo rows ord fl W (some (natD p)) s4 s5 s6 s7) = .ok (.lst true (r.reads.map fun x => .tup [.str x, .bl true]), envN o oo rows ord fl W (some (natD p)) s4 s5 s6 s7) := by
  have hs := sub_row (ρ := envN o oo rows ord fl W (some (natD p)) s4 s5 s6 s7) (k := 0) rfl hr
  have a27 := apply_pure (F := G.at 27) (its := [.inl (rowD r)]) (ρ := envN o oo rows ord fl W (some (natD p)) s4 s5 s6 s7) rfl (hR r)
  have it : evalIt G (.seq (.call 27 [(.sub (.lnm 0) (.nm 3))])) (envN o oo rows ord fl W (some (natD p)) s4 s5 s6 s7) = .ok ((r.reads.map .str, none), envN o oo rows ord fl W (some (natD p)) s4 s5 s6 s7) := by
    have g0 : getv (envN o oo rows ord fl W (some (natD p)) s4 s5 s6 s7) 0 = some (.lst o (rows.map rowD)) := rfl
    have g3 : getv (envN o oo rows ord fl W (some (natD p)) s4 s5 s6 s7) 3 = some (natD p) := rfl
    generalize envN o oo rows ord fl W (some (natD p)) s4 s5 s6 s7 = ρ at *
    simp [evalIt, itSeq, evE, evalA, argR, argN, g0, g3, hs, a27, seqsD, frzL_strs]
  rw [c2_names_wanted, ev_lcn, it, Out.bind_ok]
  refine lcn_typed D.str _ (Nat.lt_of_le_of_lt reads_len (by decide)) (fun _ _ => rfl) fun x hx => ?_
  exact ⟨envN o oo rows ord fl W (some (natD p)) s4 s5 (some (.str x)) s7, by simp [asgT, setv, wipeE, envN], envN o oo rows ord fl W (some (natD p)) s4 s5 (some (.str x)) s7, by simp [evE, evalL, envN], by simp [wipeE, envN]⟩
theorem b2_nw (hN : SpNext (G.at 23)) (hO : SpWritten (G.at 14)) (hR : SpRead (G.at 27)) (ok : OkRows rows) {ord : List Nat} {fl : Nat → Bool} {W : Nat → List Str} (hW : ∀ j, (W j).length ≤ 63) {p : Nat} {r : Rw} {c : Bool} {s5 s6 s7 : Option D} (hr : rows[p]? = some r) :
    ∃ fl' s5' s6' s7', exB G b2_names_wanted (envN o oo rows ord fl W (some (natD p)) (some (.bl c)) s5 s6 s7) = .ok (.nx (envN o oo rows ord fl' (putW W p (nowR rows W p r)) (some (natD p)) (some (.bl (c || decide ((W p).length < (nowR rows W p r).length)))) s5' s6' s7')) := by
  have hp : p < rows.length := (List.getElem?_eq_some_iff.mp hr).1
  have hp' : (p : Int) < (rows.length : Int) := by omega
  obtain ⟨fl', s6', s7', h3⟩ := l3_nw (G := G) (o := o) (oo := oo) (rows := rows) (ord := ord) (fl := fl) (s4 := some (.bl c)) (s6 := s6) (s7 := s7) (acc := r.reads.foldl ins []) hN hO ok hW hr (by have := foldl_ins_len r.reads []; have := reads_len (r := r); simp only [List.length_nil] at *; omega)
  have e3 : (nexts rows p).foldl (fromF r.own W) (r.reads.foldl ins []) = nowR rows W p r := rfl
  rw [e3] at h3
  generalize hnw : nowR rows W p r = now at *
  refine ⟨setB fl' p, some (namesD false now), s6', s7', ?_⟩
  rw [b2_names_wanted]
  refine xb_one ((x_ifT (ρ' := envN o oo rows ord fl W (some (natD p)) (some (.bl c)) s5 s6 s7) (by simp [tstF, evE, argN, envN, hp, hp'])).trans ?_)
  have c2 := c2_nw (G := G) (o := o) (oo := oo) (rows := rows) (ord := ord) (fl := fl) (W := W) (s4 := some (.bl c)) (s5 := s5) (s6 := s6) (s7 := s7) hR hr
  refine (xb_nx (ρ' := envN o oo rows ord fl W (some (natD p)) (some (.bl c)) (some (namesD true (r.reads.foldl ins []))) s6 s7) ?_).trans ?_
  · have an : ∀ f ρ, argN c2_names_wanted f ρ = (f ρ).bind fun x => .ok (.inl x.1, x.2) := fun f ρ => argN_def rfl
    refine (x_set (d := namesD true (r.reads.foldl ins [])) (ρ' := envN o oo rows ord fl W (some (natD p)) (some (.bl c)) s5 s6 s7) ?_ (by simp [envN])).trans rfl
    simp only [evE, an, c2, Out.bind_ok, look_inl, Out.of_some, dict_names]
  refine (xb_nx h3).trans ?_
  have gq := range_get (f := fun j => namesD (fl' j) (W j)) (n := rows.length) (q := p) (by omega)
  refine (xb_nx (ρ' := envN o oo rows ord fl' W (some (natD p)) (some (.bl (c || decide ((W p).length < now.length)))) (some (namesD true now)) s6' s7') ?_).trans ?_
  · refine (x_set (d := .bl (c || decide ((W p).length < now.length))) (ρ' := envN o oo rows ord fl' W (some (natD p)) (some (.bl c)) (some (namesD true now)) s6' s7') ?_ (by simp [envN])).trans rfl
    have g2 : getv (envN o oo rows ord fl' W (some (natD p)) (some (.bl c)) (some (namesD true now)) s6' s7') 2 = some (.lst true ((List.range (rows.length + 1)).map fun j => namesD (fl' j) (W j))) := rfl
    have g3 : getv (envN o oo rows ord fl' W (some (natD p)) (some (.bl c)) (some (namesD true now)) s6' s7') 3 = some (natD p) := rfl
    have g4 : getv (envN o oo rows ord fl' W (some (natD p)) (some (.bl c)) (some (namesD true now)) s6' s7') 4 = some (.bl c) := rfl
    have g5 : getv (envN o oo rows ord fl' W (some (natD p)) (some (.bl c)) (some (namesD true now)) s6' s7') 5 = some (namesD true now) := rfl
    have hsb : subD (.lst true ((List.range (rows.length + 1)).map fun j => namesD (fl' j) (W j))) (natD p) = .ok (namesD (fl' p) (W p)) := by
      rw [sub_lst, ixN_nat (by simp; omega)]
      simp only [Out.of_some, Out.bind_ok, gq]
    generalize envN o oo rows ord fl' W (some (natD p)) (some (.bl c)) (some (namesD true now)) s6' s7' = ρ at *
    have cg : ((W p).length : Int) < (now.length : Int) ↔ (W p).length < now.length := by omega
    cases c with
    | true => simp [evE, g4]
    | false => simp [-VL.range_map, -VL.sub_lst, evE, argN, g2, g3, g4, g5, hsb, len_names]
  · refine xb_one ?_
    have pd : putD (natD p) (namesD false now) (foundD rows.length fl' W) = .ok (foundD rows.length (setB fl' p) (putW W p now)) := by
      unfold foundD putD
      simp only [num_int, Out.bind_ok, List.length_map, List.length_range, ixN_nat (show p < rows.length + 1 by omega), Out.of_some]
      rw [set_range (by omega)]
      congr 3
      funext j
      unfold setB putW
      by_cases h : j = p
      · subst h; simp
      · simp [h]
    have g5 : getv (envN o oo rows ord fl' W (some (natD p)) (some (.bl (c || decide ((W p).length < now.length)))) (some (namesD true now)) s6' s7') 5 = some (namesD true now) := rfl
    simp only [exS, evE, g5, Out.of_some, Out.bind_ok, fzd_namesT, Bool.false_eq_true, if_false, frz_names]
    have pd' := pd
    simp [pathE, P.slot, mendE, mend, envN, pd']
end
end VL
/-! mirrors, part 24: names_wanted, the whole -/
namespace VL
open PySem PySem.Spec L2
def sumR (f : Nat → Nat) : Nat → Nat
  | 0 => 0
  | m + 1 => sumR f m + f m
theorem sumR_put {f : Nat → Nat} {p v : Nat} : ∀ {m : Nat}, (p < m → sumR (fun j => if j = p then v else f j) m + f p = sumR f m + v) ∧ (m ≤ p → sumR (fun j => if j = p then v else f j) m = sumR f m)
  | 0 => ⟨fun h => absurd h (Nat.not_lt_zero _), fun _ => rfl⟩
  | m + 1 => by
    obtain ⟨h1, h2⟩ := sumR_put (f := f) (p := p) (v := v) (m := m)
    constructor
    · intro h
      simp only [sumR]
      by_cases e : m = p
      · subst e
        rw [h2 (Nat.le_refl _), if_pos rfl]; omega
      · rw [if_neg e]
        have := h1 (by omega)
        omega
    · intro h
      simp only [sumR]
      rw [h2 (by omega), if_neg (by omega)]
theorem sumR_le {f : Nat → Nat} {b : Nat} (h : ∀ j, f j ≤ b) : ∀ m, sumR f m ≤ m * b
  | 0 => by simp [sumR]
  | m + 1 => by
    have := sumR_le h m
    have := h m
    simp only [sumR, Nat.succ_mul]; omega
def sizeW (n : Nat) (W : Nat → List Str) : Nat := sumR (fun j => (W j).length) (n + 1)
theorem sizeW_put {n p : Nat} {W : Nat → List Str} {l : List Str} (hp : p ≤ n) : sizeW n (putW W p l) + (W p).length = sizeW n W + l.length := by
  have := (sumR_put (f := fun j => (W j).length) (p := p) (v := l.length) (m := n + 1)).1 (by omega)
  unfold sizeW
  rw [← this]
  congr 2
  funext j
  unfold putW
  split <;> rfl
theorem WI.len {rows : List Rw} {W : Nat → List Str} (h : WI rows W) (few : (allReads rows).length ≤ 63) (j : Nat) : (W j).length ≤ 63 :=
  Nat.le_trans (List.Nodup.length_le_of_subset (h.nd j) fun x hx => wanted_reads (h.ok j x hx).2) few
/-- what a pass has come to -/
structure Pass (rows : List Rw) (W : Nat → List Str) (pre : List Nat) (W' : Nat → List Str) (c : Bool) : Prop where
  wi : WI rows W'
  le : sizeW rows.length W ≤ sizeW rows.length W'
  gr : c = true → sizeW rows.length W < sizeW rows.length W'
  sm : c = false → ∀ j x, x ∈ W' j ↔ x ∈ W j
  cl : c = false → ∀ p ∈ pre, ∀ r, rows[p]? = some r → ∀ x, x ∈ nowR rows W p r → x ∈ W p
theorem Pass.step {rows : List Rw} {W W' : Nat → List Str} {pre : List Nat} {c : Bool} (h : Pass rows W pre W' c) {p : Nat} {r : Rw} (hp : Reach rows p) (hr : rows[p]? = some r) :
    Pass rows W (pre ++ [p]) (putW W' p (nowR rows W' p r)) (c || decide ((W' p).length < (nowR rows W' p r).length)) := by
  have hlt : p < rows.length := (List.getElem?_eq_some_iff.mp hr).1
  have hs := sizeW_put (n := rows.length) (p := p) (W := W') (l := nowR rows W' p r) (by omega)
  have hle : (W' p).length ≤ (nowR rows W' p r).length := List.Nodup.length_le_of_subset (h.wi.nd p) fun x hx => h.wi.up p r hr x hx
  have hsz := h.le
  refine ⟨h.wi.put hp hr, by omega, fun hc => ?_, fun hc => ?_, fun hc => ?_⟩
  · rw [Bool.or_eq_true, decide_eq_true_eq] at hc
    rcases hc with hc | hc
    · have := h.gr hc; omega
    · omega
  · rw [Bool.or_eq_false_iff, decide_eq_false_iff_not] at hc
    obtain ⟨hc, hl⟩ := hc
    have sm := h.sm hc
    have same := same_of (h.wi.nd p) (nowR_nd (rows := rows) (W := W') (p := p) (r := r)) (fun x hx => h.wi.up p r hr x hx) (by omega)
    intro j x
    unfold putW
    split
    · rename_i e
      subst e
      rw [← sm]
      exact ⟨same x, h.wi.up j r hr x⟩
    · exact sm j x
  · rw [Bool.or_eq_false_iff, decide_eq_false_iff_not] at hc
    obtain ⟨hc, hl⟩ := hc
    have sm := h.sm hc
    have same := same_of (h.wi.nd p) (nowR_nd (rows := rows) (W := W') (p := p) (r := r)) (fun x hx => h.wi.up p r hr x hx) (by omega)
    intro q hq r' hr' x hx
    rcases List.mem_append.mp hq with hq | hq
    · exact h.cl hc q hq r' hr' x hx
    · simp only [List.mem_singleton] at hq
      subst hq
      rw [hr] at hr'
      cases hr'
      rw [← sm]
      exact same x (nowR_mono (fun j y hy => (sm j y).mpr hy) hx)
section
variable {G : Ctx} {o oo : Bool} {rows : List Rw}
theorem b2_end {ord : List Nat} {fl : Nat → Bool} {W : Nat → List Str} {s4 s5 s6 s7 : Option D} : exB G b2_names_wanted (envN o oo rows ord fl W (some (natD rows.length)) s4 s5 s6 s7) = .ok (.nx (envN o oo rows ord fl W (some (natD rows.length)) s4 s5 s6 s7)) := by
  rw [b2_names_wanted]
  exact xb_one ((x_ifF (ρ' := envN o oo rows ord fl W (some (natD rows.length)) s4 s5 s6 s7) (by simp [tstF, evE, argN, envN])).trans xb_nil)
theorem l2_nw (hN : SpNext (G.at 23)) (hO : SpWritten (G.at 14)) (hR : SpRead (G.at 27)) (ok : OkRows rows) (few : (allReads rows).length ≤ 63) {fl : Nat → Bool} {W : Nat → List Str} (hw : WI rows W) {s3 s5 s6 s7 : Option D} :
    ∃ fl' W' c s3' s5' s6' s7', Pass rows W (reachL rows).reverse W' c ∧ exS G l2_names_wanted (envN o oo rows (reachL rows) fl W s3 (some (.bl false)) s5 s6 s7) = .ok (.nx (envN o false rows (reachL rows) fl' W' s3' (some (.bl c)) s5' s6' s7')) := by
  have it : evalIt G (.rev (.nm 1)) (envN o oo rows (reachL rows) fl W s3 (some (.bl false)) s5 s6 s7) = .ok (((reachL rows).reverse.map natD, none), envN o false rows (reachL rows) fl W s3 (some (.bl false)) s5 s6 s7) := by
    cases oo with
    | true => simp [evalIt, evE, envN, itRev, frzL_nats]
    | false => simp [evalIt, evE, envN, itRev, frzL_nats, fzdL_nats]
  let σ := (Nat → Bool) × (Nat → List Str) × Bool × Option D × Option D × Option D × Option D
  have run : ∀ (post pre : List Nat) (s : σ), (reachL rows).reverse = pre ++ post → Pass rows W pre s.2.1 s.2.2.1 → ∃ s' : σ, Pass rows W (reachL rows).reverse s'.2.1 s'.2.2.1 ∧
      forF none (asgT (.one 3)) (exB G b2_names_wanted) (post.map natD) (envN o false rows (reachL rows) s.1 s.2.1 s.2.2.2.1 (some (.bl s.2.2.1)) s.2.2.2.2.1 s.2.2.2.2.2.1 s.2.2.2.2.2.2) = .ok (.nx (envN o false rows (reachL rows) s'.1 s'.2.1 s'.2.2.2.1 (some (.bl s'.2.2.1)) s'.2.2.2.2.1 s'.2.2.2.2.2.1 s'.2.2.2.2.2.2)) := by
    intro post
    induction post with
    | nil =>
      intro pre s e ps
      rw [List.append_nil] at e
      rw [e]
      exact ⟨s, ps, by simp [forF, stay_none]⟩
    | cons p post ih =>
      intro pre s e ps
      obtain ⟨fl1, W1, c1, t3, t5, t6, t7⟩ := s
      have ps : Pass rows W pre W1 c1 := ps
      have hpm : p ∈ reachL rows := by
        have : p ∈ (reachL rows).reverse := by rw [e]; simp
        simpa using this
      have hp := (mem_reachL ok).mp hpm
      have hpl := reach_le ok hp
      have asg : asgT (.one 3) (natD p) (envN o false rows (reachL rows) fl1 W1 t3 (some (.bl c1)) t5 t6 t7) = .ok (envN o false rows (reachL rows) fl1 W1 (some (natD p)) (some (.bl c1)) t5 t6 t7) := by simp [asgT, setv, envN]
      have e' : (reachL rows).reverse = (pre ++ [p]) ++ post := by rw [e]; simp
      rcases Nat.lt_or_ge p rows.length with hlt | hge
      · obtain ⟨r, hr⟩ : ∃ r, rows[p]? = some r := ⟨rows[p], List.getElem?_eq_getElem hlt⟩
        obtain ⟨fl2, u5, u6, u7, hb⟩ := b2_nw (G := G) (o := o) (oo := false) (rows := rows) (ord := reachL rows) (fl := fl1) (c := c1) (s5 := t5) (s6 := t6) (s7 := t7) hN hO hR ok (fun j => ps.wi.len few j) hr
        obtain ⟨s', h1, h2⟩ := ih (pre ++ [p]) (fl2, putW W1 p (nowR rows W1 p r), c1 || decide ((W1 p).length < (nowR rows W1 p r).length), some (natD p), u5, u6, u7) e' (ps.step hp hr)
        refine ⟨s', h1, ?_⟩
        simp only [List.map_cons, forF, stay_none, Out.guard_true]
        have asg' := asg
        simp only [asg', Out.bind_ok, hb]
        exact h2
      · have hpe : p = rows.length := by omega
        obtain ⟨s', h1, h2⟩ := ih (pre ++ [p]) (fl1, W1, c1, some (natD p), t5, t6, t7) e' ⟨ps.wi, ps.le, ps.gr, ps.sm, fun hc q hq r hr x hx => by
          rcases List.mem_append.mp hq with hq | hq
          · exact ps.cl hc q hq r hr x hx
          · simp only [List.mem_singleton] at hq
            subst hq
            rw [List.getElem?_eq_none (by omega)] at hr
            cases hr⟩
        refine ⟨s', h1, ?_⟩
        have hb := b2_end (G := G) (o := o) (oo := false) (rows := rows) (ord := reachL rows) (fl := fl1) (W := W1) (s4 := some (.bl c1)) (s5 := t5) (s6 := t6) (s7 := t7)
        rw [← hpe] at hb
        simp only [List.map_cons, forF, stay_none, Out.guard_true]
        simp only [asg, Out.bind_ok, hb]
        exact h2
  obtain ⟨⟨fl', W', c, s3', s5', s6', s7'⟩, h1, h2⟩ := run (reachL rows).reverse [] (fl, W, false, s3, s5, s6, s7) rfl ⟨hw, Nat.le_refl _, (fun h => nomatch h), fun _ j x => Iff.rfl, (fun _ p hp => nomatch hp)⟩
  refine ⟨fl', W', c, s3', s5', s6', s7', h1, ?_⟩
  rw [l2_names_wanted, x_for it]
  exact h2
theorem pass_closed (ok : OkRows rows) {W W' : Nat → List Str} (h : Pass rows W (reachL rows).reverse W' false) : ∀ p, Reach rows p → ∀ r, rows[p]? = some r → ∀ x, x ∈ nowR rows W' p r → x ∈ W' p := by
  intro p hp r hr x hx
  have sm := h.sm rfl
  rw [sm]
  exact h.cl rfl p (by rw [List.mem_reverse]; exact (mem_reachL ok).mpr hp) r hr x (nowR_mono (fun j y hy => (sm j y).mp hy) hx)
theorem l1_nw (hN : SpNext (G.at 23)) (hO : SpWritten (G.at 14)) (hR : SpRead (G.at 27)) (ok : OkRows rows) (few : (allReads rows).length ≤ 63) (h62 : rows.length ≤ 62) :
    ∃ oo' fl' W' s3' s4' s5' s6' s7', WI rows W' ∧ (∀ p x, x ∈ W' p ↔ Reach rows p ∧ Wanted rows x p) ∧
      exS G l1_names_wanted (envN o true rows (reachL rows) (fun _ => true) (fun _ => []) none (some (.bl true)) none none none) = .ok (.nx (envN o oo' rows (reachL rows) fl' W' s3' s4' s5' s6' s7')) := by
  let σ := Bool × (Nat → Bool) × (Nat → List Str) × Bool × Option D × Option D × Option D × Option D
  have run := whl_run (σ := σ) (fun s => envN o s.1 rows (reachL rows) s.2.1 s.2.2.1 s.2.2.2.2.1 (some (.bl s.2.2.2.1)) s.2.2.2.2.2.1 s.2.2.2.2.2.2.1 s.2.2.2.2.2.2.2)
    (fun s f => ∃ oo' fl' W' s3' s4' s5' s6' s7', WI rows W' ∧ (∀ p x, x ∈ W' p ↔ Reach rows p ∧ Wanted rows x p) ∧ f = .nx (envN o oo' rows (reachL rows) fl' W' s3' s4' s5' s6' s7'))
    (fun s => if s.2.2.2.1 = true then 64 * 64 - sizeW rows.length s.2.2.1 + 1 else 0) (c := tstF (evE G t1_names_wanted)) (body := exB G b1_names_wanted)
    (fun s => WI rows s.2.2.1 ∧ (s.2.2.2.1 = false → ∀ p, Reach rows p → ∀ r, rows[p]? = some r → ∀ x, x ∈ nowR rows s.2.2.1 p r → x ∈ s.2.2.1 p)) (fun s hi => by
      obtain ⟨oo1, fl1, W1, c1, t3, t5, t6, t7⟩ := s
      obtain ⟨hw, hcl⟩ := hi
      have hw : WI rows W1 := hw
      have ht : tstF (evE G t1_names_wanted) (envN o oo1 rows (reachL rows) fl1 W1 t3 (some (.bl c1)) t5 t6 t7) = .ok (c1, envN o oo1 rows (reachL rows) fl1 W1 t3 (some (.bl c1)) t5 t6 t7) := by simp [tstF, t1_names_wanted, evE, envN]
      cases c1 with
      | false =>
        left
        exact ⟨_, ht, oo1, fl1, W1, t3, some (.bl false), t5, t6, t7, hw, fun p x => ⟨hw.ok p x, fun h => wanted_all (hcl rfl) h.1 h.2⟩, rfl⟩
      | true =>
        right
        refine ⟨_, ht, .inl ?_⟩
        obtain ⟨fl2, W2, c2, u3, u5, u6, u7, ps, hl⟩ := l2_nw (G := G) (o := o) (oo := oo1) hN hO hR ok few (fl := fl1) hw (s3 := t3) (s5 := t5) (s6 := t6) (s7 := t7)
        refine ⟨(false, fl2, W2, c2, u3, u5, u6, u7), ?_, ⟨ps.wi, fun hc => ?_⟩, ?_, fun f h => h⟩
        · rw [b1_names_wanted]
          refine (xb_nx (ρ' := envN o oo1 rows (reachL rows) fl1 W1 t3 (some (.bl false)) t5 t6 t7) (by simp [exS, evE, setv, envN])).trans (xb_one hl)
        · have hc : c2 = false := hc
          subst hc
          exact pass_closed ok ps
        · have hb : sizeW rows.length W2 ≤ 64 * 64 := by
            exact Nat.le_trans (sumR_le (f := fun j => (W2 j).length) (b := 63) (fun j => ps.wi.len few j) (rows.length + 1)) (Nat.le_trans (Nat.mul_le_mul_right _ (show rows.length + 1 ≤ 64 by omega)) (by decide))
          have gr := ps.gr
          generalize sizeW rows.length W2 = z2 at *
          generalize sizeW rows.length W1 = z1 at *
          show (if c2 = true then 64 * 64 - z2 + 1 else 0) < (if true = true then 64 * 64 - z1 + 1 else 0)
          rw [if_pos rfl]
          cases c2 with
          | false => rw [if_neg Bool.false_ne_true]; omega
          | true =>
            have := gr rfl
            rw [if_pos rfl]
            omega) fuel (true, (fun _ => true), (fun _ => []), true, none, none, none, none) ⟨WI.nil rows, fun h => nomatch h⟩ (by
      show (if true = true then 64 * 64 - sizeW rows.length (fun _ => []) + 1 else 0) < fuel
      rw [if_pos rfl]
      generalize sizeW rows.length (fun _ => []) = z
      unfold fuel; omega)
  obtain ⟨f, h1, oo', fl', W', s3', s4', s5', s6', s7', h2, h3, rfl⟩ := run
  refine ⟨oo', fl', W', s3', s4', s5', s6', s7', h2, h3, ?_⟩
  rw [l1_names_wanted, ex_whlS]
  exact h1
end
end VL
/-! mirrors, part 25: names_wanted -/
namespace VL
open PySem PySem.Spec L2
def strsL (l : List Str) : D := .lst true (l.map .str)
noncomputable def wantsD (rows : List Rw) : D := .lst true ((List.range (rows.length + 1)).map fun j => strsL (wantL rows j))
def SpWants (F : Sem') : Prop := ∀ (o : Bool) (rows : List Rw), OkRows rows → rows.length ≤ 62 → (allReads rows).length ≤ 63 → F [.lst o (rows.map rowD)] = .ok (wantsD rows, [some (.lst o (rows.map rowD))])
theorem frzL_range {g : Nat → D} {n : Nat} : frzL ((List.range n).map g) = (List.range n).map fun j => frz (g j) := by
  generalize List.range n = l
  induction l with
  | nil => rfl
  | cons a l ih => simp [ih]
theorem m_names_wanted (G : Ctx) (hO : SpWritten (G.at 14)) (hN : SpNext (G.at 23)) (hL : SpReached (G.at 24)) (hR : SpRead (G.at 27)) : SpWants (d_names_wanted.run G) := fun o rows ok h62 few => by
  have hA : (List.range 1).map (fun i => if i ∈ asgs d_names_wanted.body then (none : Option D) else some (.lst o (rows.map rowD))) = [some (.lst o (rows.map rowD))] := rfl
  have a1 := apply_pure (its := [.inr 0]) (ρ := [some (.lst o (rows.map rowD)), none, none, none, none, none, none, none, none]) rfl (hL o rows ok h62)
  have e2 : evE G c1_names_wanted [some (.lst o (rows.map rowD)), some (.lst true ((reachL rows).map natD)), none, none, none, none, none, none, none] = .ok (foundD rows.length (fun _ => true) (fun _ => []), [some (.lst o (rows.map rowD)), some (.lst true ((reachL rows).map natD)), none, none, none, none, none, none, none]) := by
    rw [c1_names_wanted, ev_lcn, ev_rng (n := rows.length + 1) (ρ' := [some (.lst o (rows.map rowD)), some (.lst true ((reachL rows).map natD)), none, none, none, none, none, none, none]) (by simp [evE, argN]) (by omega), Out.bind_ok]
    refine lcn_typed (fun (i : Nat) => D.int i) (fun _ => namesD true []) (by rw [List.length_range]; exact Nat.lt_of_le_of_lt (show _ ≤ 63 by omega) (by decide)) (fun _ _ => rfl) fun k hk => ?_
    exact ⟨[some (.lst o (rows.map rowD)), some (.lst true ((reachL rows).map natD)), none, some (.int (k : Int)), none, none, none, none, none], by simp [asgT, setv, wipeE], [some (.lst o (rows.map rowD)), some (.lst true ((reachL rows).map natD)), none, some (.int (k : Int)), none, none, none, none, none], by simp [evE, evalL, dctD, pairUp, pairsD, dputs, namesD], by simp [wipeE]⟩
  obtain ⟨oo', fl', W', s3', s4', s5', s6', s7', hw, hW, loop⟩ := l1_nw (G := G) (o := o) hN hO hR ok few h62
  have hsort : ∀ j, sortS (W' j) = wantL rows j := fun j => sort_wanted (hw.nd j) (hW j)
  have it : evalIt G (.seq (.bnm 2)) (envN o oo' rows (reachL rows) fl' W' s3' s4' s5' s6' s7') = .ok (((List.range (rows.length + 1)).map (fun j => namesD false (W' j)), some (2, foundD rows.length (fun _ => false) W')), envN o oo' rows (reachL rows) (fun _ => false) W' s3' s4' s5' s6' s7') := by
    have e : frzL ((List.range (rows.length + 1)).map fun j => namesD (fl' j) (W' j)) = (List.range (rows.length + 1)).map fun j => namesD false (W' j) := by
      rw [frzL_range]
      exact List.map_congr_left fun j _ => frz_names
    have g2 : getv (envN o oo' rows (reachL rows) fl' W' s3' s4' s5' s6' s7') 2 = some (.lst true ((List.range (rows.length + 1)).map fun j => namesD (fl' j) (W' j))) := rfl
    simp only [evalIt, itSeq, slotW, g2, Out.of_some, Out.bind_ok, e]
    rfl
  have c3 : evE G c3_names_wanted (envN o oo' rows (reachL rows) fl' W' s3' s4' s5' s6' s7') = .ok (wantsD rows, envN o oo' rows (reachL rows) (fun _ => false) W' s3' s4' s5' s6' s7') := by
    rw [c3_names_wanted, ev_lcn, it, Out.bind_ok]
    refine lcn_typed (fun j => namesD false (W' j)) (fun j => strsL (wantL rows j)) (by rw [List.length_range]; exact Nat.lt_of_le_of_lt (show _ ≤ 63 by omega) (by decide)) (fun ρ h => ?_) fun j hj => ?_
    · rw [stayE_iff]
      have := congrArg (fun ρ => getv ρ 2) h
      simp only [getv_wipeE] at this
      have e2 : getv ρ 2 = getv (envN o oo' rows (reachL rows) (fun _ => false) W' s3' s4' s5' s6' s7') 2 := by simpa using this
      rw [e2]; rfl
    · have cs : c1D .sorted (namesD false (W' j)) = .ok (strsL (wantL rows j)) := by
        have hl := hw.len few j
        rw [namesD, c1_sortD, left_nm, kd_nm, sortD_strs, hsort]
        simp [show (W' j).length < 64 by omega, strsL]
      have w8 : wipeE (envN o oo' rows (reachL rows) (fun _ => false) W' s3' s4' s5' s6' s7') [8] = envN o oo' rows (reachL rows) (fun _ => false) W' s3' s4' s5' s6' s7' := by simp [wipeE, envN]
      rw [w8]
      refine ⟨(envN o oo' rows (reachL rows) (fun _ => false) W' s3' s4' s5' s6' s7').set 8 (some (namesD false (W' j))), by simp [asgT, setv, envN], (envN o oo' rows (reachL rows) (fun _ => false) W' s3' s4' s5' s6' s7').set 8 (some (namesD false (W' j))), ?_, by simp [wipeE, envN]⟩
      have g8 : getv ((envN o oo' rows (reachL rows) (fun _ => false) W' s3' s4' s5' s6' s7').set 8 (some (namesD false (W' j)))) 8 = some (namesD false (W' j)) := rfl
      simp only [evE, argN_lnm, g8, Out.of_some, Out.bind_ok, look_inr, cs]
  have main : exB G d_names_wanted.body [some (.lst o (rows.map rowD)), none, none, none, none, none, none, none, none] = .ok (.rt (wantsD rows) (envN o oo' rows (reachL rows) (fun _ => false) W' s3' s4' s5' s6' s7')) := by
    unfold d_names_wanted
    refine (xb_nx (ρ' := [some (.lst o (rows.map rowD)), some (.lst true ((reachL rows).map natD)), none, none, none, none, none, none, none]) (by simp [exS, ev_call, evalA, argR, a1, setv])).trans ?_
    refine (xb_nx (ρ' := [some (.lst o (rows.map rowD)), some (.lst true ((reachL rows).map natD)), some (foundD rows.length (fun _ => true) (fun _ => [])), none, none, none, none, none, none]) (x_set e2 (by simp))).trans ?_
    refine (xb_nx (ρ' := envN o true rows (reachL rows) (fun _ => true) (fun _ => []) none (some (.bl true)) none none none) (by simp [exS, evE, setv]; rfl)).trans ?_
    exact (xb_nx loop).trans (xb_rt (x_ret c3))
  rw [run_rt rfl main]
  rfl
end VL
/-! mirrors, part 26: the law's is_wanted -/
namespace VL
open PySem PySem.Spec L2
inductive WR (rows : List Rw) (x : Str) (p : Nat) : Nat → Prop
  | refl : WR rows x p p
  | step {q s : Nat} {r : Rw} : WR rows x p q → rows[q]? = some r → r.own ≠ some x → s ∈ nexts rows q → WR rows x p s
theorem WR.want {rows : List Rw} {x : Str} {p q : Nat} (h : WR rows x p q) (w : Wanted rows x q) : Wanted rows x p := by
  induction h with
  | refl => exact w
  | step _ hr ho hs ih => exact ih (.next hr ho hs w)
theorem WR.le {rows : List Rw} (ok : OkRows rows) {x : Str} {p q : Nat} (hp : p ≤ rows.length) (h : WR rows x p q) : q ≤ rows.length := by
  cases h with
  | refl => exact hp
  | step _ _ _ hs => exact nexts_le ok hs
theorem wanted_wr {rows : List Rw} {x : Str} {p : Nat} (w : Wanted rows x p) : ∀ {l : List Nat}, p ∈ l → (∀ q ∈ l, ∀ r, rows[q]? = some r → x ∉ r.reads ∧ (r.own ≠ some x → ∀ s ∈ nexts rows q, s ∈ l)) → False := by
  induction w with
  | here hr hx => intro l hp h; exact (h _ hp _ hr).1 hx
  | next hr ho hq _ ih => intro l hp h; exact ih ((h _ hp _ hr).2 ho _ hq) h
open Classical in
noncomputable def wantB (rows : List Rw) (x : Str) (p : Nat) : Bool := decide (Wanted rows x p)
open Classical in
theorem wantB_iff {rows : List Rw} {x : Str} {p : Nat} : wantB rows x p = true ↔ Wanted rows x p := by unfold wantB; exact decide_eq_true_iff
def SpIsWanted (F : Sem') : Prop := ∀ (o : Bool) (rows : List Rw) (p : Nat) (x : Str), OkRows rows → rows.length ≤ 62 → p ≤ rows.length → F [.lst o (rows.map rowD), natD p, .str x] = .ok (.bl (wantB rows x p), [some (.lst o (rows.map rowD)), some (natD p), some (.str x)])
theorem in_ops {x : Str} {r : Rw} {o : Bool} : inD (.str x) (.lst o (r.ops.map opD)) = .ok (decide (x ∈ r.reads)) := by
  have h1 : (r.ops.map opD).all flat = true := by
    rw [List.all_map, List.all_eq_true]
    intro a _
    cases a <;> rfl
  have h2 : ((r.ops.map opD).any fun d => eqv d (.str x)) = decide (x ∈ r.reads) := by
    unfold Rw.reads
    generalize r.ops = l
    induction l with
    | nil => simp
    | cons a l ih =>
      simp only [List.map_cons, List.any_cons, ih]
      cases a with
      | inl i =>
        have : eqv (opD (.inl i)) (.str x) = false := by
          rw [Bool.eq_false_iff, ne_eq, eqv_iff]
          intro z; simp at z
        rw [this]
        rfl
      | inr y =>
        have e : eqv (opD (.inr y)) (.str x) = decide (y = x) := by
          by_cases q : y = x
          · subst q; rw [decide_eq_true rfl, eqv_iff]; rfl
          · rw [decide_eq_false q, Bool.eq_false_iff, ne_eq, eqv_iff]
            intro z; simp at z; exact q z
        rw [e]
        by_cases q : y = x
        · subst q; simp [keyS]
        · have q' : ¬ x = y := fun z => q z.symm
          simp [keyS, q, q']
  simp only [inD, h1, h2, flat, Bool.and_self, Bool.true_or, Out.guard_true]
section
variable {G : Ctx} {o : Bool} {rows : List Rw}
def envI (o : Bool) (rows : List Rw) (p : Nat) (x : Str) (s : List Nat × Nat) (y : Option D × Option D) : Env := [some (.lst o (rows.map rowD)), some (natD p), some (.str x), some (.lst true (s.1.map natD)), some (natD s.2), y.1, y.2]
structure WrI (rows : List Rw) (x : Str) (p : Nat) (s : List Nat × Nat) : Prop where
  nd : s.1.Nodup
  ok : ∀ q ∈ s.1, WR rows x p q
  here : p ∈ s.1
  at_ : s.2 ≤ s.1.length
  cl : ∀ i q, i < s.2 → s.1[i]? = some q → ∀ r, rows[q]? = some r → x ∉ r.reads ∧ (r.own ≠ some x → ∀ t ∈ nexts rows q, t ∈ s.1)
theorem WrI.skip {x : Str} {p a q : Nat} {l : List Nat} (h : WrI rows x p (l, a)) (hq : l[a]? = some q) (hn : ∀ r, rows[q]? = some r → x ∉ r.reads ∧ r.own = some x) : WrI rows x p (l, a + 1) := by
  have hal : a < l.length := (List.getElem?_eq_some_iff.mp hq).1
  refine ⟨h.nd, h.ok, h.here, hal, fun i t hi ht r hr => ?_⟩
  rcases Nat.lt_or_ge i a with h1 | h1
  · exact h.cl i t h1 ht r hr
  · have : i = a := by have : i < a + 1 := hi; omega
    subst this
    have ht : l[i]? = some t := ht
    rw [hq] at ht
    cases ht
    exact ⟨(hn r hr).1, fun z => absurd (hn r hr).2 z⟩
theorem WrI.step {x : Str} {p a q : Nat} {l : List Nat} {r : Rw} (h : WrI rows x p (l, a)) (hq : l[a]? = some q) (hr : rows[q]? = some r) (hn : x ∉ r.reads) (ho : r.own ≠ some x) : WrI rows x p (l ++ (nexts rows q).filter (fun t => decide (t ∉ l)), a + 1) := by
  have hal : a < l.length := (List.getElem?_eq_some_iff.mp hq).1
  have hqm : q ∈ l := List.mem_of_getElem? hq
  have hf : ∀ t, t ∈ (nexts rows q).filter (fun t => decide (t ∉ l)) ↔ t ∈ nexts rows q ∧ t ∉ l := fun t => by rw [List.mem_filter, decide_eq_true_iff]
  refine ⟨List.nodup_append.mpr ⟨h.nd, (nexts_nd rows q).filter _, fun y hy z hz e => ?_⟩, fun t ht => ?_, List.mem_append_left _ h.here, ?_, fun i t hi ht r' hr' => ?_⟩
  · subst e; exact ((hf y).mp hz).2 hy
  · rcases List.mem_append.mp ht with ht | ht
    · exact h.ok t ht
    · exact .step (h.ok q hqm) hr ho ((hf t).mp ht).1
  · simp only [List.length_append]; omega
  · replace hi : i < a + 1 := hi
    replace ht : (l ++ (nexts rows q).filter (fun t => decide (t ∉ l)))[i]? = some t := ht
    rw [List.getElem?_append_left (by omega)] at ht
    rcases Nat.lt_or_ge i a with h1 | h1
    · have := h.cl i t h1 ht r' hr'
      exact ⟨this.1, fun z u hu => List.mem_append_left _ (this.2 z u hu)⟩
    · have : i = a := by omega
      subst this
      rw [hq] at ht
      cases ht
      rw [hr] at hr'
      cases hr'
      refine ⟨hn, fun _ u hu => ?_⟩
      by_cases h2 : u ∈ l
      · exact List.mem_append_left _ h2
      · exact List.mem_append_right _ ((hf u).mpr ⟨hu, h2⟩)
theorem c_isw (hN : SpNext (G.at 21)) {p q a : Nat} {x : Str} {l : List Nat} {y : Option D} (hq : q ≤ rows.length) (hl : l.length < 1000) :
    evE G c1__law_is_wanted (envI o rows p x (l, a) (some (natD q), y)) = .ok (.lst true (((nexts rows q).filter fun t => decide (t ∉ l)).map natD), envI o rows p x (l, a) (some (natD q), y)) := by
  have it := it_nextR (G := G) hN (k := 21) (i := 5) rfl (o := o) (rows := rows) (ρ := envI o rows p x (l, a) (some (natD q), y)) (p := q) rfl rfl (by decide) hq
  rw [c1__law_is_wanted, ev_lc, it, Out.bind_ok]
  refine lc_typed natD _ natD (Nat.lt_of_le_of_lt (nexts_len rows q) (by decide)) (fun _ _ => rfl) fun t ht => ?_
  have hi := in_nats (q := t) (o := true) (l := l)
  refine ⟨envI o rows p x (l, a) (some (natD q), some (natD t)), envI o rows p x (l, a) (some (natD q), some (natD t)), by simp [asgT, setv, wipeE, envI], ?_, ?_⟩
  · simp [tstF, evE, argN, envI, hi]
  · split
    · exact ⟨envI o rows p x (l, a) (some (natD q), some (natD t)), by simp [evE, envI], by simp [wipeE, envI]⟩
    · simp [wipeE, envI]
theorem m_is_wanted (G : Ctx) (hA : SpAsked (G.at 19)) (hN : SpNext (G.at 21)) (hO : SpWritten (G.at 29)) : SpIsWanted (d__law_is_wanted.run G) := fun o rows p x ok h62 hp => by
  have run := whl_run (σ := (List Nat × Nat) × Option D × Option D) (fun s => envI o rows p x s.1 s.2) (fun s f => (Wanted rows x p ∧ ∃ s y, f = .rt (.bl true) (envI o rows p x s y)) ∨ (¬ Wanted rows x p ∧ ∃ s y, f = .nx (envI o rows p x s y)))
    (fun s => 2 * (rows.length + 1 - s.1.1.length) + (s.1.1.length - s.1.2)) (c := tstF (evE G t1__law_is_wanted)) (body := exB G b1__law_is_wanted) (fun s => WrI rows x p s.1) (fun s hi => by
      obtain ⟨⟨l, a⟩, y5, y6⟩ := s
      have hi : WrI rows x p (l, a) := hi
      have hll := nd_len hi.nd fun q hq => (hi.ok q hq).le ok hp
      have hat := hi.at_
      simp only at hll hat
      rcases Nat.lt_or_ge a l.length with hlt | hge
      · right
        refine ⟨envI o rows p x (l, a) (y5, y6), by simp [tstF, t1__law_is_wanted, evE, argN, envI, hlt], ?_⟩
        obtain ⟨q, hq⟩ : ∃ q, l[a]? = some q := ⟨l[a], List.getElem?_eq_getElem hlt⟩
        have hqm := List.mem_of_getElem? hq
        have hqn := (hi.ok q hqm).le ok hp
        have hs := sub_at (ρ := envI o rows p x (l, a) (y5, y6)) (k := 3) (p := a) (o := true) (l := l.map natD) (d := natD q) rfl (by rw [List.getElem?_map, hq]; rfl) (by simp)
        have two : ∀ {r : List S} {z : Out Fl}, exB G r (envI o rows p x (l, a + 1) (some (natD q), y6)) = z → exB G (.set 5 (.sub (.lnm 3) (.nm 4)) :: .set 4 (.bin .add (.lnm 4) (.ci 1)) :: r) (envI o rows p x (l, a) (y5, y6)) = z := fun h => by
          refine (xb_nx (ρ' := envI o rows p x (l, a) (some (natD q), y6)) ?_).trans ((xb_nx (ρ' := envI o rows p x (l, a + 1) (some (natD q), y6)) (by simp [exS, evE, argN, setv, envI])).trans h)
          have hs' := hs
          simp only [envI] at hs'
          simp [exS, evE, argN, setv, envI, hs']
        rcases Nat.lt_or_ge q rows.length with hqlt | hqge
        · obtain ⟨r, hr⟩ : ∃ r, rows[q]? = some r := ⟨rows[q], List.getElem?_eq_getElem hqlt⟩
          have hrs := sub_row (ρ := envI o rows p x (l, a + 1) (some (natD q), y6)) (k := 0) rfl hr
          have a19 := apply_pure (F := G.at 19) (its := [.inl (rowD r)]) (ρ := envI o rows p x (l, a + 1) (some (natD q), y6)) rfl (hA r)
          have a29 := apply_pure (F := G.at 29) (its := [.inl (rowD r)]) (ρ := envI o rows p x (l, a + 1) (some (natD q), y6)) rfl (hO r)
          have io := in_ops (x := x) (r := r) (o := true)
          have t1 : tstF (evE G (.cmp .lt (.lnm 5) (.b1 .len (.bnm 0)))) (envI o rows p x (l, a + 1) (some (natD q), y6)) = .ok (true, envI o rows p x (l, a + 1) (some (natD q), y6)) := by
            have : (q : Int) < (rows.length : Int) := by omega
            simp [tstF, evE, argN, envI, hqlt]
          have g0 : getv (envI o rows p x (l, a + 1) (some (natD q), y6)) 0 = some (.lst o (rows.map rowD)) := rfl
          have g2 : getv (envI o rows p x (l, a + 1) (some (natD q), y6)) 2 = some (.str x) := rfl
          have g5 : getv (envI o rows p x (l, a + 1) (some (natD q), y6)) 5 = some (natD q) := rfl
          have t2 : tstF (evE G (.inn false (.lnm 2) (.call 19 [(.sub (.lnm 0) (.nm 5))]))) (envI o rows p x (l, a + 1) (some (natD q), y6)) = .ok (decide (x ∈ r.reads), envI o rows p x (l, a + 1) (some (natD q), y6)) := by
            generalize envI o rows p x (l, a + 1) (some (natD q), y6) = ρ at *
            simp [tstF, evE, evalA, argR, argN, g0, g2, g5, hrs, a19, io]
          have t3 : tstF (evE G (.cmp .ne (.call 29 [(.sub (.lnm 0) (.nm 5))]) (.bnm 2))) (envI o rows p x (l, a + 1) (some (natD q), y6)) = .ok (!decide (r.own = some x), envI o rows p x (l, a + 1) (some (natD q), y6)) := by
            have eo : eqD (opt (r.own.map .str)) (.str x) = .ok (decide (r.own = some x)) := by
              cases h : r.own with
              | none =>
                have hv : eqv .non (.str x) = false := by
                  rw [Bool.eq_false_iff, ne_eq, eqv_iff]
                  intro z; cases z
                simp [opt, eqD, flat, hv]
              | some z => simp only [opt, Option.map_some, Option.getD_some, eqD_str, Option.some.injEq]
            generalize envI o rows p x (l, a + 1) (some (natD q), y6) = ρ at *
            simp [tstF, evE, evalA, argR, argN, g0, g2, g5, hrs, a29, eo]
          by_cases hx : x ∈ r.reads
          · right
            refine ⟨.bl true, envI o rows p x (l, a + 1) (some (natD q), y6), ?_, .inl ⟨(hi.ok q hqm).want (.here hr hx), _, _, rfl⟩⟩
            rw [b1__law_is_wanted]
            refine two (xb_rt ((x_ifT t1).trans (xb_rt ((x_ifT (by rw [t2, decide_eq_true hx])).trans (xb_rt (x_ret (by simp [evE])))))))
          · left
            by_cases ho : r.own = some x
            · refine ⟨((l, a + 1), (some (natD q), y6)), ?_, hi.skip hq (fun r' hr' => by rw [hr] at hr'; cases hr'; exact ⟨hx, ho⟩), by simp only; omega, fun f h => h⟩
              rw [b1__law_is_wanted]
              exact two (xb_one ((x_ifT t1).trans ((xb_nx ((x_ifF (by rw [t2, decide_eq_false hx])).trans xb_nil)).trans (xb_one ((x_ifF (by rw [t3, decide_eq_true ho]; rfl)).trans xb_nil)))))
            · have hi' := hi.step hq hr hx ho
              have hll' := nd_len hi'.nd fun t ht => (hi'.ok t ht).le ok hp
              have hc := c_isw (G := G) (o := o) (rows := rows) (p := p) (a := a + 1) (x := x) (y := y6) hN hqn (l := l) (by omega)
              generalize (nexts rows q).filter (fun t => decide (t ∉ l)) = new at *
              simp only [List.length_append] at hll'
              refine ⟨((l ++ new, a + 1), (some (natD q), y6)), ?_, hi', by simp only [List.length_append]; omega, fun f h => h⟩
              rw [b1__law_is_wanted]
              refine two (xb_one ((x_ifT t1).trans ((xb_nx ((x_ifF (by rw [t2, decide_eq_false hx])).trans xb_nil)).trans (xb_one ((x_ifT (by rw [t3, decide_eq_false ho]; rfl)).trans (xb_one ?_))))))
              have an : ∀ f ρ, argN c1__law_is_wanted f ρ = (f ρ).bind fun x => .ok (.inl x.1, x.2) := fun f ρ => argN_def rfl
              have hw : l.length + new.length ≤ lim := Nat.le_trans (show _ ≤ 1000 by omega) (by decide)
              simp only [envI] at hc
              simp [exS, ev_bin, argN_lnm, an, envI, hc, setv, fzdL_nats, hw]
        · left
          have hqe : q = rows.length := by omega
          refine ⟨((l, a + 1), (some (natD q), y6)), ?_, hi.skip hq (fun r hr => by rw [List.getElem?_eq_none (by omega)] at hr; cases hr), by simp only; omega, fun f h => h⟩
          rw [b1__law_is_wanted]
          refine two (xb_one ((x_ifF (ρ' := envI o rows p x (l, a + 1) (some (natD q), y6)) ?_).trans xb_nil))
          subst hqe
          simp [tstF, evE, argN, envI]
      · left
        refine ⟨envI o rows p x (l, a) (y5, y6), by simp [tstF, t1__law_is_wanted, evE, argN, envI]; omega, .inr ⟨fun w => wanted_wr w hi.here fun q hq r hr => ?_, _, _, rfl⟩⟩
        obtain ⟨i, hil, hib⟩ := List.mem_iff_getElem.mp hq
        have hil' : i < l.length := hil
        exact hi.cl i q (show i < a by omega) (by rw [List.getElem?_eq_getElem hil, hib]) r hr) fuel (([p], 0), none, none) ⟨by simp, fun q hq => by simp at hq; subst hq; exact .refl, by simp, by simp, fun i q hi => absurd hi (Nat.not_lt_zero _)⟩ (by show 2 * (rows.length + 1 - 1) + (1 - 0) < fuel; unfold fuel; omega)
  obtain ⟨f, h1, h2⟩ := run
  have start : ∀ {z : Out Fl}, exB G [l1__law_is_wanted, .ret (.cb false)] (envI o rows p x ([p], 0) (none, none)) = z → exB G d__law_is_wanted.body [some (.lst o (rows.map rowD)), some (natD p), some (.str x), none, none, none, none] = z := fun h => by
    unfold d__law_is_wanted
    refine (xb_nx (ρ' := [some (.lst o (rows.map rowD)), some (natD p), some (.str x), some (.lst true [natD p]), none, none, none]) (by simp [exS, evE, evalL, setv])).trans ?_
    refine (xb_nx (ρ' := envI o rows p x ([p], 0) (none, none)) (by simp [exS, evE, setv, envI])).trans h
  have hl : exS G l1__law_is_wanted (envI o rows p x ([p], 0) (none, none)) = .ok f := by
    rw [l1__law_is_wanted, ex_whlS]
    exact h1
  rcases h2 with ⟨hw, s, y, rfl⟩ | ⟨hw, s, y, rfl⟩
  · have e : wantB rows x p = true := wantB_iff.mpr hw
    rw [e, run_rt rfl (start (xb_rt hl))]
    rfl
  · have e : wantB rows x p = false := by rw [Bool.eq_false_iff, ne_eq, wantB_iff]; exact hw
    rw [e, run_rt rfl (start ((xb_nx hl).trans (xb_rt (x_ret (d := .bl false) (ρ' := envI o rows p x s y) (by simp [evE])))))]
    rfl
end
end VL
/-! mirrors, part 27: the names of the rows -/
namespace VL
open PySem PySem.Spec L2
theorem getD_in {names : List Str} {j : Nat} (h : j < names.length) : names.getD j "" ∈ names := by
  rw [List.getD_eq_getElem?_getD, List.getElem?_eq_getElem h]
  exact List.getElem_mem h
theorem nmAt_in {c : Int} {more j : Nat} (hj : j < 3) : nmAt (namesBy c) more j ∈ namesBy c := by
  unfold nmAt
  have hl := names_len c
  have : j < ((namesBy c).drop (more / 3 % (namesBy c).length) ++ (namesBy c).take (more / 3 % (namesBy c).length)).length := by simp; omega
  have h2 := getD_in this
  rcases List.mem_append.mp h2 with h | h
  · exact List.mem_of_mem_drop h
  · exact List.mem_of_mem_take h
theorem oper_in {n : Nat} {c : Int} {x : Str} (h : keyS (operandBy n (namesBy c)) = some x) : x ∈ namesBy c := by
  unfold operandBy at h
  have := (names_len c).1
  split at h
  · cases h
    exact getD_in (Nat.mod_lt _ (by omega))
  · split at h <;> cases h
theorem rowBy_reads {n : Nat} {c : Int} {size : Nat} {x : Str} (h : x ∈ (rowBy n (namesBy c) size).reads) : x ∈ namesBy c := by
  have o1 := fun h => oper_in (n := n / 27 % 4177) (c := c) (x := x) h
  have o2 := fun h => oper_in (n := n / 32 % 4159) (c := c) (x := x) h
  unfold rowBy Rw.reads at h
  simp only at h
  rw [List.mem_filterMap] at h
  obtain ⟨a, ha, hx⟩ := h
  split at ha
  · simp [Rw.ops] at ha; subst ha; exact o1 hx
  · split at ha
    · simp [Rw.ops] at ha
      rcases ha with rfl | rfl
      · exact o1 hx
      · exact o2 hx
    · split at ha
      · simp [Rw.ops] at ha; subst ha; exact o1 hx
      · split at ha
        · split at ha
          · simp [Rw.ops] at ha
          · split at ha
            · simp [Rw.ops] at ha; subst ha; exact o1 hx
            · simp [Rw.ops] at ha
        · simp [Rw.ops] at ha; subst ha; exact o1 hx
theorem rows_reads {ns : List Int} {r : Rw} (hr : r ∈ rowsBy ns) {x : Str} (hx : x ∈ r.reads) : x ∈ namesBy (cell ns 1) := by
  have hA : ∀ r ∈ rowsA ns, x ∈ r.reads → x ∈ namesBy (cell ns 1) := fun r hr hx => by
    unfold rowsA at hr
    obtain ⟨k, _, rfl⟩ := List.mem_map.mp hr
    exact rowBy_reads hx
  have hB : ∀ r ∈ rowsB (rowsA ns) (namesBy (cell ns 1)) (moreOf ns), x ∈ r.reads → x ∈ namesBy (cell ns 1) := fun r hr hx => by
    unfold rowsB at hr
    have a0 : nmAt (namesBy (cell ns 1)) (moreOf ns) 0 ∈ namesBy (cell ns 1) := nmAt_in (by decide)
    have a1 : nmAt (namesBy (cell ns 1)) (moreOf ns) 1 ∈ namesBy (cell ns 1) := nmAt_in (by decide)
    have a2 : nmAt (namesBy (cell ns 1)) (moreOf ns) 2 ∈ namesBy (cell ns 1) := nmAt_in (by decide)
    split at hr
    · simp only [List.mem_append, List.mem_cons, List.not_mem_nil, or_false] at hr
      rcases hr with (hr | rfl | rfl | rfl) | rfl
      · exact hA r hr hx
      · simp [Rw.reads, Rw.ops, keyS] at hx; subst hx; exact a0
      · simp [Rw.reads, Rw.ops, keyS] at hx; subst hx; exact a1
      · simp [Rw.reads, Rw.ops, keyS] at hx; subst hx; exact a2
      · unfold Rw.reads Rw.ops at hx
        rw [List.mem_filterMap] at hx
        obtain ⟨a, ha, hx⟩ := hx
        simp only [List.mem_singleton] at ha
        subst ha
        split at hx
        · cases hx; exact a0
        · split at hx
          · cases hx; exact a1
          · split at hx
            · cases hx
            · cases hx; exact a2
    · exact hA r hr hx
  unfold rowsBy rowsC at hr
  split at hr
  · rcases List.mem_append.mp hr with hr | hr
    · exact hB r hr hx
    · obtain ⟨y, hy, rfl⟩ := List.mem_map.mp hr
      simp [Rw.reads, Rw.ops, keyS] at hx
      subst hx; exact hy
  · exact hB r hr hx
theorem few_reads (ns : List Int) : (allReads (rowsBy ns)).length ≤ 63 := by
  have h := List.Nodup.length_le_of_subset (allReads_nd (rowsBy ns)) (l₂ := namesBy (cell ns 1)) fun x hx => by
    obtain ⟨r, hr, hx⟩ := mem_allReads.mp hx
    exact rows_reads hr hx
  have := names_len (cell ns 1)
  omega
theorem names_nd (c : Int) : (namesBy c).Nodup := by
  have hat := at_lt c
  have inj : ∀ a b : List Nat, sx a = sx b → a = b := fun a b h => sx_inj h
  have key : (namesC c).Nodup := by
    unfold namesC
    refine List.nodup_append.mpr ⟨?_, by simp, fun a ha b hb e => ?_⟩
    · refine List.pairwise_map.mpr (List.Pairwise.imp_of_mem (fun {a b} ha hb hne e => ?_) (List.nodup_range (n := (2 + c / 49 % 3).toNat)))
      have ha := List.mem_range.mp ha
      have hb := List.mem_range.mp hb
      rw [List.append_assoc, List.append_assoc] at e
      have e2 := List.append_cancel_left e
      simp only [List.cons_append, List.nil_append, List.cons.injEq, and_true] at e2
      omega
    · obtain ⟨k, hk, rfl⟩ := List.mem_map.mp ha
      simp only [List.mem_singleton] at hb
      subst hb
      have := congrArg List.length e
      simp at this
      omega
  unfold namesBy
  exact List.pairwise_map.mpr (key.imp fun h e => h (sx_inj e))
theorem sort_names {ns : List Int} {p : Nat} : (sortS (namesBy (cell ns 1))).filter (isWant (rowsBy ns) p) = wantL (rowsBy ns) p := by
  have q1 := List.pairwise_mergeSort strLe_trans strLe_total (namesBy (cell ns 1))
  have q2 := List.pairwise_mergeSort strLe_trans strLe_total ((allReads (rowsBy ns)).filter (isWant (rowsBy ns) p))
  have nd1 : ((sortS (namesBy (cell ns 1))).filter (isWant (rowsBy ns) p)).Nodup := List.Pairwise.filter _ ((List.mergeSort_perm _ _).nodup_iff.mpr (names_nd _))
  refine List.Perm.eq_of_pairwise (fun a b _ _ h1 h2 => strLe_anti h1 h2) (q1.filter _) q2 ?_
  rw [List.perm_ext_iff_of_nodup nd1 (wantL_nd _ _)]
  intro x
  have hm := mem_wantL (rows := rowsBy ns) (p := p) (x := x)
  have e : x ∈ sortS ((allReads (rowsBy ns)).filter (isWant (rowsBy ns) p)) ↔ Reach (rowsBy ns) p ∧ Wanted (rowsBy ns) x p := hm
  have e1 : x ∈ sortS (namesBy (cell ns 1)) ↔ x ∈ namesBy (cell ns 1) := (List.mergeSort_perm _ _).mem_iff
  rw [List.mem_filter, isWant_iff, e1]
  refine ⟨fun h => hm.mpr h.2, fun h => ?_⟩
  have h := hm.mp h
  obtain ⟨r, hr, hx⟩ := mem_allReads.mp (wanted_reads h.2)
  exact ⟨rows_reads hr hx, h⟩
end VL
namespace K03
open PySem PySem.Spec L2 VL
theorem eq_strs {o p : Bool} {l : List Str} (h : ∀ x ∈ l, PyData.strOk x = true) : eqD (.lst o (l.map .str)) (.lst p (l.map .str)) = .ok true := by
  have hp : ∀ o, VL.plain (.lst o (l.map D.str)) = true := fun o => by
    unfold VL.plain pl
    rw [List.all_eq_true]
    intro d hd
    obtain ⟨x, hx, rfl⟩ := List.mem_map.mp hd
    exact pl_str (h x hx)
  rw [eqD_lst, hp, hp]
  simp [eqv_iff, frzL_strs]
noncomputable def envP (ns : List Int) (rows : List Rw) (names : List Str) (g : Nat → D) (x : Option D × Option D × Option D) : VL.Env := [some (.scr ns), some (.lst true (rows.map rowD)), some (.lst true (rows.map rowD)), some (.lst true ((List.range (rows.length + 1)).map g)), some (.lst true ((reachL rows).map natD)), some (.lst true (names.map .str)), x.1, x.2.1, x.2.2]
theorem body_ok' (G : VL.Ctx) (hW : SpIsWanted (G.at 30)) {ns : List Int} {rows : List Rw} {names : List Str} (ok : OkRows rows) (h62 : rows.length ≤ 62) (hnl : names.length ≤ 63) (hno : ∀ x ∈ names, PyData.strOk x = true) {g : Nat → D} {p : Nat} (hp : p ≤ rows.length) (hg : g p = strsL (wantL rows p)) (hwl : names.filter (isWant rows p) = wantL rows p) (x : Option D × Option D) :
    exB G b1_law (envP ns rows names g (some (natD p), x.1, none)) = .ok (.nx (envP ns rows names (fun j => if j = p then .lst false ((wantL rows p).map .str) else g j) (some (natD p), some (.lst true ((wantL rows p).map .str)), none))) := by
  obtain ⟨x7, x8⟩ := x
  have g6 : ∀ g y, getv (envP ns rows names g y) 6 = y.1 := fun _ _ => rfl
  have g7 : ∀ g y, getv (envP ns rows names g y) 7 = y.2.1 := fun _ _ => rfl
  have g8 : ∀ g y, getv (envP ns rows names g y) 8 = y.2.2 := fun _ _ => rfl
  have g1 : ∀ g y, getv (envP ns rows names g y) 1 = some (.lst true (rows.map rowD)) := fun _ _ => rfl
  have g3 : ∀ g y, getv (envP ns rows names g y) 3 = some (.lst true ((List.range (rows.length + 1)).map g)) := fun _ _ => rfl
  have g4 : ∀ g y, getv (envP ns rows names g y) 4 = some (.lst true ((reachL rows).map natD)) := fun _ _ => rfl
  have w8 : ∀ g a b c, wipeE (envP ns rows names g (a, b, c)) [8] = envP ns rows names g (a, b, none) := fun g a b c => by simp [wipeE, envP]
  have it : evalIt G (.seq (.bnm 5)) (envP ns rows names g (some (natD p), x7, none)) = .ok ((names.map .str, some (5, .lst true (names.map .str))), envP ns rows names g (some (natD p), x7, none)) := by
    simp [-VL.range_map, evalIt, itSeq, slotW, envP, frzL_strs]
  have hinr := in_nats (q := p) (o := true) (l := reachL rows)
  have c : evE G c1_law (envP ns rows names g (some (natD p), x7, none)) = .ok (.lst true ((wantL rows p).map .str), envP ns rows names g (some (natD p), x7, none)) := by
    rw [c1_law, ev_lc, it, Out.bind_ok, ← hwl]
    refine lc_typed D.str (isWant rows p) D.str (Nat.lt_of_le_of_lt hnl (by decide)) (fun ρ h => ?_) fun y hy => ?_
    · rw [stayE_iff]
      have := congrArg (fun ρ => getv ρ 5) h
      simp only [getv_wipeE] at this
      have e : getv ρ 5 = getv (envP ns rows names g (some (natD p), x7, none)) 5 := by simpa using this
      rw [e]; rfl
    · rw [w8]
      have a30 := apply_pure (F := G.at 30) (its := [.inr 1, .inr 6, .inr 8]) (ρ := envP ns rows names g (some (natD p), x7, some (.str y))) rfl (hW true rows p y ok h62 hp)
      refine ⟨envP ns rows names g (some (natD p), x7, some (.str y)), envP ns rows names g (some (natD p), x7, some (.str y)), by simp [-VL.range_map, asgT, setv, envP], ?_, ?_⟩
      · have g6 := g6 g (some (natD p), x7, some (.str y))
        have g8 := g8 g (some (natD p), x7, some (.str y))
        have g1 := g1 g (some (natD p), x7, some (.str y))
        have g4 := g4 g (some (natD p), x7, some (.str y))
        generalize envP ns rows names g (some (natD p), x7, some (.str y)) = ρ at *
        by_cases hr : p ∈ reachL rows
        · have e : isWant rows p y = wantB rows y p := by
            rw [Bool.eq_iff_iff, isWant_iff, wantB_iff]
            exact ⟨fun h => h.2, fun h => ⟨(mem_reachL ok).mp hr, h⟩⟩
          rw [e]
          simp [tstF, evE, evalA, argR, argN, g1, g4, g6, g8, hinr, hr, a30]
        · have e : isWant rows p y = false := by
            rw [Bool.eq_false_iff, ne_eq, isWant_iff]
            exact fun h => hr ((mem_reachL ok).mpr h.1)
          rw [e]
          simp [tstF, evE, evalA, argR, argN, g1, g4, g6, g8, hinr, hr]
      · split
        · exact ⟨envP ns rows names g (some (natD p), x7, some (.str y)), by simp only [evE, g8, Out.of_some, Out.bind_ok, fzd_str, if_true], w8 _ _ _ _⟩
        · exact w8 _ _ _ _
  have hwo : ∀ y ∈ wantL rows p, PyData.strOk y = true := fun y hy => by
    rw [← hwl] at hy
    exact hno y (List.mem_filter.mp hy).1
  have hwlen : (wantL rows p).length ≤ 63 := by
    rw [← hwl]
    exact Nat.le_trans (List.length_filter_le _ _) hnl
  rw [b1_law]
  refine (xb_nx (ρ' := envP ns rows names g (some (natD p), some (.lst true ((wantL rows p).map .str)), none)) (x_set c (by simp [envP]))).trans ?_
  have gr := get_range (g := g) (n := rows.length + 1) (q := p) (by omega)
  rw [hg] at gr
  have hsb : subD (.lst true ((List.range (rows.length + 1)).map g)) (natD p) = .ok (strsL (wantL rows p)) := by
    rw [sub_lst, ixN_nat (by simp; omega)]
    simp only [Out.of_some, Out.bind_ok, gr]
  have hs : ∀ y, subE (envP ns rows names g y) 3 (natD p) = .ok (.lst false ((wantL rows p).map .str), envP ns rows names (fun j => if j = p then .lst false ((wantL rows p).map .str) else g j) y) := fun y => by
    have w : whichD (.lst true ((List.range (rows.length + 1)).map g)) (natD p) = some p := by
      show ixN _ _ = _
      exact ixN_nat (by simp; omega)
    have f1 : fzd (strsL (wantL rows p)) = false := by simp [strsL]
    have f2 : frz (strsL (wantL rows p)) = .lst false ((wantL rows p).map .str) := by simp [strsL, frzL_strs]
    unfold subE
    rw [g3]
    simp only [w, Out.of_some, Out.bind_ok, takeKid, kids_lst, gr, f1, f2, Bool.false_eq_true, if_false, setKid_lst]
    rw [set_range (by omega)]
    rfl
  refine (xb_nx (ρ' := envP ns rows names (fun j => if j = p then .lst false ((wantL rows p).map .str) else g j) (some (natD p), some (.lst true ((wantL rows p).map .str)), none)) ((x_ifF (ρ' := envP ns rows names (fun j => if j = p then .lst false ((wantL rows p).map .str) else g j) (some (natD p), some (.lst true ((wantL rows p).map .str)), none)) ?_).trans xb_nil)).trans ?_
  · have es := eq_strs (o := false) (p := true) hwo
    have i1 : isiD (strsL (wantL rows p)) .list = true := rfl
    have i2 : isiOk (strsL (wantL rows p)) = true := rfl
    simp [-VL.range_map, -VL.sub_lst, tstF, evE, argN, g3, g6, g7, hsb, hs, i1, i2, es]
  · have gr2 : ((List.range (rows.length + 1)).map fun j => if j = p then D.lst false ((wantL rows p).map .str) else g j)[p]? = some (.lst false ((wantL rows p).map .str)) := by
      rw [get_range (by omega)]; simp
    have hs2 : ∀ y, subE (envP ns rows names (fun j => if j = p then .lst false ((wantL rows p).map .str) else g j) y) 3 (natD p) = .ok (.lst false ((wantL rows p).map .str), envP ns rows names (fun j => if j = p then .lst false ((wantL rows p).map .str) else g j) y) := fun y =>
      sub_at (g3 _ _) gr2 (by simp [fzdL_strs])
    have it2 : evalIt G (.seq (.sub (.lnm 3) (.nm 6))) (envP ns rows names (fun j => if j = p then .lst false ((wantL rows p).map .str) else g j) (some (natD p), some (.lst true ((wantL rows p).map .str)), none)) = .ok (((wantL rows p).map .str, none), envP ns rows names (fun j => if j = p then .lst false ((wantL rows p).map .str) else g j) (some (natD p), some (.lst true ((wantL rows p).map .str)), none)) := by
      simp [-VL.range_map, -VL.sub_lst, evalIt, itSeq, evE, argN, g3, g6, hs2, seqsD, frzL_strs]
    have c2 : evE G c2_law (envP ns rows names (fun j => if j = p then .lst false ((wantL rows p).map .str) else g j) (some (natD p), some (.lst true ((wantL rows p).map .str)), none)) = .ok (.lst true [], envP ns rows names (fun j => if j = p then .lst false ((wantL rows p).map .str) else g j) (some (natD p), some (.lst true ((wantL rows p).map .str)), none)) := by
      rw [c2_law, ev_lc, it2, Out.bind_ok]
      have := lc_typed (own := [8]) (g := .one 8) (t := tstF (evE G (.not_ (.isi (.bnm 8) .str)))) (el := evE G (.nm 8)) (ch := none) (ρ := envP ns rows names (fun j => if j = p then .lst false ((wantL rows p).map .str) else g j) (some (natD p), some (.lst true ((wantL rows p).map .str)), none)) D.str (fun _ => false) D.str (l := wantL rows p) (Nat.lt_of_le_of_lt hwlen (by decide)) (fun _ _ => rfl) (fun y hy => by
        rw [w8]
        refine ⟨envP ns rows names (fun j => if j = p then .lst false ((wantL rows p).map .str) else g j) (some (natD p), some (.lst true ((wantL rows p).map .str)), some (.str y)), envP ns rows names (fun j => if j = p then .lst false ((wantL rows p).map .str) else g j) (some (natD p), some (.lst true ((wantL rows p).map .str)), some (.str y)), by simp [-VL.range_map, asgT, setv, envP], ?_, by rw [if_neg Bool.false_ne_true]; exact w8 _ _ _ _⟩
        have i1 : isiD (.str y) .str = true := rfl
        have i2 : isiOk (.str y) = true := rfl
        simp [-VL.range_map, tstF, evE, g8, i1, i2])
      rw [List.filter_eq_nil_iff.mpr (by simp)] at this
      exact this
    have en : eqD (.lst true []) (.lst true []) = .ok true := by
      have := eq_strs (o := true) (p := true) (l := []) (by simp)
      simpa using this
    refine xb_one ((x_ifF (ρ' := envP ns rows names (fun j => if j = p then .lst false ((wantL rows p).map .str) else g j) (some (natD p), some (.lst true ((wantL rows p).map .str)), none)) ?_).trans xb_nil)
    have an : ∀ f ρ, argN c2_law f ρ = (f ρ).bind fun x => .ok (.inl x.1, x.2) := fun f ρ => argN_def rfl
    simp [-VL.range_map, tstF, evE, evalL, an, c2, en]
theorem law_true (G : VL.Ctx) (hN : SpNames (G.at 2)) (hC : SpCell (G.at 3)) (hRs : SpRows (G.at 6)) (hL : SpReached (G.at 22)) (hWs : SpWants (G.at 28)) (hW : SpIsWanted (G.at 30)) (ns : List Int) : ∃ fin, d_law.run G [.scr ns] = .ok (.bl true, fin) := by
  have ok := rows_ok ns
  have okr : ∀ r ∈ rowsBy ns, OkR r := fun r hr => (ok r hr).1
  have h62 : (rowsBy ns).length ≤ 62 := by have := rows_len ns; omega
  have few := few_reads ns
  have hnl := names_len (cell ns 1)
  have q1 := apply_pure (its := [.inr 0]) (ρ := [some (.scr ns), none, none, none, none, none, none, none, none]) rfl (hRs ns)
  have hsn : ∀ p, (sortS (namesBy (cell ns 1))).filter (isWant (rowsBy ns) p) = wantL (rowsBy ns) p := fun p => sort_names
  have hso : ∀ x ∈ sortS (namesBy (cell ns 1)), PyData.strOk x = true := fun x hx => (names_ok (c := cell ns 1) ((List.mergeSort_perm _ _).mem_iff.mp hx)).strOk
  have hsl : (sortS (namesBy (cell ns 1))).length ≤ 63 := by unfold sortS; rw [List.length_mergeSort]; omega
  have cs : c1D .sorted (.lst true ((namesBy (cell ns 1)).map .str)) = .ok (.lst true ((sortS (namesBy (cell ns 1))).map .str)) := by
    rw [c1_sortL, sortD_strs]
    simp [show (namesBy (cell ns 1)).length < 64 by omega]
  have q2 : ∀ ρ : VL.Env, getv ρ 0 = some (.scr ns) → applyF (G.at 3) [.inr 0, .inl (.int 1)] ρ = .ok (.int (cell ns 1), ρ) := fun ρ h => apply_pure (ds := [.scr ns, .int 1]) (by simp [looks, look, h]) (hC ns 1 1 rfl)
  have q3 : ∀ ρ : VL.Env, applyF (G.at 2) [.inl (.int (cell ns 1))] ρ = .ok (.lst true ((namesBy (cell ns 1)).map .str), ρ) := fun ρ => apply_pure (ds := [.int (cell ns 1)]) (by simp [looks, look]) (hN (cell ns 1))
  generalize rowsBy ns = rows at *
  generalize sortS (namesBy (cell ns 1)) = names at *
  have hrl := reachL_len rows
  have main : Gives G d_law.body [some (.scr ns), none, none, none, none, none, none, none, none] (.bl true) := by
    unfold d_law
    refine gv_nx (ρ' := [some (.scr ns), some (.lst true (rows.map rowD)), none, none, none, none, none, none, none]) (by simp [exS, ev_call, evalA, argR, evE, q1, setv]) ?_
    refine gv_nx (ρ' := [some (.scr ns), some (.lst true (rows.map rowD)), some (.lst true (rows.map rowD)), none, none, none, none, none, none]) (by simp [exS, evE, argN, fzdL_rows, setv]) ?_
    have a3 := apply_pure (its := [.inr 2]) (ρ := [some (.scr ns), some (.lst true (rows.map rowD)), some (.lst true (rows.map rowD)), none, none, none, none, none, none]) rfl (hWs true rows ok h62 few)
    refine gv_nx (ρ' := [some (.scr ns), some (.lst true (rows.map rowD)), some (.lst true (rows.map rowD)), some (wantsD rows), none, none, none, none, none]) (by simp [exS, ev_call, evalA, argR, a3, setv]) ?_
    refine gv_nx (ρ' := [some (.scr ns), some (.lst true (rows.map rowD)), some (.lst true (rows.map rowD)), some (wantsD rows), none, none, none, none, none]) ((x_ifF (ρ' := [some (.scr ns), some (.lst true (rows.map rowD)), some (.lst true (rows.map rowD)), some (wantsD rows), none, none, none, none, none]) ?_).trans xb_nil) ?_
    · have i1 : isiD (wantsD rows) .list = true := rfl
      have i2 : isiOk (wantsD rows) = true := rfl
      have l1 : lenD (wantsD rows) = .ok ((rows.length : Int) + 1) := by simp [-VL.range_map, wantsD]
      simp [tstF, evE, argN, eq_rows okr, i1, i2, l1]
    have a4 := apply_pure (its := [.inr 1]) (ρ := [some (.scr ns), some (.lst true (rows.map rowD)), some (.lst true (rows.map rowD)), some (wantsD rows), none, none, none, none, none]) rfl (hL true rows ok h62)
    refine gv_nx (ρ' := [some (.scr ns), some (.lst true (rows.map rowD)), some (.lst true (rows.map rowD)), some (wantsD rows), some (.lst true ((reachL rows).map natD)), none, none, none, none]) (by simp [exS, ev_call, evalA, argR, a4, setv]) ?_
    refine gv_nx (ρ' := envP ns rows names (fun j => strsL (wantL rows j)) (none, none, none)) ?_ ?_
    · refine (x_set (d := .lst true (names.map .str)) (ρ' := [some (.scr ns), some (.lst true (rows.map rowD)), some (.lst true (rows.map rowD)), some (wantsD rows), some (.lst true ((reachL rows).map natD)), none, none, none, none]) ?_ (by simp)).trans rfl
      simp [evE, ev_call, evalA, argR, argN, q2, q3, cs]
    have it : evalIt G (.rng (.bin .add (.b1 .len (.bnm 1)) (.ci 1))) (envP ns rows names (fun j => strsL (wantL rows j)) (none, none, none)) = .ok (((List.range (rows.length + 1)).map natD, none), envP ns rows names (fun j => strsL (wantL rows j)) (none, none, none)) :=
      ev_rng (n := rows.length + 1) (by simp [-VL.range_map, evE, argN, envP]) (by omega)
    obtain ⟨x', loop⟩ := for_pre natD (fun (pre : List Nat) x => envP ns rows names (fun j => if j ∈ pre then .lst false ((wantL rows j).map .str) else strsL (wantL rows j)) (x.1, x.2, none)) (l := List.range (rows.length + 1)) (ch := none) (asg := asgT (.one 6)) (body := exB G b1_law) (fun _ _ => rfl) (fun pre p post x e => by
      have hpm : p ∈ List.range (rows.length + 1) := by rw [e]; simp
      have hp := List.mem_range.mp hpm
      have nd := List.nodup_range (n := rows.length + 1)
      rw [e] at nd
      have hpre : p ∉ pre := fun z => (List.nodup_append.mp nd).2.2 p z p List.mem_cons_self rfl
      refine ⟨envP ns rows names (fun j => if j ∈ pre then .lst false ((wantL rows j).map .str) else strsL (wantL rows j)) (some (natD p), x.2, none), by simp [-VL.range_map, asgT, setv, envP], (some (natD p), some (.lst true ((wantL rows p).map .str))), ?_⟩
      rw [body_ok' G hW ok h62 hsl hso (by omega) (by rw [if_neg hpre]) (hsn p) (x.2, none)]
      have ef : (fun j => if j = p then D.lst false ((wantL rows p).map .str) else if j ∈ pre then .lst false ((wantL rows j).map .str) else strsL (wantL rows j)) = fun j => if j ∈ pre ++ [p] then D.lst false ((wantL rows j).map .str) else strsL (wantL rows j) := by
        funext j
        by_cases e : j = p
        · subst e; simp
        · simp [e]
      rw [ef]) (none, none)
    refine gv_nx (ρ' := envP ns rows names (fun j => if j ∈ List.range (rows.length + 1) then .lst false ((wantL rows j).map .str) else strsL (wantL rows j)) (x'.1, x'.2, none)) ?_ (gv_ret (d := .bl true) (ρ' := envP ns rows names (fun j => if j ∈ List.range (rows.length + 1) then .lst false ((wantL rows j).map .str) else strsL (wantL rows j)) (x'.1, x'.2, none)) (by simp only [evE]))
    rw [l1_law, x_for it]
    exact loop
  obtain ⟨ρ', h⟩ := main
  exact ⟨_, run_rt rfl h⟩
noncomputable abbrev Gk (n : Nat) : VL.Ctx := ⟨gl, runs gl [] (ts0.take n)⟩
theorem gk_all : (⟨gl, runs gl [] ts0⟩ : VL.Ctx) = Gk 31 := rfl
theorem h0 (n : Nat) (a : 0 < n) (b : n ≤ 31) : SpSize ((Gk n).at 0) := by
  rw [at_runs (gl := gl) (ts := ts0) (k := 0) (by decide) n a b]
  exact m_size _
theorem h1 (n : Nat) (a : 1 < n) (b : n ≤ 31) : SpMixed ((Gk n).at 1) := by
  rw [at_runs (gl := gl) (ts := ts0) (k := 1) (by decide) n a b]
  exact fun c k => m_mixed _ c k
theorem h2 (n : Nat) (a : 2 < n) (b : n ≤ 31) : SpNames ((Gk n).at 2) := by
  rw [at_runs (gl := gl) (ts := ts0) (k := 2) (by decide) n a b]
  exact m_names _ (h1 2 (by decide) (by decide))
theorem h3 (n : Nat) (a : 3 < n) (b : n ≤ 31) : SpCell ((Gk n).at 3) := by
  rw [at_runs (gl := gl) (ts := ts0) (k := 3) (by decide) n a b]
  exact m_cell _
theorem h4 (n : Nat) (a : 4 < n) (b : n ≤ 31) : SpOper ((Gk n).at 4) := by
  rw [at_runs (gl := gl) (ts := ts0) (k := 4) (by decide) n a b]
  exact m_operand _
theorem h5 (n : Nat) (a : 5 < n) (b : n ≤ 31) : SpRowBy ((Gk n).at 5) := by
  rw [at_runs (gl := gl) (ts := ts0) (k := 5) (by decide) n a b]
  exact m_row_by _ (h4 5 (by decide) (by decide))
theorem h6 (n : Nat) (a : 6 < n) (b : n ≤ 31) : SpRows ((Gk n).at 6) := by
  rw [at_runs (gl := gl) (ts := ts0) (k := 6) (by decide) n a b]
  exact m_rows _ (h0 6 (by decide) (by decide)) (h1 6 (by decide) (by decide)) (h2 6 (by decide) (by decide)) (h3 6 (by decide) (by decide)) (h5 6 (by decide) (by decide))
theorem h8 (n : Nat) (a : 8 < n) (b : n ≤ 31) : SpName ((Gk n).at 8) := by
  rw [at_runs (gl := gl) (ts := ts0) (k := 8) (by decide) n a b]
  exact fun x hx => m_is_name _ rfl rfl hx
theorem h9 (n : Nat) (a : 9 < n) (b : n ≤ 31) : SpWhole ((Gk n).at 9) := by
  rw [at_runs (gl := gl) (ts := ts0) (k := 9) (by decide) n a b]
  exact fun a => m_is_whole _ a
theorem h10 (n : Nat) (a : 10 < n) (b : n ≤ 31) : SpAsked ((Gk n).at 10) := by
  rw [at_runs (gl := gl) (ts := ts0) (k := 10) (by decide) n a b]
  exact fun r => m_asked _ r
theorem h11 (n : Nat) (a : 11 < n) (b : n ≤ 31) : SpRow ((Gk n).at 11) := by
  rw [at_runs (gl := gl) (ts := ts0) (k := 11) (by decide) n a b]
  exact m_is_row _ (h8 11 (by decide) (by decide)) (h9 11 (by decide) (by decide)) (h10 11 (by decide) (by decide))
theorem h12 (n : Nat) (a : 12 < n) (b : n ≤ 31) : SpNeed ((Gk n).at 12) := by
  rw [at_runs (gl := gl) (ts := ts0) (k := 12) (by decide) n a b]
  exact m_need_rows _ (h11 12 (by decide) (by decide)) (h9 12 (by decide) (by decide))
theorem h14 (n : Nat) (a : 14 < n) (b : n ≤ 31) : SpWritten ((Gk n).at 14) := by
  rw [at_runs (gl := gl) (ts := ts0) (k := 14) (by decide) n a b]
  exact fun r => m_written _ r
theorem h19 (n : Nat) (a : 19 < n) (b : n ≤ 31) : SpAsked ((Gk n).at 19) := by
  rw [at_runs (gl := gl) (ts := ts0) (k := 19) (by decide) n a b]
  exact fun r => m_law_asks _ r
theorem h21 (n : Nat) (a : 21 < n) (b : n ≤ 31) : SpNext ((Gk n).at 21) := by
  rw [at_runs (gl := gl) (ts := ts0) (k := 21) (by decide) n a b]
  exact m_law_next _
theorem h22 (n : Nat) (a : 22 < n) (b : n ≤ 31) : SpReached ((Gk n).at 22) := by
  rw [at_runs (gl := gl) (ts := ts0) (k := 22) (by decide) n a b]
  exact m_law_reached _ (h21 22 (by decide) (by decide))
theorem h23 (n : Nat) (a : 23 < n) (b : n ≤ 31) : SpNext ((Gk n).at 23) := by
  rw [at_runs (gl := gl) (ts := ts0) (k := 23) (by decide) n a b]
  exact m_next _
theorem h24 (n : Nat) (a : 24 < n) (b : n ≤ 31) : SpReached ((Gk n).at 24) := by
  rw [at_runs (gl := gl) (ts := ts0) (k := 24) (by decide) n a b]
  exact m_reached _ (h12 24 (by decide) (by decide)) (h23 24 (by decide) (by decide))
theorem h27 (n : Nat) (a : 27 < n) (b : n ≤ 31) : SpRead ((Gk n).at 27) := by
  rw [at_runs (gl := gl) (ts := ts0) (k := 27) (by decide) n a b]
  exact m_read _ (h9 27 (by decide) (by decide)) (h10 27 (by decide) (by decide))
theorem h28 (n : Nat) (a : 28 < n) (b : n ≤ 31) : SpWants ((Gk n).at 28) := by
  rw [at_runs (gl := gl) (ts := ts0) (k := 28) (by decide) n a b]
  exact m_names_wanted _ (h14 28 (by decide) (by decide)) (h23 28 (by decide) (by decide)) (h24 28 (by decide) (by decide)) (h27 28 (by decide) (by decide))
theorem h29 (n : Nat) (a : 29 < n) (b : n ≤ 31) : SpWritten ((Gk n).at 29) := by
  rw [at_runs (gl := gl) (ts := ts0) (k := 29) (by decide) n a b]
  exact m_law_own _
theorem h30 (n : Nat) (a : 30 < n) (b : n ≤ 31) : SpIsWanted ((Gk n).at 30) := by
  rw [at_runs (gl := gl) (ts := ts0) (k := 30) (by decide) n a b]
  exact m_is_wanted _ (h19 30 (by decide) (by decide)) (h21 30 (by decide) (by decide)) (h29 30 (by decide) (by decide))
theorem plain (ns : List Int) (hl : ns.length ≤ 63) : ∃ fin, d_law.run ⟨gl, runs gl [] ts0⟩ [.scr ns] = .ok (.bl true, fin) := by
  rw [gk_all]
  exact law_true _ (h2 _ (by decide) (by decide)) (h3 _ (by decide) (by decide)) (h6 _ (by decide) (by decide)) (h22 _ (by decide) (by decide)) (h28 _ (by decide) (by decide)) (h30 _ (by decide) (by decide)) ns
end K03
open PySem PySem.W PyProof.Rows
set_option maxHeartbeats 0 in
theorem PySem.Challenge.cw_joinmarks_k03_names_wanted_holds : PySem.Challenge.rw_joinmarks_k03_names_wanted.Holds := by
  w_on; o_law; k_head; (case hw => w_witness2)
  k_fill
  refine L2.walk_ofK (l := PySem.Challenge.rw_joinmarks_k03_names_wanted) (n := 63) (k := 32) (x := "_law_script") (CX := L2.CX0) (sp := fun K => VL.spF ⟨K, fun _ => none, []⟩ (K03.d_law.run ⟨K03.gl, VL.runs K03.gl [] K03.ts0⟩)) rfl (by decide) rfl ⟨rfl, by decide, by decide⟩ (fun w h Y => PySem.W.kIn_of Y) ?F (fun _ _ a ns hl hO hS => VL.sp_script hO hS (K03.plain ns hl)) (fun _ _ _ _ h => h)
  case F =>
    intro w mg fa h KX G hmg
    refine' K03.all_mk KX G hmg ?a0 ?l0 ?c0 ?k0 ?a1 ?l1 ?c1 ?k1 ?a2 ?l2 ?c2 ?k2 ?a3 ?l3 ?c3 ?k3 ?a4 ?l4 ?c4 ?k4 ?a5 ?l5 ?c5 ?k5 ?a6 ?l6 ?c6 ?k6 ?a7 ?l7 ?c7 ?k7 ?a8 ?l8 ?c8 ?k8 ?a9 ?l9 ?c9 ?k9 ?a10 ?l10 ?c10 ?k10 ?a11 ?l11 ?c11 ?k11 ?a12 ?l12 ?c12 ?k12 ?a13 ?l13 ?c13 ?k13 ?a14 ?l14 ?c14 ?k14 ?a15 ?l15 ?c15 ?k15 ?a16 ?l16 ?c16 ?k16 ?a17 ?l17 ?c17 ?k17 ?a18 ?l18 ?c18 ?k18 ?a19 ?l19 ?c19 ?k19 ?a20 ?l20 ?c20 ?k20 ?a21 ?l21 ?c21 ?k21 ?a22 ?l22 ?c22 ?k22 ?z0 ?z1 ?z2 ?z3 ?z4 ?z5 ?z6 ?z7 ?z8 ?z9 ?z10 ?z11 ?z12 ?z13 ?z14 ?vg0 ?vg1
    (case a0 => k_is); (case l0 => k_is); (case c0 => k_is); (case k0 => k_is); (case a1 => k_is); (case l1 => k_is); (case c1 => k_is); (case k1 => k_is); (case a2 => k_is); (case l2 => k_is); (case c2 => k_is); (case k2 => k_is); (case a3 => k_is); (case l3 => k_is); (case c3 => k_is); (case k3 => k_is); (case a4 => k_is); (case l4 => k_is); (case c4 => k_is); (case k4 => k_is); (case a5 => k_is); (case l5 => k_is); (case c5 => k_is); (case k5 => k_is); (case a6 => k_is); (case l6 => k_is); (case c6 => k_is); (case k6 => k_is); (case a7 => k_is); (case l7 => k_is); (case c7 => k_is); (case k7 => k_is); (case a8 => k_is); (case l8 => k_is); (case c8 => k_is); (case k8 => k_is); (case a9 => k_is); (case l9 => k_is); (case c9 => k_is); (case k9 => k_is); (case a10 => k_is); (case l10 => k_is); (case c10 => k_is); (case k10 => k_is); (case a11 => k_is); (case l11 => k_is); (case c11 => k_is); (case k11 => k_is); (case a12 => k_is); (case l12 => k_is); (case c12 => k_is); (case k12 => k_is); (case a13 => k_is); (case l13 => k_is); (case c13 => k_is); (case k13 => k_is); (case a14 => k_is); (case l14 => k_is); (case c14 => k_is); (case k14 => k_is); (case a15 => k_is); (case l15 => k_is); (case c15 => k_is); (case k15 => k_is); (case a16 => k_is); (case l16 => k_is); (case c16 => k_is); (case k16 => k_is); (case a17 => k_is); (case l17 => k_is); (case c17 => k_is); (case k17 => k_is); (case a18 => k_is); (case l18 => k_is); (case c18 => k_is); (case k18 => k_is); (case a19 => k_is); (case l19 => k_is); (case c19 => k_is); (case k19 => k_is); (case a20 => k_is); (case l20 => k_is); (case c20 => k_is); (case k20 => k_is); (case a21 => k_is); (case l21 => k_is); (case c21 => k_is); (case k21 => k_is); (case a22 => k_is); (case l22 => k_is); (case c22 => k_is); (case k22 => k_is); (case z0 => k_is); (case z1 => k_is); (case z2 => k_is); (case z3 => k_is); (case z4 => k_is); (case z5 => k_is); (case z6 => k_is); (case z7 => k_is); (case z8 => k_is); (case z9 => k_is); (case z10 => k_is); (case z11 => k_is); (case z12 => k_is); (case z13 => k_is); (case z14 => k_is); (case vg0 => k_is); (case vg1 => k_is)
